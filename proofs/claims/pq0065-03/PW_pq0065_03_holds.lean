import PyProof.Rows.All
import Wide.All
import OpenK.AllK
import Wide.FinOn
import PyProof.DictCompW
import KE.KDictSum
import KE.KSortTup
import PyProof.AttrMissHeap
import KE.KDictOf
import KE.KDictLetter
import PySem.Challenge.RW_pq0065_03
noncomputable section
set_option autoImplicit false
set_option maxRecDepth 100000
set_option bootstrap.genMatcherCode false
set_option genSizeOf false
set_option linter.all false
set_option backward.match.sparseCases false
open PySem PySem.W PyProof.Rows PySem.Calls PySem.SeqAt PySem.MeetsSeq
@[elab_as_elim] theorem Mine.Internal.b9 {α:Sort _} {a b:α} {motive:α->Prop} (h:a=b) (x:motive b):motive a:=h▸x
local macro_rules |`(tactic|rw [$e:term])=>`(tactic|refine Mine.Internal.b9 $e ?_)
namespace Mine.Internal
noncomputable def c5b:=@PySem.wpAny_bind
noncomputable def c5c:=@PySem.wpAny_pure
noncomputable def c5d:=@PySem.wpAny_mono
noncomputable def c5e:=@PySem.wpAny_holding
noncomputable def c5f:=@PySem.wpAny_call_entry
noncomputable def c5g:=@PySem.wpAny_standAt
noncomputable def c5h:=@PySem.wpAny_newObj_type
noncomputable def c5i:=@PySem.Heap.get?_push_of_some
noncomputable def c5j:=@PySem.Heap.get?_push_size
noncomputable def c5k:=@PySem.Heap.get?_update_other
noncomputable def c5l:=@PySem.Heap.get?_update_self
noncomputable def c5m:=@PySem.Heap.SameBut.update
noncomputable def c5n:=@PySem.Heap.lt_size
noncomputable def c5o:=@Nat.le_of_ble_eq_true
noncomputable def c5p:=@List.mem_of_getElem?
noncomputable def c5q:=@List.length_map
noncomputable def c5r:=@Nat.le_trans
noncomputable def c5s:=@List.getElem?_eq_getElem
noncomputable def c5t:=@List.mem_cons_of_mem
noncomputable def c5u:=@List.mem_cons_self
noncomputable def c5v:=@Nat.lt_of_le_of_lt
noncomputable def c5w:=@Nat.le_refl
noncomputable def c5x:=@List.getElem?_map
noncomputable def c5y:=@of_decide_eq_true
noncomputable def c5z:=@congrArg
noncomputable def c5A:=@Option.some.inj
noncomputable def c5B:=@Nat.zero_le
noncomputable def c5C:=@List.map_congr_left
noncomputable def c5D:=@List.mem_append_left
noncomputable def c5E:=@List.mem_append_right
noncomputable def c5F:=@Bool.false_ne_true
noncomputable def c5G:=@Nat.lt_of_lt_of_le
noncomputable def c5H:=@List.getD_eq_getElem?_getD
noncomputable def c5I:=@Nat.add_le_add_left
noncomputable def c5J:=@Nat.lt_succ_self
noncomputable def c5K:=@Nat.le_of_eq
noncomputable def c5L:=@Nat.le_of_lt_succ
noncomputable def c5M:=@Nat.le_add_right
noncomputable def c5N:=@Int.natCast_nonneg
noncomputable def c5O:=@Classical.byContradiction
noncomputable def c5P:=@List.not_mem_nil
noncomputable def c5Q:=@Nat.ne_of_lt
noncomputable def c5R:=@Nat.add_le_add_right
noncomputable def c5S:=@List.eq_nil_of_length_eq_zero
noncomputable def c5T:=@List.getElem?_eq_none
noncomputable def c5U:=@Nat.lt_irrefl
noncomputable def c5V:=@Array.length_toList
noncomputable def c5W:=@List.mem_of_find?_eq_some
noncomputable def c5X:=@Array.getElem?_eq_getElem
noncomputable def c5Y:=@decide_eq_false
noncomputable def c5Z:=@Nat.le_total
noncomputable def c50:=@List.length_append
noncomputable def c51:=@Nat.lt_succ_of_le
noncomputable def c53:=@Nat.succ_pos
noncomputable def c54:=@List.map_append
noncomputable def c55:=@List.map_map
noncomputable def c56:=@Array.getElem?_toList
noncomputable def c57:=@if_neg
noncomputable def c58:=@if_pos
noncomputable def c59:=@absurd
noncomputable def c6a:=@List.map_cons
noncomputable def c6b:=@List.length_range
noncomputable def c6c:=@List.lookup_cons
noncomputable def c6d:=@List.length_cons
noncomputable def c6e:=@Array.getD_eq_getD_getElem?
noncomputable def c6f:=@Nat.le_of_lt
noncomputable def c6g:=@Nat.le_add_left
noncomputable def c6h:=@decide_eq_true
noncomputable def c6i:=@Nat.lt_trans
noncomputable def c6j:=@of_decide_eq_false
noncomputable def c6k:=@List.take_add_one
noncomputable def c6l:=@Int.le_trans
noncomputable def c6m:=@beq_self_eq_true
noncomputable def c6n:=@List.take_length
noncomputable def c6o:=@List.append_nil
noncomputable def c6p:=@Nat.mul_le_mul_left
noncomputable def c6q:=@Nat.add_le_add
noncomputable def c6r:=@List.nodup_nil
noncomputable def c6s:=@List.getElem?_append_left
noncomputable def c6u:=@eq_of_beq
noncomputable def c6v:=@Nat.lt_of_le_of_ne
noncomputable def c6w:=@List.size_toArray
noncomputable def c6x:=@Nat.succ_le_succ
noncomputable def c6y:=@Nat.lt_succ_of_lt
noncomputable def c6z:=@List.sum_cons
noncomputable def c6A:=@Nat.not_lt_zero
noncomputable def c6B:=@List.length_set
theorem c6C{α:Type _}{l:List α}{i:Nat}{a:α}(h:l[i]?=some a):∃h,l[i]'h=a:=List.getElem?_eq_some_iff.mp h
theorem c6D{α β:Type _}{f:α->β}{l:List α}{b:β}(h:b∈l.map f):∃a,a∈l/\f a=b:=List.mem_map.mp h
theorem c6E{α β:Type _}{f:α->β}{l:List α}{b:β}(h:∃a,a∈l/\f a=b):b∈l.map f:=List.mem_map.mpr h
theorem c6F{x y:Bool}(h:(x&&y)=true):x=true/\y=true:=Bool.and_eq_true_iff.mp h
theorem c6G{α β:Type _}{x:Option α}{f:α->β}{b:β}(h:x.map f=some b):∃a,x=some a/\f a=b:=Option.map_eq_some_iff.mp h
theorem c6H{α:Type _}{a:α}{s t:List α}(h:a∈s++t):a∈s\/a∈t:=List.mem_append.mp h
theorem c6I{α:Type _}{a b:α}(h:a∈[b]):a=b:=List.mem_singleton.mp h
theorem c6J{α:Type _}{x:Option α}(h:x.isSome=true):∃a,x=some a:=Option.isSome_iff_exists.mp h
theorem c6K{α:Type _}{a b:α}{l:List α}(h:a∈b::l):a=b\/a∈l:=List.mem_cons.mp h
theorem c6L{α:Type _}{a:α}{l:List α}(h:a∈l):∃i:Nat,l[i]?=some a:=List.mem_iff_getElem?.mp h
theorem c6M{α:Type _}{a b:α}(h:a=b):a∈[b]:=List.mem_singleton.mpr h
theorem c6N{m n:Nat}(h:m<n):m∈List.range n:=List.mem_range.mpr h
theorem c6O{m n:Nat}(h:m∈List.range n):m<n:=List.mem_range.mp h
theorem c6P{m n:Nat}(h:m<n):(m:Int)<n:=Int.ofNat_lt.mpr h
theorem c6Q{m n:Nat}(h:m<=n):(m:Int)<=n:=Int.ofNat_le.mpr h
theorem c6R{x y:Bool}(h:x=true/\y=true):(x&&y)=true:=Bool.and_eq_true_iff.mpr h
abbrev c6S:=PySem.Expr
variable {P:Prop}{α1 α2 α3 α4 α5 α6:Sort _}
theorem eE {r:α1->Prop} (h:∃ q:α1,r q) (k:∀ q:α1,r q->P):P:=h.elim λq h=>k q h
theorem eA {q r:Prop} (h:q/\r) (k:q->r->P):P:=h.elim λq h=>k q h
theorem i9 {B r:α1->Prop} (h:∃ q:α1,B q/\r q) (k:∀ q:α1,B q->r q->P):P:=h.elim λq h=>h.elim λB h=>k q B h
theorem eAA {q B r:Prop} (h:q/\B/\r) (k:q->B->r->P):P:=h.elim λq h=>h.elim λB h=>k q B h
theorem eEE {r:α1->α2->Prop} (h:∃ q:α1,∃ B:α2,r q B) (k:∀ q:α1,∀ B:α2,r q B->P):P:=h.elim λq h=>h.elim λB h=>k q B h
theorem u6 {J r:α1->α2->Prop} (h:∃ q:α1,∃ B:α2,J q B/\r q B) (k:∀ q:α1,∀ B:α2,J q B->r q B->P):P:=h.elim λq h=>h.elim λB h=>h.elim λJ h=>k q B J h
theorem p9 {B J r:α1->Prop} (h:∃ q:α1,B q/\J q/\r q) (k:∀ q:α1,B q->J q->r q->P):P:=h.elim λq h=>h.elim λB h=>h.elim λJ h=>k q B J h
theorem b3Y {q B J r:Prop} (h:q/\B/\J/\r) (k:q->B->J->r->P):P:=h.elim λq h=>h.elim λB h=>h.elim λJ h=>k q B J h
theorem c0C {r:α1->α2->α3->Prop} (h:∃ q:α1,∃ B:α2,∃ J:α3,r q B J) (k:∀ q:α1,∀ B:α2,∀ J:α3,r q B J->P):P:=h.elim λq h=>h.elim λB h=>h.elim λJ h=>k q B J h
theorem j8 {J O r:α1->α2->Prop} (h:∃ q:α1,∃ B:α2,J q B/\O q B/\r q B) (k:∀ q:α1,∀ B:α2,J q B->O q B->r q B->P):P:=h.elim λq h=>h.elim λB h=>h.elim λJ h=>h.elim λO h=>k q B J O h
theorem J9 {B J O r:α1->Prop} (h:∃ q:α1,B q/\J q/\O q/\r q) (k:∀ q:α1,B q->J q->O q->r q->P):P:=h.elim λq h=>h.elim λB h=>h.elim λJ h=>h.elim λO h=>k q B J O h
theorem a36 {O r:α1->α2->α3->Prop} (h:∃ q:α1,∃ B:α2,∃ J:α3,O q B J/\r q B J) (k:∀ q:α1,∀ B:α2,∀ J:α3,O q B J->r q B J->P):P:=h.elim λq h=>h.elim λB h=>h.elim λJ h=>h.elim λO h=>k q B J O h
theorem a59 {q B J O r:Prop} (h:q/\B/\J/\O/\r) (k:q->B->J->O->r->P):P:=h.elim λq h=>h.elim λB h=>h.elim λJ h=>h.elim λO h=>k q B J O h
theorem V7 {B J:Prop} {O r:α1->Prop} (h:B/\J/\∃ q:α1,O q/\r q) (k:B->J->∀ q:α1,O q->r q->P):P:=h.elim λB h=>h.elim λJ h=>h.elim λq h=>h.elim λO h=>k B J q O h
theorem K8 {J O:α1->Prop} {r:α1->α2->Prop} (h:∃ q:α1,J q/\O q/\∃ B:α2,r q B) (k:∀ q:α1,J q->O q->∀ B:α2,r q B->P):P:=h.elim λq h=>h.elim λJ h=>h.elim λO h=>h.elim λB h=>k q J O B h
theorem b06 {B J O:Prop} {r:α1->Prop} (h:B/\J/\O/\∃ q:α1,r q) (k:B->J->O->∀ q:α1,r q->P):P:=h.elim λB h=>h.elim λJ h=>h.elim λO h=>h.elim λq h=>k B J O q h
theorem a02 {B:Prop} {J O r:α1->Prop} (h:B/\∃ q:α1,J q/\O q/\r q) (k:B->∀ q:α1,J q->O q->r q->P):P:=h.elim λB h=>h.elim λq h=>h.elim λJ h=>h.elim λO h=>k B q J O h
theorem G2 {J O U r:α1->α2->Prop} (h:∃ q:α1,∃ B:α2,J q B/\O q B/\U q B/\r q B) (k:∀ q:α1,∀ B:α2,J q B->O q B->U q B->r q B->P):P:=h.elim λq h=>h.elim λB h=>h.elim λJ h=>h.elim λO h=>h.elim λU h=>k q B J O U h
theorem a1O {O U r:α1->α2->α3->Prop} (h:∃ q:α1,∃ B:α2,∃ J:α3,O q B J/\U q B J/\r q B J) (k:∀ q:α1,∀ B:α2,∀ J:α3,O q B J->U q B J->r q B J->P):P:=h.elim λq h=>h.elim λB h=>h.elim λJ h=>h.elim λO h=>h.elim λU h=>k q B J O U h
theorem a1m {B J O U r:α1->Prop} (h:∃ q:α1,B q/\J q/\O q/\U q/\r q) (k:∀ q:α1,B q->J q->O q->U q->r q->P):P:=h.elim λq h=>h.elim λB h=>h.elim λJ h=>h.elim λO h=>h.elim λU h=>k q B J O U h
theorem b8Y {J:Prop} {O U r:α1->α2->Prop} (h:J/\∃ q:α1,∃ B:α2,O q B/\U q B/\r q B) (k:J->∀ q:α1,∀ B:α2,O q B->U q B->r q B->P):P:=h.elim λJ h=>h.elim λq h=>h.elim λB h=>h.elim λO h=>h.elim λU h=>k J q B O U h
theorem B0 {J O U V r:α1->α2->Prop} (h:∃ q:α1,∃ B:α2,J q B/\O q B/\U q B/\V q B/\r q B) (k:∀ q:α1,∀ B:α2,J q B->O q B->U q B->V q B->r q B->P):P:=h.elim λq h=>h.elim λB h=>h.elim λJ h=>h.elim λO h=>h.elim λU h=>h.elim λV h=>k q B J O U V h
theorem Y1 {O U V r:α1->α2->α3->Prop} (h:∃ q:α1,∃ B:α2,∃ J:α3,O q B J/\U q B J/\V q B J/\r q B J) (k:∀ q:α1,∀ B:α2,∀ J:α3,O q B J->U q B J->V q B J->r q B J->P):P:=h.elim λq h=>h.elim λB h=>h.elim λJ h=>h.elim λO h=>h.elim λU h=>h.elim λV h=>k q B J O U V h
theorem a23 {B J O U V r:α1->Prop} (h:∃ q:α1,B q/\J q/\O q/\U q/\V q/\r q) (k:∀ q:α1,B q->J q->O q->U q->V q->r q->P):P:=h.elim λq h=>h.elim λB h=>h.elim λJ h=>h.elim λO h=>h.elim λU h=>h.elim λV h=>k q B J O U V h
theorem S0 {J O U:Prop} {V r:α1->α2->Prop} (h:J/\O/\U/\∃ q:α1,∃ B:α2,V q B/\r q B) (k:J->O->U->∀ q:α1,∀ B:α2,V q B->r q B->P):P:=h.elim λJ h=>h.elim λO h=>h.elim λU h=>h.elim λq h=>h.elim λB h=>h.elim λV h=>k J O U q B V h
theorem a4s {U V r:α1->α2->α3->α4->Prop} (h:∃ q:α1,∃ B:α2,∃ J:α3,∃ O:α4,U q B J O/\V q B J O/\r q B J O) (k:∀ q:α1,∀ B:α2,∀ J:α3,∀ O:α4,U q B J O->V q B J O->r q B J O->P):P:=h.elim λq h=>h.elim λB h=>h.elim λJ h=>h.elim λO h=>h.elim λU h=>h.elim λV h=>k q B J O U V h
theorem a4Q {J O U V Y r:α1->α2->Prop} (h:∃ q:α1,∃ B:α2,J q B/\O q B/\U q B/\V q B/\Y q B/\r q B) (k:∀ q:α1,∀ B:α2,J q B->O q B->U q B->V q B->Y q B->r q B->P):P:=h.elim λq h=>h.elim λB h=>h.elim λJ h=>h.elim λO h=>h.elim λU h=>h.elim λV h=>h.elim λY h=>k q B J O U V Y h
theorem a8r {O U V Y r:α1->α2->α3->Prop} (h:∃ q:α1,∃ B:α2,∃ J:α3,O q B J/\U q B J/\V q B J/\Y q B J/\r q B J) (k:∀ q:α1,∀ B:α2,∀ J:α3,O q B J->U q B J->V q B J->Y q B J->r q B J->P):P:=h.elim λq h=>h.elim λB h=>h.elim λJ h=>h.elim λO h=>h.elim λU h=>h.elim λV h=>h.elim λY h=>k q B J O U V Y h
theorem a3K {U V:α1->α2->Prop} {Y Z r:α1->α2->α3->α4->Prop} (h:∃ q:α1,∃ B:α2,U q B/\V q B/\∃ J:α3,∃ O:α4,Y q B J O/\Z q B J O/\r q B J O) (k:∀ q:α1,∀ B:α2,U q B->V q B->∀ J:α3,∀ O:α4,Y q B J O->Z q B J O->r q B J O->P):P:=h.elim λq h=>h.elim λB h=>h.elim λU h=>h.elim λV h=>h.elim λJ h=>h.elim λO h=>h.elim λY h=>h.elim λZ h=>k q B U V J O Y Z h
theorem a1n {Y Z a b c:α1->α2->α3->α4->α5->Prop} {r:α1->α2->α3->α4->α5->α6->Prop} (h:∃ q:α1,∃ B:α2,∃ J:α3,∃ O:α4,∃ U:α5,Y q B J O U/\Z q B J O U/\a q B J O U/\b q B J O U/\c q B J O U/\∃ V:α6,r q B J O U V) (k:∀ q:α1,∀ B:α2,∀ J:α3,∀ O:α4,∀ U:α5,Y q B J O U->Z q B J O U->a q B J O U->b q B J O U->c q B J O U->∀ V:α6,r q B J O U V->P):P:=h.elim λq h=>h.elim λB h=>h.elim λJ h=>h.elim λO h=>h.elim λU h=>h.elim λY h=>h.elim λZ h=>h.elim λa h=>h.elim λb h=>h.elim λc h=>h.elim λV h=>k q B J O U Y Z a b c V h
@[elab_as_elim] theorem u7 {α:Sort _} {a b:α} {motive:α->Prop} (h:b=a) (x:motive b):motive a:=h▸x
@[elab_as_elim] theorem D5 {a b:Prop} {motive:Prop->Prop} (h:a↔b) (x:motive b):motive a:=propext h▸x
theorem B8 {α:Type _} {a x:α} (h:some a=some x):a=x:=c5A h
variable {x0 x1 x2 x3 x4:Nat}
theorem zo0:x0<=2->x0<=1000000:=by lia
theorem zo1:x0<=2->x0+1<=1000000:=by lia
theorem zo2:x0 < x1->x0 < x1+1:=λq=>Nat.lt_add_right 1 q
theorem zo3:0<=16777216:=c5B 16777216
theorem zo4:x0 < 17->x0<=1000000:=λq=>c6f (c5G q (c5o rfl))
theorem zo5:x0 < 64->x0<=16777216:=λq=>c6f (c5G q (c5o rfl))
theorem zo6:(↑x0:Int)=(↑x1:Int)->x0=x1:=λq=>Int.ofNat_inj.mp q
theorem zo7:¬x1 < x0->x0<=x1:=λq=>Nat.le_of_not_lt q
theorem zo8:x0<=2->1+x0<=1000000:=by lia
theorem zo9:x0+200 < x1->x0+65 < x1:=λq=>c5v (c5I (c5o rfl) _) q
theorem b6c:x0+64 < x1->x0+7 < x1:=λq=>c5v (c5I (c5o rfl) _) q
theorem b6d:¬x0=x1->x0<=x1->x0 < x1:=λq B=>c6v B q
theorem b7Z:x0 < 16->x0<=17:=λq=>c5r (c6f q) (c5o rfl)
theorem b70:x0 < 64->x0<=1000000:=by lia
theorem b71:x0 < x1->x0=x1->False:=λq B=>c5Q q B
theorem b96:x0 - 0 < x0+1:=Nat.sub_lt_succ x0 0
theorem b97:x0 < x0+1:=Nat.lt_add_one x0
theorem b98:x0<=(1000:Nat)->(↑x0:Int)<=(1000000:Int):=λq=>c6l (c6Q q) (by decide)
theorem b99:x0+(x1+1)=x0+1+x1:=Eq.symm (Nat.succ_add_eq_add_succ x0 x1)
theorem c0a:x0<=x0+x1:=c5M x0 x1
theorem c0b:x1=x0+1->x0<=x1:=λq=>Nat.le.intro (id (Eq.symm q))
theorem c0c:¬x0=x1+1->x0<=x1+1->x0<=x1:=by lia
theorem b72:x1<=x2->x0 < x1->(x0+x1) / 2 < x2:=λq B=>Nat.div_lt_of_lt_mul (Nat.lt_of_lt_of_eq (Nat.add_lt_add_of_lt_of_le (c5G B q) q) (Nat.two_mul x2).symm)
theorem c45:0+1+1+1+1+1<=16777216+2:=c6g (0+1+1+1+1+1) 16777213
theorem c2Z {q:Int}:q+(↑(x1+(1:Nat)):Int)=q+(↑x1:Int)+(1:Int):=(Int.add_assoc q (x1:Int) 1).symm
theorem c20:-(↑(1000000:Nat):Int)<=(↑x0:Int)+(1:Int):=c6l (by decide) (c5N _)
theorem c46:x0+1<=x0+1:=c5w (x0+1)
theorem c21:x0 < 1->0 < x0->False:=λq B=>Nat.not_le.mpr q B
theorem c22:x0<=(50:Nat)->(↑x0:Int)+(1:Int)<=(↑(1000000:Nat):Int):=λq=>Int.lt_of_le_of_lt (c6Q q) (by decide)
theorem c23:¬(↑x0:Int) < (0:Int):=Int.not_ofNat_neg x0
theorem c24:(↑x0:Int) - (↑(x1+(1:Nat)):Int)=(↑x0:Int) - (↑x1:Int) - (1:Int):=(Int.sub_sub _ (x1:Int) 1).symm
theorem c25:-(↑x0:Int)<=(↑x1:Int):=Int.neg_natCast_le_natCast x0 x1
theorem c26:max (↑x0:Int) (↑x1:Int)=(↑(max x0 x1):Int):=(Lean.Omega.Int.ofNat_max x0 x1).symm
theorem c27:min (↑x0:Int) (↑x1:Int)=(↑(min x0 x1):Int):=(Lean.Omega.Int.ofNat_min x0 x1).symm
theorem c28:x0+100 < x1->x0+1+64 < x1:=by lia
theorem c29:x0 < x1+1->¬x0=x1->x0 < x1:=by lia
theorem c3a:x0=0\/x1=0->x0=x1->x0=0:=by lia
theorem c3b:x0=x1->x0 < x1+1:=by lia
theorem c3c:x0≠0->x0 * 128+x1≠0:=λh e=>h ((Nat.mul_eq_zero.mp (Nat.eq_zero_of_add_eq_zero_right e)).resolve_right (Nat.succ_ne_zero 127))
theorem b6e:x0≠x1->min x0 x1≠max x0 x1:=λq e=>q (Nat.le_antisymm (c5r (Nat.le_max_left x0 x1) (c5r (c5K e.symm) (Nat.min_le_right x0 x1))) (c5r (Nat.le_max_right x0 x1) (c5r (c5K e.symm) (Nat.min_le_left x0 x1))))
theorem c3d:x0≠x1->min x0 x1 < max x0 x1:=λq=>c6v (c5r (Nat.min_le_left _ _) (Nat.le_max_left _ _)) (b6e q)
theorem c3e:x0<=x1->x1+1<=x0->False:=by lia
theorem c3f:x1=0->¬x0 < x1:=by lia
theorem c3g:x1=7/\x0=4->x0+1<=16777216:=by lia
theorem c3h:x0+(x1+1)<=x2->x0+1+x1<=x2:=by lia
theorem c3i:x0+(x2+1)=x1->x0 < x1:=by lia
theorem c3j:x1 - x0=x2+1->x0 < x1:=λq=>Nat.lt_of_sub_ne_zero λe=>Nat.succ_ne_zero x2 (q.symm.trans e)
theorem c3k:x0+65 < x3->x1<=20->x0+1+min x1 x2 < x3:=λq B=>c5v (show x0+1+min x1 x2<=x0+1+64 from c5I (c5r (Nat.min_le_left _ _) (c5r B (c5o rfl))) _) q
theorem c3l:x0<=x3+x2->x3<=x1+1->x0<=x1+(x2+1):=by lia
theorem c3m:x4 < x2 - x3+1->x0 < x1+x4->x0 - x1<=x2 - x3:=λh g=>c5r (Nat.sub_le_iff_le_add'.mpr (c6f g)) (c5L h)
theorem c3Y:-(2:Int) ^ (60:Nat) < (2:Int)/\(2:Int) < (2:Int) ^ (60:Nat):=by decide
theorem c3Z {q:Int}:(0:Int)<=q/\q < (↑x1:Int)->-(2:Int) ^ (63:Nat)<=q:=λB=>c6l (by decide) B.1
theorem c30 {q:Int}:q < (0:Int)/\-(↑x1:Int)<=q->(0:Int)<=q+(↑x1:Int)/\q+(↑x1:Int) < (↑x1:Int):=λh=>⟨c6l (Int.le_of_eq (Int.add_left_neg (↑x1:Int)).symm) (Int.add_le_add_right h.2 _),Int.lt_of_lt_of_le (Int.add_lt_add_right h.1 _) (Int.le_of_eq (Int.zero_add _))⟩
theorem c31 {q:Int}:q < (0:Int)/\-(↑x1:Int)<=q->(q+(↑x1:Int)).toNat < x1:=λh=>(Int.toNat_lt (c6l (Int.le_of_eq (Int.add_left_neg (↑x1:Int)).symm) (Int.add_le_add_right h.2 _))).mpr (Int.lt_of_lt_of_le (Int.add_lt_add_right h.1 _) (Int.le_of_eq (Int.zero_add _)))
theorem c32 {q:Int}:q < (0:Int)/\-(↑x1:Int)<=q->q < (2:Int) ^ (63:Nat):=λB=>Int.lt_trans B.1 (by decide)
theorem c33 {q:Int}:q < (↑x1:Int)->x1<=(1000000:Nat)->q < (2:Int) ^ (63:Nat):=λh a=>Int.lt_of_lt_of_le h (c6l (c6Q a) (by decide))
theorem c34 {q:Int}:x1<=(1000000:Nat)->(0:Int)<=q/\q < (↑x1:Int)->q < (2:Int) ^ (63:Nat):=λa h=>Int.lt_of_lt_of_le h.2 (c6l (c6Q a) (by decide))
theorem c35 {q:Int}:x1<=(1000000:Nat)->q < (0:Int)/\-(↑x1:Int)<=q->-(2:Int) ^ (63:Nat)<=q:=λa h=>c6l (c6l (by decide) (Int.neg_le_neg (c6Q a))) h.2
theorem c36 {q:Int}:(0:Int)<=q->q<=(1000000:Int)->-(2:Int) ^ (60:Nat) < q/\q < (2:Int) ^ (60:Nat):=λa b=>⟨Int.lt_of_lt_of_le (by decide) a,Int.lt_of_le_of_lt b (by decide)⟩
theorem c37 {q:Int}:(q - (0:Int)).toNat=((↑q.toNat:Int) - (0:Int)).toNat:=(c5z Int.toNat (Int.sub_zero q)).trans (c5z Int.toNat (Int.sub_zero (↑q.toNat:Int))).symm
theorem c38 {q:Int}:-(2:Int) ^ (60:Nat) < q/\q < (2:Int) ^ (60:Nat)->-(2:Int) ^ (64:Nat) < q:=λB=>c6l (by decide) B.1
theorem c39 {q:Int}:-(2:Int) ^ (60:Nat) < q/\q < (2:Int) ^ (60:Nat)->q < (2:Int) ^ (64:Nat):=λB=>c6l B.2 (by decide)
theorem c4a {q:Int}:q+(1:Int)=q->False:=λB=>Int.ne_of_gt (Int.lt_add_one_of_le (Int.le_refl _)) B
theorem c4b {q:Int}:q<=(↑(1000000:Nat):Int)->q.toNat<=(2:Nat) ^ (24:Nat):=λh=>Int.toNat_le.mpr (c6l h (by decide))
theorem c4c {q:Int}:x2=x0->q < (0:Int)/\-(↑x2:Int)<=q->-(↑x0:Int)<=q:=λa h=>a▸h.2
theorem c4d:((-1:Int)+(↑x0:Int)).toNat=x0 - (1:Nat):=(c5z Int.toNat (Int.add_comm _ _)).trans (Int.toNat_sub x0 1)
theorem c4e:((↑x0:Int) - (0:Int)).toNat=x0:=Nat.add_zero x0
theorem c4f:(0:Int)+(↑x0:Int) * (1:Int)=(↑((0:Nat)+x0):Int):=Int.zero_add (↑x0 * 1)
theorem c4g:(12:Nat) < x0->(↑x0:Int)<=(12:Int)->False:=λq B=>Int.not_le.mpr (c6P q) B
theorem c4h:(↑x0:Int) - (1:Int)=(↑(x0 - (1:Nat)):Int)->x0 - (1:Nat) < x0:=λh=>Nat.sub_lt (Nat.pos_of_ne_zero λe=>by subst e;exact c59 h (by decide)) Nat.one_pos
theorem c4i:(↑x0:Int) < (2:Int) ^ (63:Nat)->¬(↑x0:Int) < -(2:Int) ^ (63:Nat)/\¬(↑x0:Int)>=(2:Int) ^ (63:Nat):=λq=>⟨Int.not_lt.mpr (c6l (by decide) (c5N x0)),Int.not_le.mpr q⟩
theorem c4j:-(↑(1000000:Nat):Int)<=(↑x0:Int):=Int.neg_natCast_le_natCast 1000000 x0
theorem c4k:x0+1≠x0:=Ne.symm (Nat.ne_add_one x0)
theorem c4l:x0 - 0<=x0:=Nat.sub_le x0 0
theorem zx1:x2=x0->x2<=x1->x0<=x1:=λq B=>le_of_eq_of_le (id (Eq.symm q)) B
theorem c4m:x0 < 17->x0+1<=17:=λq=>zx1 rfl q
theorem c4n:x0 < (20:Nat)->(↑(x0+(1:Nat)):Int)<=(1000000:Int):=λq=>c6l (c6Q q) (by decide)
theorem c4o:x0 < (64:Nat)->(↑x0:Int) < (2:Int) ^ (63:Nat):=λq=>c6l (c6Q q) (by decide)
theorem c4p:x0=1->x0<=20:=by lia
theorem c4q:x0=1->x0<=3:=by lia
theorem c4r:x0=5->x0<=18:=by lia
theorem c4s:x0<=(1000:Nat)->(↑((9:Nat) * x0):Int)<=(1000000:Int):=λh=>c6l (c6Q (c6p 9 h)) (by decide)
theorem c4t:x0<=(1000000:Nat)->(↑x0:Int) < (2:Int) ^ (63:Nat):=λq=>Int.lt_of_le_of_lt (c6Q q) (by decide)
theorem c4u:x0<=(17:Nat)->(↑x0:Int)<=(↑(1000000:Nat):Int):=λq=>c6l (c6Q q) (by decide)
theorem c4v:x0<=(17:Nat)->-(2:Int) ^ (60:Nat) < (↑x0:Int)/\(↑x0:Int) < (2:Int) ^ (60:Nat):=λh=>⟨Int.lt_of_lt_of_le (by decide) (c5N x0),Int.lt_of_le_of_lt (c6Q h) (by decide)⟩
theorem c4w:x0<=40->1+300+6 * x0+5<=990:=by lia
theorem c4x:x0<=40->4+200 * x0+200<=9900:=by lia
theorem c4y:x0<=x0+1:=c5M x0 1
theorem c4z:¬((0:Int)<=(-1:Int)/\(-1:Int) < (↑x0:Int)):=λh=>c59 h.1 (by decide)
theorem c4A:¬(0:Int)<=(↑x0:Int)->False:=λq=>q (c5N _)
theorem c4B:((↑x0:Int) - (1:Int) - (↑x1:Int)).toNat=x0 - (1:Nat) - x1:=(c5z Int.toNat (Int.sub_sub _ _ _)).trans ((Int.toNat_sub x0 (1+x1)).trans (Nat.sub_add_eq _ _ _))
theorem c4C:(x0=min x0 x1\/x0=max x0 x1)/\(x1=min x0 x1\/x1=max x0 x1):=(c5Z x0 x1).elim (λh=>⟨.inl (Nat.min_eq_left h).symm,.inr (Nat.max_eq_right h).symm⟩) (λh=>⟨.inr (Nat.max_eq_left h).symm,.inl (Nat.min_eq_right h).symm⟩)
theorem c4D:(↑(min x0 x1):Int)=(↑(max x0 x1):Int)->x0=x1:=λq=>Decidable.byContradiction λh=>b6e h (Int.ofNat_inj.mp q)
theorem c4E:(↑x0:Int) < (↑x1:Int)->x0=x1->False:=λq B=>c5Q (Int.ofNat_lt.mp q) B
theorem c4F:(↑x0:Int) > (↑x1:Int)->x0<=x1->False:=λq B=>Int.not_lt.mpr (c6Q B) q
theorem c4G:min x0 x1+(x1 - x0+1)=x1+1:=c5z Nat.succ ((Nat.add_comm _ _).trans ((c5z (x1 - x0+·) (Nat.min_comm x0 x1)).trans (Nat.sub_add_min_cancel x1 x0)))
theorem c4H:x0+100 < x1->x0+1+7 < x1:=by lia
theorem c4I:x0+110 < x1->x0+1+1+100 < x1:=λh=>c5v (c5I (c5o rfl:102<=110) x0) h
theorem c4J:x0+200 * (x1+1)+200<=9900->x0+3+2 * 40+200 * x1+300<=9900:=by lia
theorem c4K:x0+200 < x1->x0+1+64 < x1:=by lia
theorem c4L:x0+6 * (x1+1)+5<=990->x0+1+6 * x1+10<=990:=by lia
theorem c4M:x0+6 * (x1+1)+5<=990->x0 < 1000:=by lia
theorem c1f:x0+x1=x1+x0:=Nat.add_comm x0 x1
theorem c1g:x0 < x1+1->13+x0 < 0+(x1+15):=by lia
theorem c1h:x0 < x1->(x0+x1) / 2+1<=x1:=λh=>(Nat.div_lt_iff_lt_mul Nat.zero_lt_two).mpr (c5G (Nat.add_lt_add_right h x1) (c5K (Nat.mul_two x1).symm))
theorem c1i:x0 < x1->(↑x0:Int)>=(↑x1:Int)->False:=λq B=>Int.not_le.mpr (c6P q) B
theorem c1j:x0 < x1->x0<=(x0+x1) / 2:=λq=>(Nat.le_div_iff_mul_le (c53 1)).mpr (Nat.mul_two x0▸c5I (c6f q) x0)
theorem c1k:x0 < x1->x1<=(17:Nat)->(↑x0:Int) < (17:Int):=λq B=>Int.lt_of_lt_of_le (c6P q) (c6Q B)
theorem c1l:x0 < x1->¬(↑x0:Int) < (↑x1:Int)->False:=λq B=>B (c6P q)
theorem c1m:x0=0->x1<=x0->0 < x1->False:=λq B J=>c5Q (c5G J B) q.symm
theorem c1n:x0=x1+1->x0<=x1->False:=by lia
theorem zx2:x2=x1->x0 < x2->x0 < x1:=λq B=>Nat.lt_of_lt_of_eq B q
theorem c1o:x0=x1->0 < x1->0 < x0:=λq B=>zx2 (id (Eq.symm q)) B
theorem c1p:x0=x1->x0 < x1->False:=λq B=>c5Q B q
theorem c1q:x0=x1->x0<=0+x1:=by lia
theorem c1r:x0=x1->x1 < x0->False:=λq B=>c5Q B q.symm
theorem c1s:x0<=0+x1->x0<=2 * x1:=by lia
theorem c1t:x0<=0+x1->x0<=x1:=by lia
theorem c1u:x0<=100000->x1<=100000->x0+x1<=1000000:=λq B=>c5r (c6q q B) (c5o rfl)
theorem c1v:x0<=x1 - 1->0 < x1->x0+1<=x1:=λq B=>Nat.add_le_of_le_sub B q
theorem c1w:x0<=x1->x1+1=x0->False:=λq B=>c5U _ (B▸q)
theorem c1x:x0<=x1->x1≠x0->x0+1<=x1:=by lia
theorem c1y:x1 < 128->x0 * 128+x1+1<=(x0+1) * 128:=by lia
theorem c1z:x1 < (17:Nat)->x0 < x1->(↑x0:Int) < (17:Int):=λa b=>c6P (c6i b a)
theorem c1A:x1 < 17->x0<=x1->x0<=1000000:=by lia
theorem c1B:x1 < 2->x0<=3 * (7 * (1+x1))+7 * (1+x1)+2->x0<=900:=λa b=>(have e:=c6p 7 (c5I (c5L a) 1);c5r b (c5r (c5R (c6q (c6p 3 e) e) 2) (c5o rfl)))
theorem c1C:x1=0\/x0=0->x1=x0->x0=0:=by lia
theorem c1D:x1=x0->0+x0<=x1:=by lia
theorem c1E:x1=x0->x0 < x1+1:=by lia
theorem c1F:x1<=100000->x0<=100000->x0+x1<=1000000:=by lia
theorem c1G:x1<=1000000->x1=x0->x0<=16777216:=by lia
theorem c1H:x1<=15->x0=x1->x0 < 30:=by lia
theorem c1I:x1<=17->x0=x1->x0<=100000:=by lia
theorem c1J:x1<=17->x0<=34 * x1->x0<=100000:=by lia
theorem c1K:¬(↑(min x0 x1):Int)=(↑(max x0 x1):Int)->min x0 x1 < max x0 x1:=λh=>c6v (c5r (Nat.min_le_left x0 x1) (Nat.le_max_left x0 x1)) (λe=>h (c5z Nat.cast e))
theorem c1L:¬(↑(min x0 x1):Int)=(↑(max x0 x1):Int)->x0≠x1:=λh e=>h (e▸c5z Nat.cast ((Nat.min_self x0).trans (Nat.max_self x0).symm))
theorem c1M:¬(↑x0:Int) > (↑x1:Int)->x1 < x0->False:=λq B=>q (c6P B)
theorem c1N:¬x0 - x1 - (x0 - x1) > 0:=by lia
theorem c1O:¬x0 < x1->x0 - x1 < 1->x0=x1:=λh g=>Nat.le_antisymm (Nat.le_of_sub_eq_zero (Nat.lt_one_iff.mp g)) (Nat.le_of_not_lt h)
theorem c1P:¬x1<=x0 - (1:Nat)->¬(0:Int)<=(↑x0:Int) - (1:Int) - (↑x1:Int):=λq B=>q (Nat.le_sub_of_add_le (Int.ofNat_le.mp (Int.add_le_of_le_sub_right (Int.sub_nonneg.mp B))))
theorem c1Q:x0+2 * x1+200 * x2+300<=9900->x0+200 < 9900:=λh=>c5G (Nat.add_lt_add_of_le_of_lt (c5r (c5M x0 _) (c5M _ _)) (c5o rfl)) h
theorem c1R:x0+2 * x2+200 * x1+300<=9900->x0+200 * x1+200<=9900:=λh=>c5r (c6q (c5R (c5M x0 _) _) (c5o rfl)) h
theorem c1S:x0+(x1+1) < x2->x0+1+x1 < x2:=λq=>c5v (c5K (Nat.add_right_comm x0 1 x1)) q
theorem c1T:x0+(x1+1)=x2->x0+1+x1=x2:=by lia
theorem c1U:x0+(x1+1)<=x2->x0+(0+1)+x1<=x2:=by lia
theorem c1V:x0+(x1+x2)=x0+x1+x2:=Eq.symm (Nat.add_assoc x0 x1 x2)
theorem c1W:x0+x1+x2=x0+x2+x1:=Nat.add_right_comm x0 x1 x2
theorem c1X:x0+x1=x2->x2<=17->x0<=17:=by lia
theorem c1Y:x0+x1<=1+17 * x2->x2<=17->x0+x1<=1000000:=by lia
theorem c1Z:x0 - x1<=x2+1->x0 - ((x1+x0) / 2+1)<=x2:=λh=>(c5Z x1 x0).elim (λa=>c5r (Nat.sub_le_sub_left (c6x ((Nat.le_div_iff_mul_le Nat.zero_lt_two).mpr (c5r (c5K (Nat.mul_two x1)) (c5I a x1)))) x0) (Nat.pred_le_pred h)) (λa=>c5r (c5K (Nat.sub_eq_zero_of_le (Nat.le_succ_of_le ((Nat.le_div_iff_mul_le Nat.zero_lt_two).mpr (c5r (c5K (Nat.mul_two x0)) (c5R a x0)))))) (c5B _))
theorem c18:x0 < x1+(x2+1)->x0 < x1+1+x2:=by lia
theorem c19:x0 < x1->x0 < x1+x2:=λq=>Nat.lt_add_right x2 q
theorem c2a:x0 < x1/\x2 < x1->x0 < x1+1/\x2 < x1+1:=λh=>⟨c6y h.1,c6y h.2⟩
theorem c2b:x0 < x2+1->x1 < x2+1->¬x0 < x2->¬x1 < x2->x0=x1:=λa b c d=>(Nat.eq_of_lt_succ_of_not_lt a c).trans (Nat.eq_of_lt_succ_of_not_lt b d).symm
theorem c2c:x0 < x2->x1 < x2->1+(x0+(x1+0)) < 2 * x2:=λq B=>c5v (c5K ((Nat.add_comm 1 _).trans (Nat.add_right_comm _ _ 1))) (c5G (Nat.add_lt_add_of_le_of_lt q B) (c5K (Nat.two_mul _).symm))
theorem c2d:x0=x1->x1=x2->x0 < x2->False:=λq B J=>c5Q J (q.trans B)
theorem c2e:x0<=x1->x1<=2 * x2->x2<=17->x0<=100000:=by lia
theorem c2f:x0<=x1->x2<=x0->x2+1=x1+1->x0=x1:=by lia
theorem c2g:x1 - x0=x2+1->x0+1<=x1:=λq=>Nat.lt_of_sub_ne_zero λe=>Nat.succ_ne_zero x2 (q.symm.trans e)
theorem c2h:x1 - x0<=x2+1->(x0+x1) / 2 - x0<=x2:=λh=>Nat.sub_le_iff_le_add.mpr (c5L ((Nat.div_lt_iff_lt_mul Nat.zero_lt_two).mpr (c5G (Nat.add_lt_add_of_lt_of_le (c51 (c6g x0 x2)) (c5r (Nat.sub_le_iff_le_add.mp h) (c5K (Nat.add_right_comm x2 1 x0)))) (c5K (Nat.mul_two _).symm))))
theorem c2i:x1=x2->x1<=(1000000:Nat)->x0 < x2->(↑x0:Int) < (2:Int) ^ (63:Nat) - (1:Int):=λa b c=>Int.lt_of_lt_of_le (c6P (c5G c (a▸b))) (by decide)
theorem c2j:x1<=17->x0+1<=1+17 * x2->x0+x1<=1+17 * (x2+1):=by lia
theorem c2k:x1<=17->x0<=x1+x2->x2<=20->x0<=100000:=λq B J=>c5r B (c5r (c6q q J) (c5o rfl))
theorem c2l:x1<=3->x0+6 * x2+10<=990->x0+x1+6 * x2+5<=990:=by lia
theorem c2m:x1<=x2->x0 < x1->(x0+x1) / 2<=x2:=λq B=>c6f (b72 q B)
theorem c2n:x2+1<=x1+1->x0<=x2->x0<=x1:=by lia
theorem c2o:x2+1<=x1+1->¬x0=x2+1->x0<=x2+1->x0<=x1:=by lia
theorem c2p:x2 < x1+1->x0<=10 * (13+x2)->x0 < 10 * (x1+15):=λa b=>c5v b (Nat.mul_lt_mul_of_pos_left (c5v (c5K (Nat.add_comm 13 x2)) (Nat.add_lt_add_of_le_of_lt (c5L a) (c5o rfl))) (Nat.zero_lt_succ 9))
theorem c2q:x2 < x1->x0=x2->¬x0=x1:=λq B J=>c5Q q (B.symm.trans J)
theorem c2r:x2=x0->x2 < x1->x0 < x1+1:=by lia
theorem c2s:x2=x1+1->(17 - x0) * 1000+x1 < (17 - x0) * 1000+x2:=by lia
theorem c2t:x2=x1->0 < x1->x0<=x2 - 1->x0 < x1:=λa b c=>by subst a;exact c5v c (Nat.sub_lt b Nat.one_pos)
theorem c2u:x2<=17->x0+1<=17->(17 - (x0+1)) * 20+(x1+x2) < (17 - x0) * 20+(x1+1):=λa b=>c5G (Nat.add_lt_add_left (c5v (c5I a x1) (c5G (Nat.add_lt_add_left (c5o rfl:17 < 21) x1) (c5K (Nat.add_left_comm x1 20 1)))) _) (c5K ((Nat.add_assoc _ _ _).symm.trans (c5z (·+(x1+1)) ((Nat.succ_mul _ _).symm.trans (c5z (· * 20) ((c5z Nat.succ (Nat.succ_sub_succ 16 x0)).trans (Nat.succ_sub (Nat.le_of_succ_le_succ b)).symm))))))
theorem c2v:x2<=x1->x0<=0+x2->x0<=x1:=by lia
theorem c2w:x2<=x1->x0<=x2+x1->x0<=2 * x1:=by lia
theorem c2x:x2<=x1->x0<=x2->x0+1<=x1+1:=by lia
theorem c2y:x0+(x2 - x3)+1<=x1->x0<=x1:=by lia
theorem c2z:x0+x1+1<=x2+34 * x3->x0+1+x1<=x2+34 * x3:=by lia
theorem c2A:x0+x1<=x2+34 * x3->x0+x1+1<=x2+1+34 * x3:=by lia
theorem c2B:x0+x1<=x2+34 * x3->x0+x1<=x2+1+34 * x3:=by lia
theorem c2C:x0+x2<=1+17 * x3->x3<=17->x1<=17->x0+x1<=1000000:=by lia
theorem c2D:x0<=10 * x3->x1 - x2<=9->x0+(x1 - x2)+1<=10 * (x3+1):=λa b=>c6x (c6q a b)
theorem c2E:x0<=x3->x1<=x2->x0+x1<=x2+x3:=λq B=>c5r (c6q q B) (c5K (Nat.add_comm _ _))
theorem c2F:x1+1=x3->x0+x3=x2->x0+1+x1=x2:=λa b=>by subst a;exact (Nat.add_right_comm x0 1 x1).trans b
theorem c2G:x1<=20->x0+2 * x3+200 * x2+300<=9900->x0+x1+200 * x2+200<=9900:=λa h=>c5r (c5R (c5r (c5K (Nat.add_right_comm x0 x1 _)) (c6q (c5R (c5M x0 (2 * x3)) _) a)) 200) (c5r (c5K (Nat.add_assoc _ 20 200)) (c5r (c5I (c5o rfl) _) h))
theorem c2H:x2 * 128+x0=x3 * 128+x1->x2=x3->x0=x1:=λa b=>by subst b;exact Nat.add_left_cancel a
theorem c2I:x2+x3<=1000000->x2=x0->x3=x1->x0+x1<=16777216:=by lia
theorem c2J:x2 < 128->x3 < 128->x0 * 128+x2=x1 * 128+x3->x0=x1:=λa b h=>(have e:∀ u v:Nat,v < 128->u * 128+v=x1 * 128+x3->(x1 * 128+x3) / 128=u:=λu v q w=>(Nat.div_eq_of_lt_le (c5r (c5M _ v) (c5K w)) (c5v (c5K w.symm) (c5G (Nat.add_lt_add_left q _) (c5K (Nat.succ_mul u 128).symm))));(e _ _ a h).symm.trans (e _ _ b rfl))
theorem c2K:x2=x0->x3=x1->x2+x3<=1000000->x0+x1<=16777216:=by lia
theorem c2L:x2=x0->x3=x1->x2=0\/x3=0->x0=0\/x1=0:=by lia
theorem c2M:x2=x3->x3+1<=x2->x0=x1+1:=by lia
theorem zx3:x0 - x1 < x2+1->x1 < x0->x0 - (x1+1) < x2:=λq B=>c5G (Nat.sub_succ_lt_self _ _ B) (c5L q)
theorem b8z:x3+x2=x0->x3<=x1->x1 < x0->x0 - (x1+1) < x2:=λq B J=>zx3 (c51 (Nat.sub_le_iff_le_add'.mpr (q▸c5R B _))) J
theorem c2N:x3<=x1+x2->x0<=x3+1->x0<=x1+(x2+1):=by lia
theorem c2O:x3<=x2->x0<=x1+x3->x0+1<=x1+1+x2:=by lia
theorem c2P:x3<=x2/\x0+x1<=x2->x1 > 0->x0+1+(x1 - 1)<=x2:=λh g=>c5r (c5K ((Nat.add_assoc x0 1 _).trans (c5z (x0+·) (Nat.add_sub_cancel' g)))) h.2
theorem c2Q:¬x3<=x0+(x1 - x2)->x0+(x1 - x2)+1<=x3:=by lia
theorem c2R:x1+x2=x3->x3<=17->x0+x4<=x3+34 * x1->x0<=100000:=λa b c=>c5r (c5M x0 x4) (c5r c (c5r (c6q b (c6p 34 (c5r (Nat.le.intro a) b))) (c5o rfl)))
theorem c2S:x1<=x3->x3<=2 * x4->x4<=17->x1=x1->x0<=34 * x2->x0+x1<=34 * (x2+1):=λa b c _ d=>c6q d (c5r a (c5r b (c6p 2 c)))
theorem c2T:x2<=2->x0<=x3+x4+x2->x3<=2 * x1->x4=0->x0<=2 * (x1+1):=λa b c d=>by subst d;exact c5r b (c6q c a)
theorem c2U:x3+x4=x0->x4 < x2+1->x3<=x1->x1 < x0->x0 - (x1+1) < x2:=λq B J O=>c5G (b8z q J O) (c5L B)
theorem c2V:x4=x1+1->x0+x4<=x2+34 * x3->x0+x1+1<=x2+34 * x3:=λa b=>by subst a;exact b
theorem c2W {q B J O U V:Nat}:B < 17->J<=O+U+V->U=0->O<=2 * B->V<=2->q<=J->q<=1000:=λa b c d e f=>c5r f (c5r b (c5r (c6q (c6q (c5r d (c6p 2 (c6f a))) (c5K c)) e) (c5o rfl)))
theorem c2X {B J q b c O:Nat}:J<=34 * B->B+c=O->O<=17->B=q+1->(17 - B) * 1000+J < (17 - q) * 1000+b:=λU V Y Z=>by subst Z;exact (have a:q+1<=17:=c5r (Nat.le.intro V) Y;have e:(17 - q) * 1000=(17 - (q+1)) * 1000+1000:=(c5z (· * 1000) ((Nat.succ_sub (Nat.le_of_succ_le_succ a)).trans (c5z Nat.succ (Nat.succ_sub_succ 16 q).symm))).trans (Nat.succ_mul _ _);c5G (Nat.add_lt_add_left (c5v (c5r U (c6p 34 a)) (c5o rfl)) _) (c5r (c5K e.symm) (c5M _ _)))
theorem c2Y {J O q B U V:Nat}:q<=V->V<=2 * B->B<=17->q=q->J+O<=B+34 * U->J+(O+q)<=B+34 * (U+1):=λa b c _ d=>c5r (c5K (Nat.add_assoc J O q).symm) (c5r (c6q d (c5r a (c5r b (c6p 2 c)))) (c5K (Nat.add_assoc B (34 * U) 34)))
variable {k t:Nat}
noncomputable abbrev Nm:=Nat
noncomputable def nm (s:Str):Nm:=s.cps.toList.foldl (λa c=>a * 128+c) 1
noncomputable def A1 (s:Str):Bool:=s.cps.toList.all λn=>Nat.blt n 128
noncomputable def nmS (s:Str):String:=String.ofList (s.cps.toList.map Char.ofNat)
inductive f7 where
 | none | bool (b:Bool) | int (i:Int) | str (s:String) | tup (l:List f7) | ref (a:Nat) | fn (f:Nm) | fz (l:List Int)
inductive N2 where
 | list (xs:List f7)
 | dict (es:List (f7×f7)) (ep:Nat)
 | inst (c:Nm) (d:Nat)
 | ns (fs:List (Nm×f7))
noncomputable abbrev Hp:=Nat->Option N2
noncomputable abbrev En:=Nm->Option f7
noncomputable def Hp.set (H:Hp) (a:Nat) (o:N2):Hp:=λb=>if b=a then some o else H b
noncomputable def En.set (r:En) (x:Nm) (v:f7):En:=λy=>bif Nat.beq y x then some v else r y
noncomputable def En.nil:En:=λ_=>Option.none
inductive BOp where
 | add | sub | mul | mod | fdiv
inductive COp where
 | eq | ne | lt | le | gt | ge | isin | notin | is | isnot
inductive BI where
 | len | sum | max | min | sorted | list | tuple | dict | int | str
mutual
noncomputable def D7:Nat->f7->Bool
 | _,.int _=>true
 | _,.str _=>true
 | n+1,.tup l=>V8 n l
 | 0,.tup _=>false
 | _,.none=>false
 | _,.bool _=>false
 | _,.ref _=>false
 | _,.fn _=>false
 | _,.fz _=>false
noncomputable def V8:Nat->List f7->Bool
 | _,[]=>true
 | n,v :: r=>D7 n v&&V8 n r
end
noncomputable def a0M (v:f7):Bool:=D7 20 v
noncomputable def a2L (l:List f7):Bool:=V8 20 l
noncomputable def a1E (H:Hp) (v:f7) (xs:List f7):Prop:=v=.tup xs\/∃ a,v=.ref a/\H a=some (.list xs)
noncomputable def a8i (H:Hp) (a:Nat) (l:List Int):Prop:=∃ es ep,H a=some (.dict es ep)/\es.map (·.1)=l.map f7.int
noncomputable def a0q (p:f7×f7):f7:=.tup [p.1,p.2]
open Classical in
noncomputable def eq0 (H:Hp) (v w:f7) (b:Bool):Prop :=
 (a0M v=true/\a0M w=true/\b=decide (v=w)) \/
 (∃ x y xs ys,v=.ref x/\w=.ref y/\H x=some (.list xs)/\H y=some (.list ys)/\((a2L xs=true/\a2L ys=true)\/xs=[]\/ys=[])/\b=decide (xs=ys))
inductive a50 (H:Hp):List f7->List f7->Bool->Prop
 | nil:a50 H [] [] true
 | cons {v w:f7} {vs ws:List f7} {a c:Bool}:eq0 H v w a->a50 H vs ws c->a50 H (v :: vs) (w :: ws) (a&&c)
noncomputable def eq1 (H:Hp) (v w:f7) (b:Bool):Prop:=eq0 H v w b\/∃ l m,v=.tup l/\w=.tup m/\a50 H l m b
open Classical in
noncomputable def B4 (es:List (f7×f7)) (k:f7):Option f7:=(es.find? λp=>decide (p.1=k)).map (·.2)
open Classical in
noncomputable def J2 (es:List (f7×f7)) (k v:f7):List (f7×f7) :=
 if (B4 es k).isSome then es.map λp=>if p.1=k then (p.1,v) else p else es++[(k,v)]
open Classical in
noncomputable def a4i (es:List (f7×f7)) (k:f7):List (f7×f7):=es.filter λp=>decide (p.1≠k)
noncomputable def G8:f7->Nat
 | .int _=>0
 | .str _=>1
 | .tup _=>2
 | .none=>3
 | .bool _=>3
 | .ref _=>3
 | .fn _=>3
 | .fz _=>3
noncomputable def J6 (es:List (f7×f7)) (k:f7):Prop:=D7 7 k=true/\∀ p∈es,G8 p.1=G8 k
noncomputable def a0V (l:List (f7×f7)):Prop:=(∀ p∈l,D7 7 p.1=true)/\∀ p∈l,∀ q∈l,G8 p.1=G8 q.1
open Classical in
noncomputable def dep (es:List (f7×f7)) (k:f7) (ep:Nat):Nat:=if (B4 es k).isSome then ep else ep+1
noncomputable def A9 (l:List (f7×f7)):List (f7×f7):=l.foldl (λes p=>J2 es p.1 p.2) []
noncomputable def n8:Nat:=1000000
noncomputable abbrev l8:=f7->Hp->Prop
noncomputable abbrev F7:=Bool->Hp->Prop
noncomputable def alloc (o:N2) (H:Hp) (Q:l8):Prop:=∀ a,H a=Option.none->Q (.ref a) (H.set a o)
noncomputable def newList (xs:List f7) (H:Hp) (Q:l8):Prop:=xs.length<=n8/\alloc (.list xs) H Q
noncomputable def a7D (es:List (f7×f7)) (H:Hp) (Q:l8):Prop:=∀ ep,alloc (.dict es ep) H Q
noncomputable def small (i:Int):Prop:=-(2 ^ 60) < i/\i < 2 ^ 60
noncomputable def c3w (v w:f7) (H:Hp) (Q:l8):Prop :=
 (∃ i j,v=.int i/\w=.int j/\Q (.int (i+j)) H) \/
 (∃ a b,v=.str a/\w=.str b/\a.length+b.length<=n8/\Q (.str (a++b)) H) \/
 (∃ l m,v=.tup l/\w=.tup m/\l.length+m.length<=n8/\Q (.tup (l++m)) H) \/
 (∃ a b xs ys,v=.ref a/\w=.ref b/\H a=some (.list xs)/\H b=some (.list ys)/\newList (xs++ys) H Q)
noncomputable def a4h (o:BOp) (v w:f7) (H:Hp) (Q:l8):Prop :=
 match o with
 | .add=>c3w v w H Q
 | .sub=>∃ i j,v=.int i/\w=.int j/\Q (.int (i - j)) H
 | .mul=>∃ i j,v=.int i/\w=.int j/\small i/\small j/\Q (.int (i * j)) H
 | .fdiv=>∃ i j,v=.int i/\w=.int j/\0 < j/\j < 1073741824/\Q (.int (i / j)) H
 | .mod=>∃ i j,v=.int i/\w=.int j/\0 < j/\Q (.int (i % j)) H
open Classical in
noncomputable def inW (v w:f7) (H:Hp) (Q:F7):Prop :=
 (∃ b c,w=.str b/\97<=c.toNat/\c.toNat<=122/\v=.str (String.singleton c)/\Q (b.toList.contains c) H) \/
 (∃ l,w=.tup l/\a0M v=true/\a2L l=true/\Q (decide (v∈l)) H) \/
 (∃ a xs,w=.ref a/\H a=some (.list xs)/\a0M v=true/\a2L xs=true/\Q (decide (v∈xs)) H) \/
 (∃ a es ep,w=.ref a/\H a=some (.dict es ep)/\J6 es v/\Q (B4 es v).isSome H)
open Classical in
noncomputable def isW (v w:f7) (H:Hp) (Q:F7):Prop :=
 (w=.none/\Q (decide (v=.none)) H)\/(∃ a b,v=.bool a/\w=.bool b/\Q (a==b) H)
noncomputable def b49 (v w:f7) (H:Hp) (f:Int->Int->Bool) (Q:F7):Prop:=∃ i j,v=.int i/\w=.int j/\Q (f i j) H
noncomputable def P0 (o:COp) (v w:f7) (H:Hp) (Q:F7):Prop :=
 match o with
 | .eq=>∃ b,eq1 H v w b/\Q b H
 | .ne=>(∃ b,eq1 H v w b/\Q (!b) H)\/∃ x y es ep fp,v=.ref x/\w=.ref y/\H x=some (.dict es ep)/\H y=some (.dict [] fp)/\Q (!es.isEmpty) H
 | .lt=>b49 v w H (λi j=>decide (i < j)) Q
 | .le=>b49 v w H (λi j=>decide (i<=j)) Q
 | .gt=>b49 v w H (λi j=>decide (i > j)) Q
 | .ge=>b49 v w H (λi j=>decide (i>=j)) Q
 | .isin=>inW v w H Q
 | .notin=>inW v w H λb=>Q (!b)
 | .is=>isW v w H Q
 | .isnot=>isW v w H λb=>Q (!b)
noncomputable def a1x (n:Nat) (i:Int):Option Nat:=if n<=n8 then (if 0<=i/\i < n then some i.toNat else if i < 0/\-(n:Int)<=i then some (i+n).toNat else Option.none) else Option.none
noncomputable def a7g (v i:f7) (H:Hp) (Q:l8):Prop :=
 (∃ (s:String) (k:Nat) (c:Char),v=.str s/\i=.int k/\s.toList[k]?=some c/\s.toList.length<=n8/\(∀ c∈s.toList,c.toNat < 128)/\Q (.str (String.singleton c)) H) \/
 (∃ xs k j x,a1E H v xs/\i=.int k/\a1x xs.length k=some j/\xs[j]?=some x/\Q x H) \/
 (∃ a es ep x,v=.ref a/\H a=some (.dict es ep)/\J6 es i/\B4 es i=some x/\Q x H)
noncomputable def c02 (v i x:f7) (H:Hp) (Q:Hp->Prop):Prop :=
 (∃ a xs k,v=.ref a/\H a=some (.list xs)/\i=.int k/\0<=k/\k < xs.length/\xs.length<=n8/\Q (H.set a (.list (xs.set k.toNat x)))) \/
 (∃ a es ep,v=.ref a/\H a=some (.dict es ep)/\J6 es i/\es.length<=n8/\Q (H.set a (.dict (J2 es i x) (dep es i ep))))
noncomputable def b9f (H:Hp) (v:f7) (c:Nm) (d:Nat) (fs:List (Nm×f7)):Prop:=∃ a,v=.ref a/\H a=some (.inst c d)/\H d=some (.ns fs)
noncomputable def a0i (fs:List (Nm×f7)) (x:Nm):Option f7 :=
 match fs with
 | []=>Option.none
 | p :: r=>bif Nat.beq p.1 x then some p.2 else a0i r x
noncomputable def b02 (v:f7) (x:Nm) (H:Hp) (Q:l8):Prop:=∃ c d fs u,b9f H v c d fs/\a0i fs x=some u/\Q u H
noncomputable def a0L (fs:List (Nm×f7)) (x:Nm) (v:f7):List (Nm×f7) :=
 match fs with
 | []=>[(x,v)]
 | p :: r=>bif Nat.beq p.1 x then (x,v) :: r else p :: a0L r x v
noncomputable def a5u (v:f7) (x:Nm) (u:f7) (H:Hp) (Q:Hp->Prop):Prop:=∃ c d fs,b9f H v c d fs/\fs.length<=1000/\Q (H.set d (.ns (a0L fs x u)))
noncomputable def a7P (v i:f7) (H:Hp) (Q:l8):Prop :=
 ∃ l k,v=.tup l/\i=.int k/\1<=k/\k<=l.length/\l.length<=n8/\Q (.tup (l.drop k.toNat)) H
noncomputable def b8t (v i:f7) (H:Hp) (Q:l8):Prop :=
 ∃ l k,v=.fz l/\i=.int k/\0<=k/\k < n8/\l.length<=n8/\newList ((l.take k.toNat).map f7.int) H Q
noncomputable def b0c:List Int->Int
 | []=>0
 | x :: r=>r.foldl max x
noncomputable def b4N:List Int->Int
 | []=>0
 | x :: r=>r.foldl min x
noncomputable def c0R:f7->Bool
 | .tup _=>true
 | _=>false
noncomputable def N0 (l:List Int):List Int:=l.mergeSort (λa b=>decide (a<=b))
noncomputable def biW (b:BI) (vs:List f7) (H:Hp) (Q:l8):Prop :=
 match b with
 | .len=>∃ v xs,vs=[v]/\(a1E H v xs\/∃ a l,v=.ref a/\a8i H a l/\xs=l.map f7.int)/\xs.length<=n8/\Q (.int xs.length) H
 | .sum=>∃ a,∃ l:List Int,vs=[.ref a]/\H a=some (.list (l.map f7.int))/\Q (.int l.sum) H
 | .max=>∃ a,∃ l:List Int,vs=[.ref a]/\H a=some (.list (l.map f7.int))/\l≠[]/\Q (.int (b0c l)) H
 | .min=>∃ a l,vs=[.ref a]/\a8i H a l/\l≠[]/\Q (.int (b4N l)) H
 | .sorted=>∃ a,∃ l:List Int,vs=[.ref a]/\(H a=some (.list (l.map f7.int))\/a8i H a l)/\l.length < 64/\newList ((N0 l).map f7.int) H Q
 | .list=>∃ a xs,vs=[.ref a]/\H a=some (.list xs)/\newList xs H Q
 | .tuple=>∃ v xs,vs=[v]/\a1E H v xs/\xs.length<=n8/\Q (.tup xs) H
 | .dict=>∃ a,∃ l:List (Int×f7),vs=[.ref a]/\H a=some (.list (l.map λp=>a0q (.int p.1,p.2)))/\l.length<=n8/\a7D (A9 (l.map λp=>(.int p.1,p.2))) H Q
 | .int=>∃ i,vs=[.int i]/\Q (.int i) H
 | .str=>∃ i,vs=[.int i]/\small i/\Q (.str (toString i)) H
noncomputable def b1W (l:List f7):Bool:=l.all λv=>G8 v==0
noncomputable def a9m:f7->Bool
 | .tup (.str _ :: l)=>b1W l
 | _=>false
noncomputable def a9n:f7->Bool
 | .tup [.int _,.tup l]=>b1W l
 | _=>false
noncomputable def b0E (v:f7) (H:Hp) (Q:List f7->Prop):Prop:=∃ l:List Int,a1E H v (l.map f7.int)/\(∀ i∈l,0<=i/\i < 17)/\∀ ys:List Int,ys.Pairwise (· < ·)->(∀ i,i∈ys↔i∈l)->Q (ys.map f7.int)
noncomputable def b0G (v:f7) (H:Hp) (Q:List f7->Prop):Prop:=∃ a xs,v=.ref a/\H a=some (.list xs)/\xs.length<=17/\((∀ x∈xs,a9m x=true)\/∀ x∈xs,a9n x=true)/\∀ ys:List f7,ys.Nodup->(∀ v,v∈ys↔v∈xs)->Q ys
structure Calls where
 call:Nm->Nm->List f7->Hp->l8->Prop
 has:Nm->Nm->Bool
inductive LM where
 | append | extend | pop | index
inductive DM where
 | get | setdefault | pop
noncomputable def lmN (m:LM):Nm:=match m with
 | .append=>7761242453860
 | .extend=>7900837279588
 | .pop=>3946480
 | .index=>62777799416
noncomputable def dmN (m:DM):Nm:=match m with
 | .get=>3797748
 | .setdefault=>2248622967450708571764
 | .pop=>3946480
noncomputable def b9d:Nm:=1028727313560037
noncomputable def a87:Nm:=125959291554050015
noncomputable def a8U (a:Nat) (xs:List f7) (m:LM) (vs:List f7) (H:Hp) (Q:l8):Prop :=
 match m with
 | .append=>∃ v,vs=[v]/\xs.length<=n8/\Q .none (H.set a (.list (xs++[v])))
 | .extend=>∃ b ys,vs=[.ref b]/\b≠a/\H b=some (.list ys)/\xs.length+ys.length<=n8/\Q .none (H.set a (.list (xs++ys)))
 | .pop=>∃ v,vs=[]/\xs.length<=n8/\xs.getLast?=some v/\Q v (H.set a (.list xs.dropLast))
 | .index=>∃ (l:List Int) (i:Int) (j:Nat),vs=[.int i]/\xs=l.map f7.int/\l.length<=n8/\l[j]?=some i/\(∀ k,k < j->l[k]?≠some i)/\Q (.int j) H
noncomputable def a8n (a:Nat) (es:List (f7×f7)) (ep:Nat) (m:DM) (vs:List f7) (H:Hp) (Q:l8):Prop :=
 match m with
 | .get=>∃ k d,vs=[k,d]/\J6 es k/\Q ((B4 es k).getD d) H
 | .setdefault=>∃ k d,vs=[k,d]/\J6 es k/\es.length<=n8/\(∀ v,B4 es k=some v->Q v H)/\(B4 es k=Option.none->Q d (H.set a (.dict (es++[(k,d)]) (ep+1))))
 | .pop=>∃ k v,vs=[k]/\J6 es k/\es.length<=n8/\B4 es k=some v/\Q v (H.set a (.dict (a4i es k) (ep+1)))
noncomputable def b7I (s:String) (vs:List f7) (H:Hp) (Q:l8):Prop :=
 vs=[]/\(∃ c:Char,97<=c.toNat/\c.toNat<=122/\s=String.singleton c)/\Q (.bool false) H
inductive RK where
 | inst (c:Nm) | str | lst (m:LM) | dct (m:DM)
noncomputable def b8m (has:Nm->Nm->Bool) (H:Hp) (v:f7) (m:Nm) (k:RK):Prop :=
 match k with
 | .inst c=>∃ d fs,b9f H v c d fs/\a0i fs m=Option.none/\has c m=true
 | .str=>(∃ s,v=.str s)/\m=b9d
 | .lst t=>(∃ a xs,v=.ref a/\H a=some (.list xs))/\m=lmN t
 | .dct t=>(∃ a es ep,v=.ref a/\H a=some (.dict es ep))/\m=dmN t
noncomputable def S8 (K:Calls) (k:RK) (v:f7) (m:Nm) (vs:List f7) (H:Hp) (Q:l8):Prop :=
 match k with
 | .inst c=>K.call c m (v :: vs) H Q
 | .str=>∃ s,v=.str s/\b7I s vs H Q
 | .lst t=>∃ a xs,v=.ref a/\H a=some (.list xs)/\a8U a xs t vs H Q
 | .dct t=>∃ a es ep,v=.ref a/\H a=some (.dict es ep)/\a8n a es ep t vs H Q
noncomputable def b2H (K:Calls) (c:Nm) (vs:List f7) (H:Hp) (Q:l8):Prop :=
 ∀ a d,H a=Option.none->H d=Option.none->a≠d->K.call c a87 (.ref a :: vs) ((H.set d (.ns [])).set a (.inst c d)) λv H'=>v=.none/\Q (.ref a) H'
inductive Src where
 | seq (l:List f7)
 | lst (a:Nat)
 | enum (a:Nat)
 | keys (a:Nat) (ks:List f7) (ep:Nat)
noncomputable def Src.next (H:Hp) (s:Src) (i:Nat) (o:Option f7):Prop :=
 match s with
 | .seq l=>o=l[i]?
 | .lst a=>∃ xs,H a=some (.list xs)/\o=xs[i]?
 | .enum a=>∃ xs,H a=some (.list xs)/\o=xs[i]?.map λx=>.tup [.int i,x]
 | .keys a ks ep=>∃ es,H a=some (.dict es ep)/\es.map (·.1)=ks/\o=ks[i]?
noncomputable def bindL (t:List Nm) (l:List f7) (r:En):En:=(t.zip l).foldl (λr p=>r.set p.1 p.2) r
noncomputable def a0F (t:List Nm) (one:Bool) (v:f7) (r r':En):Prop :=
 (one=true/\∃ x,t=[x]/\r'=r.set x v)\/(one=false/\∃ l,v=.tup l/\l.length=t.length/\r'=bindL t l r)
noncomputable def itV (v:f7) (H:Hp) (Q:Src->Hp->Prop):Prop :=
 (∃ l,v=.tup l/\Q (.seq l) H)\/(∃ s,v=.str s/\Q (.seq (s.toList.map λc=>.str (String.singleton c))) H) \/
 (∃ a xs,v=.ref a/\H a=some (.list xs)/\Q (.lst a) H)\/(∃ a es ep,v=.ref a/\H a=some (.dict es ep)/\Q (.keys a (es.map (·.1)) ep) H)
noncomputable def C7 (m n:Int):List f7:=(List.range (n - m).toNat).map λi=>f7.int (m+(i:Nat))
noncomputable def itR (vs:List f7) (H:Hp) (Q:Src->Hp->Prop):Prop :=
 (∃ n,vs=[.int n]/\-n8<=n/\n<=n8/\Q (.seq (C7 0 n)) H) \/
 (∃ m n,vs=[.int m,.int n]/\-n8<=m/\m<=n8/\-n8<=n/\n<=n8/\Q (.seq (C7 m n)) H)
noncomputable def itE (v:f7) (H:Hp) (Q:Src->Hp->Prop):Prop:=∃ a xs,v=.ref a/\H a=some (.list xs)/\Q (.enum a) H
noncomputable abbrev Ev:=Calls->En->Hp->l8->Prop
noncomputable abbrev Cv:=Calls->En->Hp->F7->Prop
noncomputable abbrev Lv:=Calls->En->Hp->(List f7->Hp->Prop)->Prop
noncomputable abbrev Iv:=Calls->En->Hp->(Src->Hp->Prop)->Prop
structure It where
 iv:Iv
 tup:Bool
noncomputable def a01 (turn:f7->Hp->(List f7->Hp->Prop)->Prop) (src:Src):Nat->Nat->List f7->Hp->(List f7->Hp->Prop)->Prop
 | 0,_,_,_,_=>False
 | n+1,i,acc,H,Q=>∃ o,src.next H i o/\(o=Option.none->Q acc H)/\∀ v,o=some v->acc.length<=n8/\turn v H λxs H'=>a01 turn src n (i+1) (acc++xs) H' Q
noncomputable def j7 (v:f7):Ev:=λ_ _ H Q=>Q v H
noncomputable def d6 (x:Nm):Ev:=λ_ r H Q=>∃ v,r x=some v/\Q v H
noncomputable def h9:Lv:=λ_ _ H Q=>Q [] H
noncomputable def d7 (e:Ev) (es:Lv):Lv:=λK r H Q=>e K r H λv H1=>es K r H1 λvs H2=>Q (v :: vs) H2
noncomputable def z0 (es:Lv):Ev:=λK r H Q=>es K r H λvs H1=>Q (.tup vs) H1
noncomputable def G9 (es:Lv):Ev:=λK r H Q=>es K r H λvs H1=>alloc (.list vs) H1 Q
noncomputable def a0e:Ev:=λ_ _ H Q=>alloc (.dict [] 0) H Q
noncomputable def a8q (ks:List String) (es:Lv):Ev:=λK r H Q=>es K r H λvs H1=>vs.length=ks.length/\a7D (A9 ((ks.map f7.str).zip vs)) H1 Q
noncomputable def A6 (o:BOp) (a b:Ev):Ev:=λK r H Q=>a K r H λv H1=>b K r H1 λw H2=>a4h o v w H2 Q
noncomputable def a24 (a:Ev):Ev:=λK r H Q=>a K r H λv H1=>∃ i,v=.int i/\Q (.int (-i)) H1
noncomputable def R0 (c:Cv):Ev:=λK r H Q=>c K r H λb H1=>Q (.bool b) H1
noncomputable def b6H (a b:Ev):Ev:=λK r H Q=>a K r H λv H1=>∃ t,v=.bool t/\(t=true->b K r H1 Q)/\(t=false->Q v H1)
noncomputable def a3L (c:Cv) (a b:Ev):Ev:=λK r H Q=>c K r H λt H1=>(t=true->a K r H1 Q)/\(t=false->b K r H1 Q)
noncomputable def n7 (e:Ev) (x:Nm):Ev:=λK r H Q=>e K r H λv H1=>b02 v x H1 Q
noncomputable def m9 (e i:Ev):Ev:=λK r H Q=>e K r H λv H1=>i K r H1 λw H2=>a7g v w H2 Q
noncomputable def a0f (e i:Ev):Ev:=λK r H Q=>e K r H λv H1=>i K r H1 λw H2=>a7P v w H2 Q
noncomputable def b30 (e i:Ev):Ev:=λK r H Q=>e K r H λv H1=>i K r H1 λw H2=>b8t v w H2 Q
noncomputable def D0 (f:Nm) (args:Lv):Ev:=λK r H Q=>args K r H λvs H1=>K.call 0 f vs H1 Q
noncomputable def a3I (x:Nm) (args:Lv):Ev:=λK r H Q=>∃ f,r x=some (.fn f)/\args K r H λvs H1=>K.call 0 f vs H1 Q
noncomputable def a8s (c:Nm) (args:Lv):Ev:=λK r H Q=>args K r H λvs H1=>b2H K c vs H1 Q
noncomputable def l4 (e:Ev) (m:Nm) (args:Lv):Ev:=λK r H Q=>e K r H λv H1=>∃ k,b8m K.has H1 v m k/\args K r H1 λvs H2=>S8 K k v m vs H2 Q
noncomputable def O3 (b:BI) (args:Lv):Ev:=λK r H Q=>args K r H λvs H1=>biW b vs H1 Q
noncomputable def a6Y (a:Ev):Ev:=λK r H Q=>a K r H λv H1=>∃ n:Int,v=.int n/\-n8<=n/\n<=n8/\alloc (.list (C7 0 n)) H1 Q
noncomputable def D3 (e:Ev):Ev:=λK r H Q=>e K r H λv H1=>(b0E v H1 λys=>alloc (.list ys) H1 Q)\/b0G v H1 λys=>alloc (.list ys) H1 Q
noncomputable def a4t (e:Ev):Ev:=λK r H Q=>e K r H λv H1=>(b0E v H1 λys=>Q (.int ys.length) H1)\/b0G v H1 λys=>Q (.int ys.length) H1
noncomputable def y9:Cv:=λ_ _ H Q=>Q true H
noncomputable def A8 (c:Cv) (cs:Cv):Cv:=λK r H Q=>c K r H λb H1=>(b=true->cs K r H1 Q)/\(b=false->Q false H1)
noncomputable def a5h:Cv:=λ_ _ H Q=>Q false H
noncomputable def R4 (c:Cv) (cs:Cv):Cv:=λK r H Q=>c K r H λb H1=>(b=true->Q true H1)/\(b=false->cs K r H1 Q)
noncomputable def a2g (elt:Ev) (ifs:Cv) (K:Calls) (r':En) (H2:Hp) (P:List f7->Hp->Prop):Prop :=
 ifs K r' H2 λb H3=>(b=true->elt K r' H3 λx H4=>P [x] H4)/\(b=false->P [] H3)
noncomputable def a3z (t:List Nm) (one:Bool) (r:En) (body:En->Hp->(List f7->Hp->Prop)->Prop) (v:f7) (H2:Hp) (P:List f7->Hp->Prop):Prop:=∃ r',a0F t one v r r'/\body r' H2 P
noncomputable def b1P (elt:Ev) (t2:List Nm) (one2:Bool) (it2:It) (ifs:Cv) (K:Calls) (r':En) (H2:Hp) (P:List f7->Hp->Prop):Prop :=
 it2.iv K r' H2 λsrc2 H3=>∃ n2,a01 (a3z t2 one2 r' (a2g elt ifs K)) src2 n2 0 [] H3 P
noncomputable def t8 (elt:Ev) (t:List Nm) (one:Bool) (it:It) (ifs:Cv):Ev:=λK r H Q=>it.iv K r H λsrc H1=>∃ n,a01 (a3z t one r (a2g elt ifs K)) src n 0 [] H1 λxs H5=>alloc (.list xs) H5 Q
noncomputable def a3J (elt:Ev) (t:List Nm) (one:Bool) (it:It) (t2:List Nm) (one2:Bool) (it2:It) (ifs:Cv):Ev:=λK r H Q=>it.iv K r H λsrc H1 =>
 ∃ n,a01 (a3z t one r (b1P elt t2 one2 it2 ifs K)) src n 0 [] H1 λxs H5=>alloc (.list xs) H5 Q
noncomputable def o7 (o:COp) (a b:Ev):Cv:=λK r H Q=>a K r H λv H1=>b K r H1 λw H2=>P0 o v w H2 Q
noncomputable def a6S (o1 o2:COp) (a b c:Ev):Cv:=λK r H Q=>a K r H λv H1=>b K r H1 λw H2=>P0 o1 v w H2 λt H3 =>
   (t=true->c K r H3 λu H4=>P0 o2 w u H4 Q)/\(t=false->Q false H3)
noncomputable def a5L (c:Cv):Cv:=λK r H Q=>c K r H λb H1=>Q (!b) H1
noncomputable def b3G (c a b:Cv):Cv:=λK r H Q=>c K r H λt H1=>(t=true->a K r H1 Q)/\(t=false->b K r H1 Q)
noncomputable def a2C (e:Ev):Cv:=λK r H Q=>e K r H λv H1=>∃ b,v=.bool b/\Q b H1
noncomputable def w7 (e:Ev):It:=⟨λK r H Q=>e K r H λv H1=>itV v H1 Q,false⟩
noncomputable def N4 (es:Lv):It:=⟨λK r H Q=>es K r H λvs H1=>itR vs H1 Q,false⟩
noncomputable def b1b (e:Ev):It:=⟨λK r H Q=>e K r H λv H1=>itE v H1 Q,true⟩
noncomputable abbrev a2F:=En->Hp->Prop
noncomputable abbrev Tv:=Calls->f7->En->Hp->a2F->Prop
noncomputable def l5 (x:Nm):Tv:=λ_ v r H Q=>Q (r.set x v) H
noncomputable def a0W (e i:Ev):Tv:=λK v r H Q=>e K r H λo H1=>i K r H1 λk H2=>c02 o k v H2 (Q r)
noncomputable def R6 (e:Ev) (x:Nm):Tv:=λK v r H Q=>e K r H λo H1=>a5u o x v H1 (Q r)
noncomputable def b7K (K:Calls):List Tv->List f7->En->Hp->a2F->Prop
 | [],vs,r,H,Q=>vs=[]/\Q r H
 | t :: ts,vs,r,H,Q=>∃ v ws,vs=v :: ws/\t K v r H λr1 H1=>b7K K ts ws r1 H1 Q
noncomputable def K1 (ts:List Tv):Tv:=λK v r H Q=>∃ vs,a1E H v vs/\vs.length=ts.length/\b7K K ts vs r H Q
inductive Fl where
 | next | ret (v:f7)
noncomputable def a2D (f:Fl) (n:Prop) (rt:f7->Prop):Prop :=
 match f with
 | .next=>n
 | .ret v=>rt v
noncomputable abbrev A2:=Fl->En->Hp->Prop
noncomputable abbrev Bv:=Calls->En->Hp->A2->Prop
noncomputable def b6a (c:En->Hp->F7->Prop) (b:En->Hp->A2->Prop):Nat->En->Hp->A2->Prop
 | 0,_,_,_=>False
 | n+1,r,H,Q=>c r H λt H1=>(t=true->b r H1 λf r1 H2=>a2D f (b6a c b n r1 H2 Q) λv=>Q (.ret v) r1 H2)/\(t=false->Q .next r H1)
noncomputable def a5T (t:List Nm) (one:Bool) (b:En->Hp->A2->Prop) (src:Src):Nat->Nat->En->Hp->A2->Prop
 | 0,_,_,_,_=>False
 | n+1,i,r,H,Q=>∃ o,src.next H i o/\(o=Option.none->Q .next r H)/\∀ v,o=some v->∃ r',a0F t one v r r'/\b r' H λf r1 H2 =>
   a2D f (a5T t one b src n (i+1) r1 H2 Q) λv=>Q (.ret v) r1 H2
noncomputable def y8 (e:Ev):Bv:=λK r H Q=>e K r H λ_ H1=>Q .next r H1
noncomputable def p7 (t:Tv) (e:Ev):Bv:=λK r H Q=>e K r H λv H1=>t K v r H1 λr1 H2=>Q .next r1 H2
noncomputable def z5 (e:Ev):Bv:=λK r H Q=>e K r H λv H1=>Q (.ret v) r H1
noncomputable def G6 (c:Cv) (a b:Bv):Bv:=λK r H Q=>c K r H λt H1=>(t=true->a K r H1 Q)/\(t=false->b K r H1 Q)
noncomputable def a5q (c:Cv) (b:Bv):Bv:=λK r H Q=>∃ n,b6a (c K) (b K) n r H Q
noncomputable def Q6 (t:List Nm) (one:Bool) (it:It) (b:Bv):Bv:=λK r H Q=>it.iv K r H λsrc H1=>∃ n,a5T t one (b K) src n 0 r H1 Q
noncomputable def b5p:Bv:=λ_ _ _ _=>False
noncomputable def j9:Bv:=λ_ r H Q=>Q .next r H
noncomputable def d9 (s b:Bv):Bv:=λK r H Q=>s K r H λf r1 H1=>a2D f (b K r1 H1 Q) λv=>Q (.ret v) r1 H1
structure Fn where
 params:List Nm
 body:Bv
noncomputable abbrev b1T:=Nm->Nm->Option Fn
noncomputable def j3 (F:b1T):Nat->Calls
 | 0=>⟨λ_ _ _ _ _=>False,λc f=>(F c f).isSome⟩
 | n+1=>⟨λc f vs H Q=>∃ fd,F c f=some fd/\vs.length=fd.params.length/\fd.body (j3 F n) (bindL fd.params vs En.nil) H λfl _ H'=>a2D fl (Q .none H') λv=>Q v H',λc f=>(F c f).isSome⟩
theorem a54 (F:b1T) (n:Nat) (c f:Nm):(j3 F n).has c f=(F c f).isSome:=by cases n <;> rfl
noncomputable def b5O (ks:List (Nm×Nm)) (fds:List Fn):b1T:=λc n=>((ks.zip fds).find? λe=>Nat.beq e.1.1 c&&Nat.beq e.1.2 n).map (·.2)
structure Cx where
 names:List (Str×NameKind)
 fns:List Str
 clss:List Str
 attrs:List Str
 dom:List Str
inductive VK where
 | var | glob | no
noncomputable def Cx.kind (c:Cx) (x:Str):VK:=match c.names.lookup x with
 | some .local=>.var
 | some .cell=>.var
 | some .globalImplicit=>.glob
 | _=>.no
theorem x9 {α:Type} {a:α} {C:Prop} (h:(none:Option α)=some a):C:=nomatch h
noncomputable def gd {α:Type} (b:Bool) (x:Option α):Option α:=bif b then x else none
theorem t3 {α:Type} {b:Bool} {x:Option α} {a:α} (h:gd b x=some a):b=true/\x=some a:=by
 cases b with
 | true=>exact ⟨rfl,h⟩
 | false=>exact x9 h
theorem g9 {α β:Type} {x:Option α} {f:α->Option β} {b:β} (h:x.bind f=some b):∃ a,x=some a/\f a=some b:=Option.bind_eq_some_iff.mp h
theorem n5 {α β:Type} {x:Option α} {f:α->β} {b:β} (h:x.map f=some b):∃ a,x=some a/\f a=b:=c6G h
noncomputable def one? {α:Type} (l:List α):Option α:=match l with
 | []=>none
 | a :: r=>bif r.isEmpty then some a else none
theorem one?_some {α:Type} {l:List α} {a:α} (h:one? l=some a):l=[a]:=by
 cases l with
 | nil=>exact x9 h
 | cons b r =>
  cases r with
  | nil=>exact c5z (λx=>[x]) (c5A h)
  | cons _ _=>exact x9 h
noncomputable def two? {α:Type} (l:List α):Option (α×α):=match l with
 | []=>none
 | a :: r=>(one? r).map λb=>(a,b)
theorem two?_some {α:Type} {l:List α} {a b:α} (h:two? l=some (a,b)):l=[a,b]:=by
 cases l with
 | nil=>exact x9 h
 | cons c r =>
  refine i9 (n5 h) λd q B=>?_;clear h;cases B;refine b9 (one?_some q) ?_;rfl
noncomputable def sN (l:List Nat):Str:=⟨l.toArray⟩
noncomputable def a5s:Str:=sN [108,101,110]
noncomputable def b8r:Str:=sN [115,117,109]
noncomputable def b8o:Str:=sN [109,97,120]
noncomputable def b8p:Str:=sN [109,105,110]
noncomputable def a0r:Str:=sN [115,111,114,116,101,100]
noncomputable def b5q:Str:=sN [100,105,99,116]
noncomputable def a2U:Str:=sN [108,105,115,116]
noncomputable def b1E:Str:=sN [116,117,112,108,101]
noncomputable def b8n:Str:=sN [105,110,116]
noncomputable def b8q:Str:=sN [115,116,114]
noncomputable def V3:Str:=sN [114,97,110,103,101]
noncomputable def a0O:Str:=sN [101,110,117,109,101,114,97,116,101]
noncomputable def a2N:Str:=sN [115,101,116]
noncomputable def a3q:Str:=sN [95,95,100,101,98,117,103,95,95]
noncomputable def a3r:Str:=sN [46,48]
noncomputable def b6v:List (Str×BI):=[(a5s,.len),(b8r,.sum),(b8o,.max),(b8p,.min),(a0r,.sorted),(a2U,.list),(b1E,.tuple),(b5q,.dict),(b8n,.int),(b8q,.str)]
noncomputable def b5T (o:Operator):Option BOp:=match o with
 | .Add=>some .add | .Sub=>some .sub | .Mult=>some .mul | .FloorDiv=>some .fdiv | .Mod=>some .mod | _=>none
noncomputable def a2f (o:CmpOp):Option COp:=match o with
 | .Eq=>some .eq | .NotEq=>some .ne | .Lt=>some .lt | .LtE=>some .le | .Gt=>some .gt | .GtE=>some .ge | .In=>some .isin | .NotIn=>some .notin | .Is=>some .is | .IsNot=>some .isnot
noncomputable def a1e (x:Str):Option Nm:=gd (A1 x) (some (nm x))
noncomputable def a9v (x:Str):Option String:=gd (A1 x) (some (nmS x))
noncomputable def W8 (e:Expr):Option Str:=swappedStores.match_8 (λ_=>Option Str) e (λx _=>some x) λ_=>none
noncomputable def a4I (e:Expr):Option (List Expr):=PySem.W.isTupleDisplay.match_1 (λ_=>Option (List Expr)) e (λes _ _=>some es) λ_=>none
theorem a0E {e:Expr} {x:Str} (h:W8 e=some x):∃ p,e=.Name x p:=by
 cases e <;> first | exact x9 h | exact ⟨_,c5z (Expr.Name · _) (c5A h)⟩
noncomputable def C9 {α β:Type} (f:α->Option β):List α->Option (List β)
 | []=>some []
 | a :: r=>(f a).bind λb=>(C9 f r).bind λl=>some (b :: l)
theorem y6 {α β:Type} {f:α->Option β} {a:α} {r:List α} {l:List β} (h:C9 f (a :: r)=some l):∃ b q,f a=some b/\C9 f r=some q/\l=b :: q:=by
 exact i9 (g9 h) λb B h=>i9 (g9 h) λq J h=>⟨b,q,B,J,(c5A h).symm⟩
noncomputable def a3y (es:List Expr):Option (List Nm):=C9 (λe=>(W8 e).bind a1e) es
noncomputable def a0X (e:Expr):Option (List Nm×Bool):=match W8 e with
 | some x=>(a1e x).map λa=>([a],true)
 | none=>(a4I e).bind λes=>(a3y es).map λl=>(l,false)
noncomputable def Cx.glob (c:Cx) (x:Str):Bool:=match c.kind x with
 | .glob=>true
 | _=>false
noncomputable def Cx.var (c:Cx) (x:Str):Bool:=match c.kind x with
 | .var=>true
 | _=>false
theorem a3P {c:Cx} {x:Str} (h:c.glob x=true):c.kind x=.glob:=by
 unfold Cx.glob at h;cases e:c.kind x <;> rw [e] at h <;> first | rfl | exact nomatch h
theorem a5B {c:Cx} {x:Str} (h:c.var x=true):c.kind x=.var:=by
 unfold Cx.var at h;cases e:c.kind x <;> rw [e] at h <;> first | rfl | exact nomatch h
noncomputable def v0 (c:Cx) (x:Str) (s:Str):Bool:=x==s&&(c.glob x&&(!(c.fns.contains x)&&!(c.clss.contains x)))
noncomputable def a1B:List Ev->Lv
 | []=>h9
 | e :: r=>d7 e (a1B r)
noncomputable def a1G:List Cv->Cv
 | []=>y9
 | e :: r=>A8 e (a1G r)
noncomputable def b7O:List Cv->Cv
 | []=>a5h
 | e :: r=>R4 e (b7O r)
noncomputable def toB:List Bv->Bv
 | []=>j9
 | e :: r=>d9 e (toB r)
noncomputable def a44 (e:Option Expr):Option String:=e.bind λe=>foldedSetIterable.match_1 (λ_=>Option String) e (λk _ _=>match k with
  | .str s=>a9v s
  | _=>none) λ_=>none
theorem a4a {e:Option Expr} {s:String} (h:a44 e=some s):∃ x k p,e=some (.Constant (.str x) k p)/\a9v x=some s:=by
 refine i9 (g9 h) λe q h=>?_;subst q;cases e with
 | Constant v n p=>cases v <;> first | exact x9 h | exact ⟨_,_,_,rfl,h⟩
 | _=>exact x9 h
noncomputable def a3D (e:Expr):Option (Str×List Expr):=Builtin.PlaceNodes.isACallBy.match_3 (λ_=>Option (Str×List Expr)) e (λf args kws _=>(W8 f).bind λg=>gd kws.isEmpty (some (g,args))) λ_=>none
theorem a34 {e:Expr} {g:Str} {J:List Expr} (h:a3D e=some (g,J)):∃ p q,e=.Call (.Name g p) J [] q:=by
 cases e with
 | Call f args B pos =>
  refine i9 (g9 h) λY O h=>eE (a0E O) λp V=>?_;subst V;refine eA (t3 h) λU h=>?_;clear O;cases h;cases B with
  | nil=>exact ⟨_,_,rfl⟩
  | cons _ _=>exact nomatch U
 | _=>exact x9 h
noncomputable def a6f (e:Expr):Bool:=Nat.beq e.ctorIdx 7
noncomputable def b5X (rec:Expr->Option Ev) (c:Cx) (e:Expr) (f:Str) (args:List Expr):Option It :=
 bif v0 c f V3 then (C9 rec args).map λl=>N4 (a1B l)
 else bif v0 c f a0O then (one? args).bind λa=>(rec a).map b1b
 else (rec e).map w7
noncomputable def a5z (rec:Expr->Option Ev) (c:Cx) (e:Expr):Option It :=
 bif a6f e then none else
 match a3D e with
 | some p=>b5X rec c e p.1 p.2
 | none=>(rec e).map w7
noncomputable def b9T (rec:Expr->Option Ev) (l:Expr) (op:CmpOp) (rs:List Expr):Option Cv:=(one? rs).bind λr=>gd (!a6f r) <| (rec l).bind λa=>(rec r).bind λb=>(a2f op).map λo=>o7 o a b
noncomputable def c0N (o:BoolOp):Bool:=match o with
 | .And=>true
 | .Or=>false
noncomputable def b5W (rec:Expr->Option Ev) (l:Expr) (ops:List CmpOp) (rs:List Expr):Option Cv :=
 match one? ops with
 | some op=>b9T rec l op rs
 | none=>(two? ops).bind λo=>(two? rs).bind λr=>gd (!a6f r.2) <| (rec l).bind λa=>(rec r.1).bind λb=>(rec r.2).bind λz=>(a2f o.1).bind λo1=>(a2f o.2).map λo2=>a6S o1 o2 a b z
noncomputable def c0Q (o:UnaryOp):Bool:=match o with
 | .Not=>true
 | _=>false
noncomputable def c0P (o:UnaryOp):Bool:=match o with
 | .USub=>true
 | _=>false
noncomputable def b9S (recC:Expr->Option Cv) (o:BoolOp) (vs:List Expr):Option Cv:=gd (!vs.isEmpty) <| (C9 recC vs).map λl=>match o with
 | .And=>a1G l
 | .Or=>b7O l
noncomputable def c08 (rec:Expr->Option Ev) (recC:Expr->Option Cv) (e:Expr):Option Cv :=
 match e with
 | .UnaryOp o x _=>bif c0Q o then (recC x).map a5L else (rec e).map a2C
 | .BoolOp o vs _=>b9S recC o vs
 | .Compare l ops rs _=>b5W rec l ops rs
 | .IfExp t a b _=>(recC t).bind λt=>(recC a).bind λa=>(recC b).bind λb=>some (b3G t a b)
 | e=>(rec e).map a2C
noncomputable def T8 (c:Cx) (l:List (Str×NameKind)):List (Str×NameKind):=l.map λp=>if p.2==.free&&c.names.lookup p.1==some .cell then (p.1,.cell) else p
noncomputable def a0t (e:Expr):List Str:=match W8 e with
 | some x=>[x]
 | none=>((a4I e).map (·.filterMap W8)).getD []
noncomputable def a5k (sc:Scope):List (Str×NameKind):=sc.names.filter λp=>p.1 != a3r
noncomputable def a1i (c:Cx) (sc:Scope) (must:List Str):Bool:=sc.kind==.function &&
 (sc.names.all λp=>p.2 != .cell&&(p.2 != .free||c.names.lookup p.1==some .cell)&&(p.2 != .local||sc.names.lookup p.1==some .local)) &&
 (a5k sc).all λp=>p.2 != .local||must.contains p.1||!(c.dom.contains p.1)
noncomputable def a2V (l:List (Str×NameKind)):List Str:=(l.filter λp=>p.2==.local||p.2==.cell).map (·.1)
noncomputable def sub (c:Cx) (sc:Scope):Cx:={c with names:=T8 c (a5k sc),dom:=c.dom++a2V (T8 c (a5k sc))}
noncomputable def W7 (f:Str->Bool) (t:Expr):Bool:=match W8 t with
 | some x=>f x
 | none=>((a4I t).map λes=>es.all λe=>((W8 e).map f).getD false).getD false
noncomputable def X8 (c:Cx) (x:Str):Bool:=c.names.lookup x==some .local
noncomputable def a2S (it:It) (one:Bool):Bool:=!it.tup||!one
noncomputable def a6s (e:Expr):Bool:=match a3D e with
 | some p=>!p.2.isEmpty
 | none=>true
noncomputable def b7P (k:Const):Option f7:=match k with
 | .none=>some .none
 | .bool b=>some (.bool b)
 | .int i=>some (.int i)
 | .str s=>(a9v s).map .str
 | _=>none
noncomputable def b9W (c:Cx) (x:Str):Option Ev:=gd (!(x==a3q)) <| bif c.var x then (a1e x).map d6 else gd (c.glob x&&c.fns.contains x) ((a1e x).map λy=>j7 (.fn y))
noncomputable def b8v (rec:Expr->Option Ev) (v i:Expr):Option Ev:=match i with
 | .Slice lo hi st _=>gd st.isNone <| (match lo with
  | some lo=>gd hi.isNone <| (rec v).bind λa=>(rec lo).bind λb=>some (a0f a b)
  | none=>hi.bind λhi=>(rec v).bind λa=>(rec hi).bind λb=>some (b30 a b))
 | i=>(rec v).bind λa=>(rec i).bind λb=>some (m9 a b)
noncomputable def b5Y (rec:Expr->Option Ev) (ob:Expr) (m:Str) (apos:Pos) (args:List Expr) (pos:Pos):Option Ev :=
 gd (decide (args.length<=15)&&a6s ob&&(apos.endLine==pos.line)) <| (rec ob).bind λo=>(a1e m).bind λm=>(C9 rec args).bind λl=>some (l4 o m (a1B l))
noncomputable def b9R (rec:Expr->Option Ev) (c:Cx) (f:Str) (args:List Expr):Option Ev :=
 gd (v0 c f f&&decide (args.length<=2)) <| (b6v.lookup f).bind λb=>(C9 rec args).bind λl=>some (O3 b (a1B l))
noncomputable def b5U (rec:Expr->Option Ev) (c:Cx) (f:Str) (args:List Expr):Option Ev :=
 match (one? args).bind a3D with
 | some p =>
  bif v0 c p.1 a2N then (one? p.2).bind λa=>(rec a).bind λa=>bif v0 c f a0r then some (D3 a) else bif v0 c f a5s then some (a4t a) else none
  else bif v0 c p.1 V3&&v0 c f a2U then (one? p.2).bind λa=>(rec a).map a6Y
  else b9R rec c f args
 | none=>b9R rec c f args
noncomputable def b1N (rec:Expr->Option Ev) (c:Cx) (f:Str) (args:List Expr):Option Ev:=gd (decide (args.length<=15)&&!(f==a3q)) <| bif c.var f then (a1e f).bind λf=>(C9 rec args).map λl=>a3I f (a1B l) else gd (c.glob f) <|
   bif c.fns.contains f then (a1e f).bind λf=>(C9 rec args).map λl=>D0 f (a1B l)
   else bif c.clss.contains f then (a1e f).bind λf=>(C9 rec args).map λl=>a8s f (a1B l)
   else b5U rec c f args
noncomputable def b5V (rec:Expr->Option Ev) (c:Cx) (f:Expr) (args:List Expr) (kws:List Keyword) (pos:Pos):Option Ev:=gd kws.isEmpty <| PySem.W.holdsPat.match_1 (λ_=>Option Ev) f (λob m apos=>b5Y rec ob m apos args pos) λf=>(W8 f).bind λf=>b1N rec c f args
noncomputable def b47 (g:Comprehension):Bool:=g.is_async==0
noncomputable def b9U (rec:Cx->Expr->Option Ev) (recC:Cx->Expr->Option Cv) (c:Cx) (elt:Expr) (g:Comprehension) (sc:Scope):Option Ev :=
 gd (b47 g&&a1i c sc (a0t g.target)&&W7 (X8 (sub c sc)) g.target) <|
 (a0X g.target).bind λt=>(a5z (rec c) c g.iter).bind λit=>(C9 (recC (sub c sc)) g.ifs).bind λifs=>(rec (sub c sc) elt).bind λe=>gd (a2S it t.2) (some (t8 e t.1 t.2 it (a1G ifs)))
noncomputable def b9V (rec:Cx->Expr->Option Ev) (recC:Cx->Expr->Option Cv) (c:Cx) (elt:Expr) (g g2:Comprehension) (sc:Scope):Option Ev :=
 gd (b47 g&&b47 g2&&g.ifs.isEmpty&&a1i c sc (a0t g.target)&&W7 (X8 (sub c sc)) g.target&&W7 (X8 (sub c sc)) g2.target) <|
 (a0X g.target).bind λt=>(a5z (rec c) c g.iter).bind λit=>(a0X g2.target).bind λt2=>(a5z (rec (sub c sc)) (sub c sc) g2.iter).bind λit2=>(C9 (recC (sub c sc)) g2.ifs).bind λifs=>(rec (sub c sc) elt).bind λe =>
  gd (a2S it t.2&&a2S it2 t2.2) (some (a3J e t.1 t.2 it t2.1 t2.2 it2 (a1G ifs)))
noncomputable def b0N (rec:Expr->Option Ev) (ks:List (Option Expr)) (vs:List Expr):Option Ev :=
 bif ks.isEmpty&&vs.isEmpty then some a0e else
 gd (decide (ks.length<=15)&&ks.length==vs.length) <| (C9 a44 ks).bind λks=>(C9 rec vs).bind λvs=>some (a8q ks (a1B vs))
noncomputable def c09 (c:Cx) (rec:Cx->Expr->Option Ev) (recC:Cx->Expr->Option Cv) (e:Expr):Option Ev :=
 match e with
 | .Constant k _ _=>(b7P k).map j7
 | .Name x _=>b9W c x
 | .Tuple es _ _=>gd (decide (es.length<=100)) <| (C9 (rec c) es).map λl=>z0 (a1B l)
 | .List es _=>gd (decide (es.length<=100)) <| (C9 (rec c) es).map λl=>G9 (a1B l)
 | .Dict ks vs _=>b0N (rec c) ks vs
 | .BinOp a op b _=>(b5T op).bind λo=>(rec c a).bind λx=>(rec c b).bind λy=>some (A6 o x y)
 | .UnaryOp o x _=>bif c0P o then (rec c x).map a24 else none
 | .BoolOp o vs _=>gd (c0N o) <| (two? vs).bind λp=>(rec c p.1).bind λa=>(rec c p.2).map λb=>b6H a b
 | .Compare l ops rs _=>(one? ops).bind λop=>(b9T (rec c) l op rs).map R0
 | .IfExp t a b _=>(recC c t).bind λt=>(rec c a).bind λa=>(rec c b).bind λb=>some (a3L t a b)
 | .Attribute v a _=>gd (c.attrs.contains a&&a6s v) <| (rec c v).bind λe=>(a1e a).bind λx=>some (n7 e x)
 | .Subscript v i _=>b8v (rec c) v i
 | .Call f args kws pos=>b5V (rec c) c f args kws pos
 | .ListComp elt gs sc _=>(match one? gs with
  | some g=>b9U rec recC c elt g sc
  | none=>(two? gs).bind λg=>b9V rec recC c elt g.1 g.2 sc)
 | _=>none
mutual
noncomputable def P6:Nat->Cx->Expr->Option Ev
 | 0,_,_=>none
 | n+1,c,e=>c09 c (P6 n) (trC n) e
noncomputable def trC:Nat->Cx->Expr->Option Cv
 | 0,_,_=>none
 | n+1,c,e=>c08 (P6 n c) (trC n c) e
end
noncomputable def a3d (e:Expr):Bool:=Nat.beq e.ctorIdx 26
noncomputable def a9w (n:Nat) (c:Cx) (e:Expr):Option Tv :=
 match e with
 | .Name x _=>gd (c.var x) <| (a1e x).map l5
 | .Subscript v i _=>gd (!a3d i) <| (P6 n c v).bind λa=>(P6 n c i).bind λb=>some (a0W a b)
 | .Attribute v a _=>gd (c.attrs.contains a) <| (P6 n c v).bind λe=>(a1e a).bind λx=>some (R6 e x)
 | .Tuple ..=>none
 | .Call ..=>none
 | .Constant ..=>none
 | .Slice ..=>none
 | _=>none
noncomputable def trT (n:Nat) (c:Cx) (e:Expr):Option Tv :=
 match a4I e with
 | some es=>(C9 (a9w n c) es).map K1
 | none=>a9w n c e
noncomputable def a2k (t e:Expr):Bool :=
 match a4I t with
 | some _=>((a4I e).map λvs=>vs.all (constantsAlone 8)).getD false
 | none=>Nat.beq t.ctorIdx 24
noncomputable def a0I (e:Expr):Bool:=Nat.ble 8 e.ctorIdx&&Nat.ble e.ctorIdx 10
noncomputable def a5Z (recS:Cx->Stmt->Option Bv) (c:Cx) (l:List Stmt):Option Bv:=(C9 (recS c) l).map toB
noncomputable def trS:Nat->Cx->Stmt->Option Bv
 | 0,_,_=>none
 | n+1,c,s=>match s with
  | .Expr e _=>gd (!a0I e) <| (P6 n c e).map y8
  | .Assign ts e _=>(one? ts).bind λt=>gd (!a2k t e) <| (trT n c t).bind λt=>(P6 n c e).bind λe=>some (p7 t e)
  | .Return e _=>e.bind λe=>(P6 n c e).map z5
  | .If t a b _=>(trC n c t).bind λt=>(a5Z (trS n) c a).bind λa=>(a5Z (trS n) c b).bind λb=>some (G6 t a b)
  | .While t b els _=>gd els.isEmpty <| (trC n c t).bind λt=>(a5Z (trS n) c b).bind λb=>some (a5q t b)
  | .For t it b els _=>gd (els.isEmpty&&W7 c.var t) <| (a0X t).bind λt=>(a5z (P6 n c) c it).bind λit=>(a5Z (trS n) c b).bind λb=>gd (a2S it t.2) (some (Q6 t.1 t.2 it b))
  | .Raise _ _ _=>some b5p
  | _=>none
noncomputable def a9u (p:Arguments):Option (List Nm) :=
 gd (p.posonlyargs.isEmpty&&p.vararg.isNone&&p.kwonlyargs.isEmpty&&p.kwarg.isNone&&p.defaults.isEmpty) <| C9 (λa=>a1e a.arg) p.args
noncomputable def trF (fns clss attrs:List Str) (p:Arguments) (body:List Stmt) (sc:Scope):Option Fn :=
 (a9u p).bind λps=>(a5Z (trS 60) ⟨sc.names,fns,clss,attrs,a2V sc.names⟩ body).bind λb=>some ⟨ps,b⟩
structure Gi where
 base:Addr->Option Obj
 K:Frag
 fa:Nm->Nm->Option Addr
 ca:Nm->Option Addr
 sa:Addr
 sl:List Int
 os:OsState
 F:b1T
section
variable {x:Str}(G:Gi)
mutual
noncomputable def j6 (h:Heap):f7->Value->Prop
 | .none,v=>v=.none
 | .bool b,v=>v=.bool b
 | .int i,v=>∃ t,v=.int i t
 | .str s,v=>∃ t,v=.str (Str.ofString s) t
 | .tup l,v=>∃ a vs,v=.ref a/\IsTup h a vs.toArray/\m5 h l vs
 | .ref a,v=>v=.ref a
 | .fn f,v=>∃ a,v=.ref a/\G.fa 0 f=some a
 | .fz l,v=>v=.ref G.sa/\l=G.sl
noncomputable def m5 (h:Heap):List f7->List Value->Prop
 | [],vs=>vs=[]
 | x :: r,vs=>∃ u us,vs=u :: us/\j6 h x u/\m5 h r us
end
variable {G:Gi}{h:Heap}{v:Value}
theorem b56 (r:j6 G h .none v):v=.none:=r
theorem a6I {b:Bool} (r:j6 G h (.bool b) v):v=.bool b:=r
theorem J8 {i:Int} (r:j6 G h (.int i) v):∃ t,v=.int i t:=r
theorem a1D {s:String} (r:j6 G h (.str s) v):∃ t,v=.str (Str.ofString s) t:=r
theorem U0 {l:List f7} (r:j6 G h (.tup l) v):∃ a vs,v=.ref a/\IsTup h a vs.toArray/\m5 G h l vs:=r
theorem P7 {a:Nat} (r:j6 G h (.ref a) v):v=.ref a:=r
theorem vfn {f:Nm} (r:j6 G h (.fn f) v):∃ a,v=.ref a/\G.fa 0 f=some a:=r
theorem vfz {l:List Int} (r:j6 G h (.fz l) v):v=.ref G.sa/\l=G.sl:=r
theorem a0D {vs:List Value} (r:m5 G h [] vs):vs=[]:=r
theorem B6 {x:f7} {l:List f7} {vs:List Value} (r:m5 G h (x :: l) vs):∃ u us,vs=u :: us/\j6 G h x u/\m5 G h l us:=r
theorem j6.ref {a:Nat}:j6 G h (.ref a) (.ref a):=(rfl:Value.ref a=.ref a)
theorem j6.int {i:Int} {t:Tok}:j6 G h (.int i) (.int i t):=(⟨t,rfl⟩:∃ q,Value.int i t=.int i q)
theorem j6.none:j6 G h .none .none:=(rfl:Value.none=.none)
theorem j6.bool {b:Bool}:j6 G h (.bool b) (.bool b):=(rfl:Value.bool b=.bool b)
theorem j6.str {s:String} {t:Tok}:j6 G h (.str s) (.str (Str.ofString s) t):=(⟨t,rfl⟩:∃ q,Value.str (Str.ofString s) t=.str (Str.ofString s) q)
theorem j6.tup {l:List f7} {a:Addr} {vs:List Value} (t:IsTup h a vs.toArray) (r:m5 G h l vs):j6 G h (.tup l) (.ref a):=(⟨a,vs,rfl,t,r⟩:∃ b us,Value.ref a=.ref b/\IsTup h b us.toArray/\m5 G h l us)
theorem m5.nil:m5 G h [] []:=(rfl:([]:List Value)=[])
theorem m5.cons {x:f7} {u:Value} {l:List f7} {vs:List Value} (a:j6 G h x u) (b:m5 G h l vs):m5 G h (x :: l) (u :: vs):=(⟨u,vs,rfl,a,b⟩:∃ q us,u :: vs=q :: us/\j6 G h x q/\m5 G h l us)
end
variable {x:Str}
theorem m5.length {G:Gi} {h:Heap}:∀ {l:List f7} {vs:List Value},m5 G h l vs->l.length=vs.length:=by
 intro r;induction r with
 | nil=>intro _ e;cases a0D e;rfl
 | cons _ r B =>
  intro _ e;replace e:=B6 e;revert e;intro q;refine j8 q λu us J _ e=>?_;clear q;subst J;simp [B e]
theorem m5.append {G:Gi} {h:Heap}:∀ {l m:List f7} {vs B:List Value},m5 G h l vs->m5 G h m B->m5 G h (l++m) (vs++B):=by
 intro r;induction r with
 | nil=>intro _ _ _ e f;cases a0D e;exact f
 | cons _ r J =>
  intro _ _ _ e f;replace e:=B6 e;revert e;intro q;refine j8 q λu us O a e=>?_;clear q;subst O;exact .cons a (J e f)
theorem m5.get {G:Gi} {h:Heap}:∀ {l:List f7} {vs:List Value} (i:Nat) {x:f7},m5 G h l vs->l[i]?=some x->∃ u,vs[i]?=some u/\j6 G h x u:=by
 intro r;induction r with
 | nil=>intro _ i _ _ f;simp at f
 | cons y r J =>
  intro _ i x e f;replace e:=B6 e;revert e;intro q;refine j8 q λu us B a e=>?_;clear q;subst B;cases i with
  | zero=>simp at f;subst f;exact ⟨u,rfl,a⟩
  | succ i=>simp at f ⊢;exact J i e f
theorem m5.get_none {G:Gi} {h:Heap} {l:List f7} {vs:List Value} (i:Nat) (e:m5 G h l vs) (f:l[i]?=none):vs[i]?=none:=by
 rw [List.getElem?_eq_none_iff] at f ⊢;refine u7 e.length ?_;exact f
theorem m5.drop {G:Gi} {h:Heap}:∀ {l:List f7} {vs:List Value} (n:Nat),m5 G h l vs->m5 G h (l.drop n) (vs.drop n):=by
 intro l;induction l with
 | nil=>intro _ n e;cases a0D e;rw[List.drop_nil];rw[List.drop_nil];exact .nil
 | cons x r B =>
  intro _ n e;refine j8 (B6 e) λu us q a b=>?_;subst q;cases n with
  | zero=>exact e
  | succ n=>exact B n b
theorem m5.take {G:Gi} {h:Heap}:∀ {l:List f7} {vs:List Value} (n:Nat),m5 G h l vs->m5 G h (l.take n) (vs.take n):=by
 intro l;induction l with
 | nil=>intro _ n e;cases a0D e;rw[List.take_nil];rw[List.take_nil];exact .nil
 | cons x r B =>
  intro _ n e;refine j8 (B6 e) λu us q a b=>?_;clear e;subst q;cases n with
  | zero=>exact .nil
  | succ n=>exact .cons a (B n b)
theorem m5.set {G:Gi} {h:Heap}:∀ {l:List f7} {vs:List Value} (i:Nat) {x:f7} {u:Value},m5 G h l vs->j6 G h x u->m5 G h (l.set i x) (vs.set i u):=by
 intro r;induction r with
 | nil=>intro _ i _ _ e _;cases a0D e;simpa using .nil
 | cons y r J =>
  intro _ i x u e f;replace e:=B6 e;revert e;intro q;refine j8 q λO us B a e=>?_;clear q;subst B;cases i with
  | zero=>simpa using .cons f e
  | succ i=>simpa using .cons a (J i e f)
theorem m5.toInts {G:Gi} {h:Heap}:∀ {l:List Int} {vs:List Value},m5 G h (l.map f7.int) vs->IntsAre vs l:=by
 intro r;induction r with
 | nil=>intro _ e;cases a0D e;exact .nil
 | cons i r O =>
  intro _ e;replace e:=B6 e;revert e;intro q;refine j8 q λu us B J e=>?_;clear q;subst B;refine eE (J8 J) λt U=>?_;clear J;subst U;exact .cons i t (O e)
theorem m5.of_ints {G:Gi} {h:Heap} {l:List Int} {vs:List Value} (e:IntsAre vs l):m5 G h (l.map f7.int) vs:=by
 induction e with
 | nil=>exact .nil
 | cons _ _ _ q=>exact .cons .int q
structure Ext (X:Addr->Prop) (H:Hp) (h:Heap) (H':Hp) (h':Heap):Prop where
 keep:∀ a o,h.get? a=some o->H a=none->¬ X a->h'.get? a=some o
 fresh:∀ a,(H' a).isSome->(H a).isSome\/h.get? a=none\/X a
 grow:∀ a,(H a).isSome->(H' a).isSome
 there:∀ a,(h.get? a).isSome->¬ X a->(h'.get? a).isSome
noncomputable abbrev O1:Addr->Prop:=λ_=>False
theorem Ext.refl (X:Addr->Prop) (H:Hp) (h:Heap):Ext X H h H h:=⟨λ_ _ e _ _=>e,λ_ e=>.inl e,λ_ e=>e,λ_ e _=>e⟩
theorem Ext.trans {X:Addr->Prop} {H B J:Hp} {h O U:Heap} (x:Ext X H h B O) (y:Ext X B O J U):Ext X H h J U:=by
 refine ⟨λa o e f g=>?_,λa e=>?_,λa e=>y.grow a (x.grow a e),λa e g=>y.there a (x.there a e g) g⟩
 ·refine y.keep a o (x.keep a o e f g) ?_ g;cases q:B a with
  | none=>rfl
  | some _ =>
   rcases x.fresh a (by rw[q];rfl) with z | z | z
   ·rw [f] at z;cases z
   ·rw [e] at z;cases z
   ·exact c59 z g
 ·rcases y.fresh a e with z | z | z
  ·exact x.fresh a z
  ·cases q:h.get? a with
   | none=>exact .inr (.inl rfl)
   | some o =>
    by_cases g:X a
    ·exact .inr (.inr g)
    ·have:=x.there a (by rw[q];rfl) g;rw [z] at this;cases this
  ·exact .inr (.inr z)
theorem Ext.weaken {X Y:Addr->Prop} {H q:Hp} {h h':Heap} (x:Ext X H h q h') (i:∀ a,X a->Y a):Ext Y H h q h' :=
 ⟨λa o e f g=>x.keep a o e f λz=>g (i a z),λa e=>by
  rcases x.fresh a e with z | z | z
  ·exact .inl z
  ·exact .inr (.inl z)
  ·exact .inr (.inr (i a z)),x.grow,λa e g=>x.there a e λz=>g (i a z)⟩
theorem Ext.compress {X Y:Addr->Prop} {H q:Hp} {h h':Heap} (x:Ext X H h q h') (i:∀ a,X a->Y a\/h.get? a=none):Ext Y H h q h':=by
 have no:∀ a o,h.get? a=some o->¬ Y a->¬ X a:=λa o e g z=>by
  rcases i a z with z | z
  ·exact g z
  ·rw [e] at z;exact nomatch z
 refine ⟨λa o e f g=>x.keep a o e f (no a o e g),λa e=>?_,x.grow,λa e g=>?_⟩
 ·rcases x.fresh a e with z | z | z
  ·exact .inl z
  ·exact .inr (.inl z)
  ·rcases i a z with z | z
   ·exact .inr (.inr z)
   ·exact .inr (.inl z)
 ·exact eE (c6J e) λo B=>x.there a e (no a o B g)
noncomputable def Q7 (X:Addr->Prop) (h:Heap):Prop:=∀ a o vs n,X a->h.get? a=some o->o.cls=.type "tuple"->o.data=.seq vs n->False
theorem Q7.no {h:Heap}:Q7 O1 h:=λ_ _ _ _ x=>x.elim
mutual
noncomputable def o6 (w:World):f7->Int
 | .int i=>hashInt i
 | .str s=>hashStr w (Str.ofString s)
 | .tup l=>reduceHash (Builtin.Tuple.tupleHashOf (S9 w l))
 | .none=>0
 | .bool _=>0
 | .ref _=>0
 | .fn _=>0
 | .fz _=>0
noncomputable def S9 (w:World):List f7->List Int
 | []=>[]
 | v :: r=>o6 w v :: S9 w r
end
noncomputable def K6 (G:Gi) (w:World) (h:Heap):List (f7×f7)->List DictEntry->Prop
 | [],es=>es=[]
 | p :: r,es=>∃ e t,es=e :: t/\j6 G h p.1 e.key/\j6 G h p.2 e.val/\e.hash=o6 w p.1/\K6 G w h r t
noncomputable def a2B (G:Gi) (w:World) (h:Heap) (a:Addr):N2->Prop
 | .list xs=>∃ vs n,h.get? a=some {cls:=.type "list",data:=.seq vs n}/\m5 G h xs vs.toList
 | .dict es ep=>(es.map (·.1)).Nodup/\a0V es/\∃ ents,h.get? a=some {cls:=.type "dict",data:=.dict ents ep}/\K6 G w h es ents.toList
 | .inst c d=>∃ C,G.ca c=some C/\h.get? a=some (instObj C d)
 | .ns fs=>∃ es n,h.get? a=some {cls:=.type "dict",data:=.dict es n}/\StrKeys es/\es.size=fs.length /\
   ∀ x,A1 x=true->(∀ v,a0i fs (nm x)=some v->∃ u,nsFind es x=some u/\j6 G h v u)/\(a0i fs (nm x)=none->nsFind es x=none)
noncomputable def B9 (o:Obj):Prop:=∀ vs n,o.data≠.seq vs n
structure y5 (G:Gi) (w:World) (H:Hp) (h:Heap):Prop where
 base:∀ a o,G.base a=some o->h.get? a=some o/\H a=none
 objs:∀ a mo,H a=some mo->a2B G w h a mo
theorem j6.mono {G:Gi} {h h':Heap} (k:∀ a vs,IsTup h a vs->IsTup h' a vs) {x:f7} {v:Value} (e:j6 G h x v):j6 G h' x v :=
 f7.rec (motive_1:=λx=>∀ v,j6 G h x v->j6 G h' x v) (motive_2:=λl=>∀ vs,m5 G h l vs->m5 G h' l vs) (λ_ e=>e) (λ_ _ e=>e) (λ_ _ e=>e) (λ_ _ e=>e)
  (λl b v e=>by replace e:=U0 e;revert e;intro q;refine j8 q λa vs B V e=>?_;clear q;subst B;exact .tup (k _ _ V) (b _ e)) (λ_ _ e=>e) (λ_ _ e=>e) (λ_ _ e=>e) (λ_ e=>e)
  (λx r Y Z vs e=>by refine j8 (B6 e) λu us J O U=>?_;clear e;subst J;exact .cons (Y _ O) (Z _ U)) x v e
theorem m5.mono {G:Gi} {h h':Heap} (k:∀ a vs,IsTup h a vs->IsTup h' a vs):∀ {l:List f7} {vs:List Value},m5 G h l vs->m5 G h' l vs:=by
 intro U;induction U with
 | nil=>exact λe=>e
 | cons _ _ O =>
  intro _ e;refine j8 (B6 e) λu us q B J=>?_;clear e;subst q;exact .cons (B.mono k) (O J)
theorem b2d {G:Gi} {w:World} {h:Heap} {es:List DictEntry} (r:K6 G w h [] es):es=[]:=r
theorem a25 {G:Gi} {w:World} {h:Heap} {p:f7×f7} {l:List (f7×f7)} {es:List DictEntry} (r:K6 G w h (p :: l) es):∃ e t,es=e :: t/\j6 G h p.1 e.key/\j6 G h p.2 e.val/\e.hash=o6 w p.1/\K6 G w h l t:=r
theorem K6.cons {G:Gi} {w:World} {h:Heap} {p:f7×f7} {l:List (f7×f7)} {e:DictEntry} {t:List DictEntry} (a:j6 G h p.1 e.key) (b:j6 G h p.2 e.val) (c:e.hash=o6 w p.1) (d:K6 G w h l t):K6 G w h (p :: l) (e :: t) :=
 (⟨e,t,rfl,a,b,c,d⟩:∃ q B,e :: t=q :: B/\j6 G h p.1 q.key/\j6 G h p.2 q.val/\q.hash=o6 w p.1/\K6 G w h l B)
theorem K6.mono {G:Gi} {w:World} {h h':Heap} (k:∀ a vs,IsTup h a vs->IsTup h' a vs):∀ {l:List (f7×f7)} {es:List DictEntry},K6 G w h l es->K6 G w h' l es:=by
 intro Y;induction Y with
 | nil=>exact λe=>e
 | cons _ _ V =>
  intro _ e;refine B0 (a25 e) λu us q B J O U=>?_;clear e;subst q;exact .cons (B.mono k) (J.mono k) O (V U)
theorem a2B.mono {G:Gi} {w:World} {h h':Heap} {a:Addr} {mo:N2} (k:∀ a vs,IsTup h a vs->IsTup h' a vs) (same:∀ o,h.get? a=some o->h'.get? a=some o) (x:a2B G w h a mo):a2B G w h' a mo:=by
 cases mo with
 | list g=>refine u6 x λvs n e r=>?_;clear x;exact ⟨vs,n,same _ e,r.mono k⟩
 | dict B Z=>refine V7 x λU V ents e r=>?_;clear x;exact ⟨U,V,ents,same _ e,r.mono k⟩
 | inst c d=>refine i9 x λC e f=>?_;clear x;exact ⟨C,e,same _ f⟩
 | ns b =>
  refine G2 x λB n e ns Y f=>?_;clear x;refine ⟨B,n,same _ e,ns,Y,λx J=>⟨λv q=>?_,(f x J).2⟩⟩;exact i9 ((f x J).1 v q) λu O q=>⟨u,O,q.mono k⟩
theorem a2B.at_ {G:Gi} {w:World} {h:Heap} {a:Addr} {mo:N2} (x:a2B G w h a mo):∃ o,h.get? a=some o/\o.cls≠.type "tuple":=by
 cases mo with
 | list Z=>refine u6 x λY n e r=>?_;clear x;exact ⟨_,e,by simp⟩
 | dict q B=>refine V7 x λO U ents e r=>?_;clear x;exact ⟨_,e,by simp⟩
 | inst c d=>refine i9 x λC e f=>?_;clear x;exact ⟨_,f,by simp⟩
 | ns J=>refine G2 x λq n e ns V f=>?_;clear x;exact ⟨_,e,by simp⟩
theorem y5.noTup {G:Gi} {w:World} {H:Hp} {h:Heap} (R:y5 G w H h) {a:Addr} {vs:Array Value} (t:IsTup h a vs):H a=none:=by
 cases q:H a with
 | none=>rfl
 | some J =>
  refine i9 ((R.objs a J q).at_) λo e n=>p9 t λU B c _=>?_;clear t;rw [e] at B;have O:=B8 B;clear B;subst O;exact c59 c n
theorem Ext.tup {G:Gi} {w:World} {X:Addr->Prop} {H q:Hp} {h h':Heap} (x:Ext X H h q h') (R:y5 G w H h) (O:Q7 X h) {a:Addr} {vs:Array Value} (t:IsTup h a vs):IsTup h' a vs:=by
 have B:=R.noTup t;refine K8 t λo e c n d=>?_;clear t;exact ⟨o,x.keep a o e B (λJ=>O a o _ _ J e c d),c,n,d⟩
theorem Ext.vrep {G:Gi} {w:World} {X:Addr->Prop} {H q:Hp} {h h':Heap} (x:Ext X H h q h') (R:y5 G w H h) (B:Q7 X h) {v:f7} {u:Value} (t:j6 G h v u):j6 G h' v u :=
 t.mono λ_ _=>x.tup R B
theorem Ext.vreps {G:Gi} {w:World} {X:Addr->Prop} {H q:Hp} {h h':Heap} (x:Ext X H h q h') (R:y5 G w H h) (B:Q7 X h) {v:List f7} {u:List Value} (t:m5 G h v u):m5 G h' v u :=
 t.mono λ_ _=>x.tup R B
theorem Ext.push {H:Hp} {h:Heap} (o:Obj):Ext O1 H h H (h.push o) :=
 ⟨λ_ _ e _ _=>c5i _ e,λ_ e=>.inl e,λ_ e=>e,λa e _=>by
  refine eE (c6J e) λq e=>?_;rw[(c5i _ e)];rfl⟩
theorem y5.lt {G:Gi} {w:World} {H:Hp} {h:Heap} (R:y5 G w H h) {a:Addr} {mo:N2} (e:H a=some mo):a < h.objs.size:=by refine i9 ((R.objs a mo e).at_) λ_ e _=>?_;exact c5n e
theorem a3O {h:Heap}:h.get? h.objs.size=none:=by
 cases e:h.get? h.objs.size with
 | none=>rfl
 | some o=>exact c59 (c5n e) (c5U _)
theorem y5.fresh {G:Gi} {w:World} {H:Hp} {h:Heap} (R:y5 G w H h):H h.objs.size=none:=by
 cases e:H h.objs.size with
 | none=>rfl
 | some q=>exact c59 (R.lt e) (c5U _)
theorem T7 {h:Heap} {o:Obj} {a:Addr} {vs:Array Value} (t:IsTup h a vs):IsTup (h.push o) a vs:=t.push o
theorem y5.push {G:Gi} {w:World} {H:Hp} {h:Heap} (R:y5 G w H h) (o:Obj):y5 G w H (h.push o) :=
 ⟨λa q e=>⟨c5i _ (R.base a q e).1,(R.base a q e).2⟩,λa B e=>(R.objs a B e).mono (λ_ _=>T7) λ_ e=>c5i _ e⟩
theorem y5.alloc {G:Gi} {w:World} {H:Hp} {h:Heap} (R:y5 G w H h) {o:Obj} {mo:N2} (r:a2B G w (h.push o) h.objs.size mo) :
  y5 G w (H.set h.objs.size mo) (h.push o)/\Ext O1 H h (H.set h.objs.size mo) (h.push o):=by
 refine ⟨⟨λa U e=>?_,λa B e=>?_⟩,⟨λ_ _ e _ _=>c5i _ e,λa e=>?_,λa e=>?_,(Ext.push (H:=H) o).there⟩⟩
 ·refine eA (R.base a U e) λJ O=>⟨c5i _ J,?_⟩;unfold Hp.set;rw[(c57 (c5Q (c5n J)))];exact O
 ·unfold Hp.set at e
  split at e
  ·rename_i q;subst q;have V:=B8 e;clear e;subst V;exact r
  ·exact (R.push o).objs a B e
 ·unfold Hp.set at e
  split at e
  ·rename_i q;subst q;exact .inr (.inl a3O)
  ·exact .inl e
 ·unfold Hp.set
  split
  ·rfl
  ·exact e
theorem y5.update {G:Gi} {w:World} {H:Hp} {h h':Heap} (R:y5 G w H h) {a:Addr} {mo mo':N2} (e:H a=some mo) (s:Heap.SameBut a h h') (r:(∀ b vs,IsTup h b vs->IsTup h' b vs)->a2B G w h' a mo') :
  y5 G w (H.set a mo') h'/\Ext O1 H h (H.set a mo') h':=by
 have tup:∀ b vs,IsTup h b vs->IsTup h' b vs:=λb vs t=>by
  have V:=R.noTup t;refine i9 t λo B r=>?_;clear t;exact ⟨o,(s.2 b (by clear r s;rintro rfl;rw [e] at V;cases V)).trans B,r⟩
 have r:=r tup;refine ⟨⟨λb o B=>?_,λb J B=>?_⟩,⟨λb o B f _=>?_,λb B=>?_,λb B=>?_,λb B _=>?_⟩⟩
 ·refine eA (R.base b o B) λY O=>?_;have U:b≠a:=by clear r s;rintro rfl;rw [e] at O;cases O
  exact ⟨(s.2 b U).trans Y,by unfold Hp.set;rw[(c57 U)];exact O⟩
 ·unfold Hp.set at B
  split at B
  ·rename_i q;clear s e;subst q;have Z:=B8 B;clear B;subst Z;exact r
  ·rename_i q;exact (R.objs b J B).mono tup λo e=>(s.2 b q).trans e
 ·exact (s.2 b (by clear r s;rintro rfl;rw [e] at f;cases f)).trans B
 ·unfold Hp.set at B
  split at B
  ·rename_i q;clear r s;subst q;exact .inl (by rw[e];rfl)
  ·exact .inl B
 ·unfold Hp.set
  split
  ·rfl
  ·exact B
 ·by_cases q:b=a
  ·clear s e;subst q;refine i9 r.at_ λo e _=>?_;rw[e];rfl
  ·rw[(s.2 b q)];exact B
theorem y5.but {G:Gi} {w:World} {H:Hp} {h h':Heap} {X:Addr->Prop} (R:y5 G w H h) {a:Addr} {o:Obj} (e:h.get? a=some o) (V:B9 o) (f:H a=none) (b:G.base a=none) (x:X a) (s:Heap.SameBut a h h') (i:(h'.get? a).isSome) :
  y5 G w H h'/\Ext X H h H h':=by
 have tup:∀ b B,IsTup h b B->IsTup h' b B:=λb B t=>by
  refine K8 t λY q c n d=>?_;clear t;exact ⟨Y,(s.2 b (by clear i s x f;rintro rfl;rw [e] at q;have Z:=B8 q;clear q c;subst Z;exact V _ _ d)).trans q,c,n,d⟩
 refine ⟨⟨λc o q=>?_,λc U q=>?_⟩,⟨λc o q g y=>?_,λc q=>.inl q,λc q=>q,λc q y=>?_⟩⟩
 ·exact eA (R.base c o q) λJ O=>⟨(s.2 c (by clear i s x f e;rintro rfl;rw [b] at q;cases q)).trans J,O⟩
 ·exact (R.objs c U q).mono tup λo e=>(s.2 c (by clear i s x e;rintro rfl;rw [f] at q;cases q)).trans e
 ·exact (s.2 c (by clear i s f e;rintro rfl;exact y x)).trans q
 ·rw[(s.2 c (by clear i s f e;rintro rfl;exact y x))];exact q
variable {X:Addr->Prop}{H:Hp}{v u:Value}{h:Heap}{a:Addr}
structure AOk (n m:Nat) (A:Around):Prop where
 h:A.handled=none
 d:A.depth+6 * n+10<=990
 u:A.units+2 * m+200 * n+300<=9900
theorem AOk.units {n m:Nat} {A:Around} (x:AOk n m A):A.units+200 < cLine:=by have:=x.u;unfold cLine;exact c1Q this
structure m6 (G:Gi) (w:World) (X:Addr->Prop) (H:Hp) (s:Shared) (H':Hp) (s':Shared):Prop where
 rel:y5 G w H' s'.heap
 ext:Ext X H s.heap H' s'.heap
 gens:s'.gens=s.gens
 os:s'.os=s.os
theorem m6.refl {G:Gi} {w:World} {s:Shared} (R:y5 G w H s.heap):m6 G w X H s H s:=⟨R,.refl ..,rfl,rfl⟩
theorem m6.trans {G:Gi} {w:World} {H q B:Hp} {s J O:Shared} (x:m6 G w X H s q J) (y:m6 G w X q J B O):m6 G w X H s B O :=
 ⟨y.rel,x.ext.trans y.ext,y.gens.trans x.gens,y.os.trans x.os⟩
theorem m6.weaken {G:Gi} {w:World} {X Y:Addr->Prop} {H q:Hp} {s B:Shared} (x:m6 G w X H s q B) (i:∀ a,X a->Y a):m6 G w Y H s q B:=⟨x.rel,x.ext.weaken i,x.gens,x.os⟩
theorem m6.no {G:Gi} {w:World} {Y:Addr->Prop} {H q:Hp} {s B:Shared} (x:m6 G w O1 H s q B):m6 G w Y H s q B:=x.weaken λ_ e=>e.elim
noncomputable def Got {α β:Type} (G:Gi) (w:World) (rep:Heap->α->β->Prop) (H:Hp) (s:Shared) (Q:α->Hp->Prop) (v:β) (s':Shared):Prop :=
 ∃ x H',rep s'.heap x v/\m6 G w O1 H s H' s'/\Q x H'
theorem Got.after {α β:Type} {G:Gi} {w:World} {B:Heap->α->β->Prop} {H J:Hp} {s U:Shared} {Q:α->Hp->Prop} {v:β} {O:Shared} (t:m6 G w O1 H s J U) (g:Got G w B J U Q v O):Got G w B H s Q v O :=
 by refine j8 g λx V r u q=>?_;clear g;exact ⟨x,V,r,t.trans u,q⟩
noncomputable def b9i (_:Heap) (a b:Bool):Prop:=a=b
noncomputable abbrev A7:Value->Shared->Prop:=λ_ _=>False
section
variable {lc:Program}{w:World}{G:Gi}
theorem l7 {α β:Type} {B:Heap->α->β->Prop} {A:Around} {t:Sem β} {s V:Shared} {U:α->Hp->Prop} {P:β->Shared->Prop} (a:wpAny (model lc w) A t (Got G w B H s U) A7 V)
  (b:∀ x v O J,B J.heap x v->m6 G w O1 H s O J->U x O->P v J):wpAny (model lc w) A t P A7 V :=
 c5d a (λv J Y=>by refine j8 Y λx O r Z q=>?_;clear Y;exact b x v O J r Z q) λ_ _ e=>e
theorem v9 {α β:Type} {q:Heap->α->β->Prop} {A:Around} {t:Sem β} {H B:Hp} {s J O:Shared} {Q:α->Hp->Prop} (st:m6 G w O1 H s B J) (a:wpAny (model lc w) A t (Got G w q B J Q) A7 O):wpAny (model lc w) A t (Got G w q H s Q) A7 O :=
 c5d a (λ_ _ g=>g.after st) λ_ _ e=>e
end
variable {o:Obj}{vs:Array Value}{p:f7}{l:List (f7×f7)}
theorem m6.tok {G:Gi} {w:World} {H q:Hp} {s B:Shared} (x:m6 G w X H s q B):m6 G w X H s q {B with toks:=t}:=⟨x.rel,x.ext,x.gens,x.os⟩
theorem m6.toks {G:Gi} {w:World} {s:Shared} (R:y5 G w H s.heap):m6 G w X H s H {s with toks:=t}:=⟨R,.refl ..,rfl,rfl⟩
theorem m6.push {G:Gi} {w:World} {s:Shared} (R:y5 G w H s.heap):m6 G w O1 H s H {s with heap:=s.heap.push o,toks:=t}:=⟨R.push o,.push o,rfl,rfl⟩
theorem m6.alloc {G:Gi} {w:World} {s:Shared} {mo:N2} (R:y5 G w H s.heap) (r:a2B G w (s.heap.push o) s.heap.objs.size mo) :
  m6 G w O1 H s (H.set s.heap.objs.size mo) {s with heap:=s.heap.push o,toks:=t}:=⟨(R.alloc r).1,(R.alloc r).2,rfl,rfl⟩
theorem m6.vrep {G:Gi} {w:World} {H B:Hp} {s q:Shared} (x:m6 G w O1 H s B q) (R:y5 G w H s.heap) {v:f7} (t:j6 G s.heap v u):j6 G q.heap v u:=x.ext.vrep R .no t
theorem m6.vreps {G:Gi} {w:World} {H B:Hp} {s q:Shared} (x:m6 G w O1 H s B q) (R:y5 G w H s.heap) {v:List f7} {u:List Value} (t:m5 G s.heap v u):m5 G q.heap v u:=x.ext.vreps R .no t
structure Gk (G:Gi):Prop where
 K:∀ a o,G.K.lookup a=some o->G.base a=some o
 sysm:(G.base sysModules).isSome=true
 script:∃ o vs n,G.base G.sa=some o/\o.cls=.type "list"/\o.data=.seq vs n/\IntsAre vs.toList G.sl
theorem a8j:a3q=("__debug__":Str):=by decide +kernel
noncomputable def a1h:List (Str×Value):=[(a5s,.builtin "len"),(b8r,.builtin "sum"),(b8o,.builtin "max"),(b8p,.builtin "min"),(a0r,.builtin "sorted"),
 (a2U,.type "list"),(b1E,.type "tuple"),(b5q,.type "dict"),(b8n,.type "int"),(b8q,.type "str"),(V3,.type "range"),(a0O,.type "enumerate"),(a2N,.type "set")]
structure b3l (K:Frag) (C:Addr):Prop where
 cd:∃ cd,clsIn K C=some cd/\cd.hasDict=true
 ga:findIn K (.ref C) "__getattribute__"=some (some (.builtin "object.__getattribute__"))
 gaa:findIn K (.ref C) "__getattr__"=some none
 sa:findIn K (.ref C) "__setattr__"=some (some (.builtin "object.__setattr__"))
 plain:plainOver K C=true
 makes:makesIn K C=true
noncomputable def a78 (sc:Scope) (x:Str):Bool:=sc.names.lookup x==some .local||sc.names.lookup x==some .cell
inductive b3o (K:Frag) (c:Cx) (f:Addr) (fd:Fn):Prop
 | mk:∀ name qual params body scope kV doc pm an cdv ct oc od osl,
  K.lookup f=some ⟨oc,od,.func (fnOf name qual params body scope .none kV doc pm an cdv ct),osl⟩->codeIn K cdv qual=true->trF c.fns c.clss c.attrs params body scope=some fd ->
  scope.kind=.function->scope.isCoroutine=false->scope.isGenerator=false->(params.args.map (·.arg)).Nodup->(params.args.all λa=>a78 scope a.arg)=true->b3o K c f fd
theorem b3o.cx {K:Frag} {c:Cx} {f:Addr} {fd:Fn} {q:List (Str×NameKind)} {B:List Str}:b3o K c f fd->b3o K ⟨q,c.fns,c.clss,c.attrs,B⟩ f fd
 | ⟨_,_,_,_,_,_,_,_,_,_,_,_,_,_,b1,b2,b3,b4,b5,b6,b7,b8⟩=>⟨_,_,_,_,_,_,_,_,_,_,_,_,_,_,b1,b2,b3,b4,b5,b6,b7,b8⟩
structure Gok (G:Gi) (c:Cx):Prop extends Gk G where
 cl:∀ cn C,G.ca cn=some C->b3l G.K C
 at_:∀ cn C x,G.ca cn=some C->c.attrs.contains x=true->findIn G.K (.ref C) x=some none
 me:∀ cn C x fd,G.ca cn=some C->A1 x=true->G.F cn (nm x)=some fd->∃ f,G.fa cn (nm x)=some f/\findIn G.K (.ref C) x=some (some (.ref f))/\typeIn G.K (.ref f)=some (.type "function")
 fn:∀ x,c.fns.contains x=true->c.clss.contains x=false/\∃ f,G.fa 0 (nm x)=some f/\nsIn G.K mainGlobals x=some (some (.ref f))/\keepIn G.K (.ref f)=true
 cls:∀ x,c.clss.contains x=true->c.fns.contains x=false/\∃ C,G.ca (nm x)=some C/\nsIn G.K mainGlobals x=some (some (.ref C))/\keepIn G.K (.ref C)=true
 fun_:∀ cn name fd,G.F cn name=some fd->∃ f,G.fa cn name=some f/\b3o G.K c f fd/\keepIn G.K (.ref f)=true
 keepf:∀ name f,G.fa 0 name=some f->keepIn G.K (.ref f)=true
 nolim:∀ h:Heap,(∀ a o,G.base a=some o->h.get? a=some o)->h.NoLimit
 blt:∀ x v,a1h.lookup x=some v->c.fns.contains x=false->c.clss.contains x=false->nsIn G.K mainGlobals x=some none/\nsIn G.K builtinsNs x=some (some v)
theorem y5.sysm {G:Gi} {w:World} (R:y5 G w H h) (g:Gk G) {o:N2} (e:H a=some o):(a==sysModules)=false:=by
 cases q:a==sysModules with
 | false=>rfl
 | true =>
  have:=c6u q;clear q;subst this;refine eE (c6J g.sysm) λJ B=>?_;rw [(R.base _ _ B).2] at e;cases e
theorem y5.In {G:Gi} {c:Cx} {w:World} (R:y5 G w H h) (g:Gok G c):G.K.In h:=λa o e=>(R.base a o (g.K a o e)).1
structure Q3 (G:Gi) (w:World) (ld:Env) (c:Cx) (r:En) (H:Hp) (h:Heap):Prop where
 kind:ld.scope.kind=.function
 glob:ld.globals=mainGlobals
 blt:ld.builtins=builtinsNs
 kinds:∀ x k,c.names.lookup x=some k->ld.kindOf x=some k
 loc:∃ m o,h.get? ld.locals=some o/\B9 o/\h.Ns ld.locals m/\∀ x v,A1 x=true->c.names.lookup x=some .local->r (nm x)=some v->∃ u,m x=some u/\j6 G h v u
 cel:∀ x,c.names.lookup x=some .cell->∃ a u,ld.cells.lookup x=some a/\h.IsCell a u/\(A1 x=true->∀ v,r (nm x)=some v->∃ y,u=some y/\j6 G h v y)
 own:H ld.locals=none/\G.base ld.locals=none/\∀ x a,ld.cells.lookup x=some a->H a=none/\G.base a=none/\a≠ld.locals/\∃ u,h.IsCell a u
 inj:∀ x y a,ld.cells.lookup x=some a->ld.cells.lookup y=some a->x=y
 dom:∀ y,A1 y=true->c.dom.contains y=false->r (nm y)=none
 vars:∀ y,c.kind y=.var->c.dom.contains y=true
noncomputable def FX (ld:Env):Addr->Prop:=λa=>a=ld.locals\/∃ x,ld.cells.lookup x=some a
theorem Ext.none {H B:Hp} {h h':Heap} (x:Ext X H h B h') (e:H a=none) (s:(h.get? a).isSome) (g:¬ X a):B a=none:=by
 cases q:B a with
 | none=>rfl
 | some J =>
  rcases x.fresh a (by rw[q];rfl) with z | z | z
  ·rw [e] at z;cases z
  ·rw [z] at s;exact nomatch s
  ·exact c59 z g
theorem Heap.IsCell.is {u:Option Value} (x:h.IsCell a u):(h.get? a).isSome=true:=x.elim λ_ z=>by rw[z.1];rfl
theorem Q3.ext {G:Gi} {w:World} {ld:Env} {c:Cx} {r:En} {H f:Hp} {h h':Heap} (F:Q3 G w ld c r H h) (R:y5 G w H h) (x:Ext O1 H h f h'):Q3 G w ld c r f h':=by
 obtain ⟨kind,glob,blt,q,⟨m,o,O,I,g,Z⟩,U,⟨b,K,i⟩,inj,V,B⟩:=F;refine ⟨kind,glob,blt,q,⟨m,o,x.keep _ _ O b (λz=>z),I,?_,λy v a k e=>?_⟩,λy k=>?_,⟨x.none b (by rw[O];rfl) (λz=>z),K,λy a e=>?_⟩,inj,V,B⟩
 ·refine a36 g λQ E D e rest=>?_;clear g;rw [O] at e;have P:=B8 e;clear e;subst P;exact ⟨o,E,D,x.keep _ _ O b λz=>z,rest⟩
 ·exact i9 (Z y v a k e) λu J Y=>⟨u,J,x.vrep R .no Y⟩
 ·refine j8 (U y k) λa u J n t=>i9 n λd Y s=>?_;clear n;refine ⟨a,u,J,⟨d,x.keep _ _ Y (i y a J).1 λz=>z,s⟩,λp v e=>?_⟩;exact i9 (t p v e) λz A C=>⟨z,A,x.vrep R .no C⟩
 ·exact S0 (i y a e) λj L M u d l N=>⟨x.none j (by rw[l];rfl) (λz=>z),L,M,u,d,x.keep _ _ l j λz=>z,N⟩
theorem Q3.step {G:Gi} {w:World} {ld:Env} {c:Cx} {r:En} {H q:Hp} {s B:Shared} (F:Q3 G w ld c r H s.heap) (R:y5 G w H s.heap) (x:m6 G w O1 H s q B):Q3 G w ld c r q B.heap:=F.ext R x.ext
variable {A:Around}{ld:Env}{s:Shared}
structure BOk (n:Nat) (A:Around):Prop where
 h:A.handled=none
 d:A.depth+6 * n+5<=990
 u:A.units+200 * n+200<=9900
theorem AOk.b {n m:Nat} (x:AOk n m A):BOk n A:=⟨x.h,by have:=x.d;exact c5v (c5I (c5o rfl) _) this,by have:=x.u;exact c1R this⟩
theorem BOk.deeper {n:Nat} (x:BOk (n+1) A):AOk n 40 (A.deeper ld):=⟨x.h,by have:=x.d;show A.depth+1+_+_<=_;exact c4L this,by have:=x.u;show A.units+3+_+_+_<=_;exact c4J this⟩
noncomputable def G5 (lc:Program) (w:World) (G:Gi) (n:Nat):Prop:=∀ (A:Around) (s:Shared) (H:Hp) (cn name:Nm) (f:Addr) (vs:List f7) (us:List Value) (Q:f7->Hp->Prop),BOk n A->y5 G w H s.heap->m5 G s.heap vs us ->
 G.fa cn name=some f->(j3 G.F n).call cn name vs H Q->codeAny (model lc w) A (.call (.ref f) ⟨us,[]⟩) (λr s'=>match r with | .ok (.ret v)=>Got G w (j6 G) H s Q v s' | _=>False) s
theorem G5.call {lc:Program} {w:World} {G:Gi} {n:Nat} {cn name:Nm} {f:Addr} {vs:List f7} {us:List Value} {Q:f7->Hp->Prop} (q:G5 lc w G n) (a:BOk n A) (R:y5 G w H s.heap) (r:m5 G s.heap vs us) (e:G.fa cn name=some f)
  (h:(j3 G.F n).call cn name vs H Q):wpAny (model lc w) A (call (.ref f) us) (Got G w (j6 G) H s Q) A7 s:=by
 refine wpAny_call (codeAny_mono (q A s H cn name f vs us Q a R r e h) λr B z=>?_);rcases r with e | (v | _ | _ | _) <;> exact z
structure Pl where
 p:Program
 w:World
 g:Gi
 n:Nat
noncomputable def b1U (x:Pl):Prop:=∀ c,Gok x.g c->G5 x.p x.w x.g x.n->G5 x.p x.w x.g (x.n+1)
open Classical in
noncomputable def a1K:Pl:=if h:∃ x,¬ b1U x then h.choose else ⟨default,⟨λ_ _=>0,⟨λ_=>0,λ_=>0,λt=>t,λ_=>0,λ_ _=>0,λ_=>false,λ_=>0,.refcount,.text,λ_=>0,λ_=>none,λ_=>false,λ_ _ _=>true,λ_ a b=>a>=b,true,λ_=>false,λ_=>none,λ_=>none,λ_ _ _=>0,λ_ _=>none,λ_=>none,λ_=>(0,false,"UTC"),λ_=>none,λd=>d,λ_=>false⟩⟩,⟨λ_=>none,[],λ_ _=>none,λ_=>none,0,[],default,λ_ _=>none⟩,0⟩
theorem b38 (h:b1U a1K) (x:Pl):b1U x:=c5O λq=>by
 have e:∃ x,¬ b1U x:=⟨x,q⟩;unfold a1K at h;rw [dif_pos e] at h;exact e.choose_spec h
theorem a9Y (h:b1U a1K) {lc:Program} {w:World} {G:Gi} {c:Cx} (g:Gok G c):∀ n,G5 lc w G n:=by
 intro n;induction n with
 | zero=>exact λA s H B name f U us Q a R O J h=>h.elim
 | succ n q=>exact b38 h ⟨lc,w,G,n⟩ c g q
@[irreducible] noncomputable def lc:Program:=a1K.p
@[irreducible] noncomputable def w:World:=a1K.w
@[irreducible] noncomputable def G:Gi:=a1K.g
@[irreducible] noncomputable def n:Nat:=a1K.n
abbrev c6U:=y5 G w
abbrev c6V:=Q3 G w
abbrev c6W:=model lc w
abbrev c61:=j3 G.F n
abbrev c64:=m6 G w
abbrev c65:=G5 lc w G n
theorem b6J (h:∀ c,Gok G c->G5 lc w G n->G5 lc w G (n+1)):b1U a1K:=by
 unfold lc w G n at h;exact h
section
variable {xs:List f7}{es:List (f7×f7)}{Q:f7->Hp->Prop}(lc:Program)(w:World)(G:Gi)
noncomputable def SE (n m:Nat) (c:Cx) (e:c6S) (x:Ev):Prop :=
 ∀ (A:Around) (s:Shared) (H:Hp) (r:En) (ld:Env) (Q:f7->Hp->Prop),AOk n m A->y5 G w H s.heap->Q3 G w ld c r H s.heap ->
  x (j3 G.F n) r H Q->wpAny (model lc w) A (eval e ld) (Got G w (j6 G) H s Q) A7 s
noncomputable def SC (n m:Nat) (c:Cx) (e:c6S) (x:Cv):Prop :=
 ∀ (A:Around) (s:Shared) (H:Hp) (r:En) (ld:Env) (Q:Bool->Hp->Prop),AOk n m A->y5 G w H s.heap->Q3 G w ld c r H s.heap ->
  x (j3 G.F n) r H Q->wpAny (model lc w) A (isTrue e ld (eval e ld)) (Got G w b9i H s Q) A7 s
noncomputable def SEs (n m:Nat) (c:Cx) (es:List c6S) (x:Lv):Prop :=
 ∀ (A:Around) (s:Shared) (H:Hp) (r:En) (ld:Env) (pos:Pos) (Q:List f7->Hp->Prop),AOk n m A->y5 G w H s.heap->Q3 G w ld c r H s.heap ->
  x (j3 G.F n) r H Q->wpAny (model lc w) A (spliced (backTo pos (starEach es ld))) (Got G w (λh xs vs=>m5 G h xs vs/\vs.length=es.length) H s Q) A7 s
end
variable {xs:List f7}{es:List (f7×f7)}{Q:f7->Hp->Prop}{m:Nat}{c:Cx}
abbrev c6T:=SE lc w G n
theorem b7v {k pos}:c6T m c (.Constant .none k pos) (j7 .none):=λ_ _ H _ _ _ _ R _ q =>
 wpAny_Constant_none ⟨.none,H,.none,.refl R,q⟩
abbrev c60:=SC lc w G n
theorem b7p {b k pos}:c6T m c (.Constant (.bool b) k pos) (j7 (.bool b)):=λ_ _ H _ _ _ _ R _ q =>
 wpAny_Constant_bool ⟨.bool b,H,.bool,.refl R,q⟩
theorem b9w {i k pos}:c6T m c (.Constant (.int i) k pos) (j7 (.int i)):=λ_ _ H _ _ _ _ R _ q =>
 wpAny_Constant_int ⟨.int i,H,.int,.toks R,q⟩
theorem a1a (l:List Char):Str.ofString (String.ofList l)=⟨(l.map Char.toNat).toArray⟩:=PySem.W.Fast.ofString_ofList l
theorem a9P {n:Nat} (h:n < 128):(Char.ofNat n).toNat=n:=by
 have:n.isValidChar:=Or.inl (by exact c5r h (c5o rfl))
 unfold Char.ofNat;rw[(dif_pos this)];show (Char.ofNatAux n this).val.toNat=n;unfold Char.ofNatAux;simp [UInt32.toNat]
theorem a7H {s:Str} (h:A1 s=true):Str.ofString (nmS s)=s:=by
 unfold nmS;rw[(a1a ..)];rw[c55];unfold A1 at h;obtain ⟨⟨l⟩⟩:=s;simp only [Str.mk.injEq] at h ⊢
 congr 1
 simp only [List.all_eq_true] at h;induction l with
 | nil=>rfl
 | cons a l B =>
  rw[c6a];rw[(B λx q=>h x (c5t _ q))];show (Char.ofNat a).toNat :: l=_;(rewrite [a9P];try rfl);have:=h a c5u;exact c5o this
theorem b4a (l:List Nat):∀ (k:List Nat),(∀ x∈l,x < 128)->(∀ x∈k,x < 128)->∀ a b,a≠0->b≠0->l.length=k.length->l.foldl (λa c=>a * 128+c) a=k.foldl (λa c=>a * 128+c) b->a=b/\l=k:=by
 induction l with
 | nil=>intro k _ _ a b _ _ q e;cases k <;> first | exact ⟨e,rfl⟩ | exact nomatch q
 | cons x l i =>
  intro k J O a b g h q e;cases k with
  | nil=>exact nomatch q
  | cons y k =>
   have Y:=J x c5u;have Z:=O y c5u;refine eA (i k (λz B=>J z (c5t _ B)) (λz B=>O z (c5t _ B)) (a * 128+x) (b * 128+y) (c3c g) (c3c h) (Nat.succ.inj q) e) λU d=>?_;have V:a=b:=by exact c2J Y Z U
   have f:x=y:=by exact c2H U V
   rw[V];rw[f];rw[d];exact ⟨rfl,rfl⟩
theorem a38 (l:List Nat):∀ a,(∀ x∈l,x < 128)->a * 128 ^ l.length<=l.foldl (λa c=>a * 128+c) a/\l.foldl (λa c=>a * 128+c) a < (a+1) * 128 ^ l.length:=by
 induction l with
 | nil=>intro a _;simp
 | cons x l Y =>
  intro a h;have J:=h x c5u;refine eA (Y (a * 128+x) λz V=>h z (c5t _ V)) λO U=>?_;rw[List.foldl_cons];rw[c6d];rw[Nat.pow_succ'];have q:a * (128 * 128 ^ l.length)=(a * 128) * 128 ^ l.length:=by rw[(Nat.mul_assoc ..)];rfl
  have B:(a+1) * (128 * 128 ^ l.length)=((a+1) * 128) * 128 ^ l.length:=by rw[(Nat.mul_assoc ..)];rfl
  exact ⟨q▸c5r (Nat.mul_le_mul_right _ (c5M _ _)) O,B▸c5G U (Nat.mul_le_mul_right _ (c1y J))⟩
theorem b1z {p q f g:Nat} (h:p * 128<=q) (B:f < (1+1) * p) (J:1 * q<=g) (e:f=g):False:=by omega
theorem O6 {x y:Str} (b:A1 x=true) (d:A1 y=true) (e:nm x=nm y):x=y:=by
 obtain ⟨⟨l⟩⟩:=x;obtain ⟨⟨k⟩⟩:=y;have B:∀ z∈l,z < 128:=λz q=>c5o (List.all_eq_true.mp b z q);have J:∀ z∈k,z < 128:=λz q=>c5o (List.all_eq_true.mp d z q);have e:l.foldl (λa c=>a * 128+c) 1=k.foldl (λa c=>a * 128+c) 1:=e;refine eA (a38 l 1 B) λO U=>eA (a38 k 1 J) λV Y=>?_;have Z:l.length=k.length:=by
  rcases Nat.lt_trichotomy l.length k.length with h | h | h
  ·have:128 ^ (l.length+1)<=128 ^ k.length:=Nat.pow_le_pow_right (by exact Nat.zero_lt_succ 127) h
   rw [Nat.pow_succ] at this;exact (b1z this U V e).elim
  ·exact h
  ·have:128 ^ (k.length+1)<=128 ^ l.length:=Nat.pow_le_pow_right (by exact Nat.zero_lt_succ 127) h
   rw [Nat.pow_succ] at this;exact (b1z this Y O e.symm).elim
 rw[((b4a l k B J 1 1 (by exact Nat.one_ne_zero) (by exact Nat.one_ne_zero) Z e).2)];rfl
theorem A5 {s:Nm} (h:a1e x=some s):A1 x=true/\nm x=s:=(t3 h).imp_right c5A
theorem b0O {s:String} (h:a9v x=some s):A1 x=true/\nmS x=s:=(t3 h).imp_right c5A
theorem b5v {t:String} {k pos} (h:a9v x=some t):c6T m c (.Constant (.str x) k pos) (j7 (.str t)):=λ_ s H _ _ Q _ R _ q=>by
 refine eA (b0O h) λa B=>?_;clear h;subst B;exact wpAny_Constant_str ⟨.str (nmS x),H,(⟨s.toks,c5z (Value.str · s.toks) (a7H a).symm⟩:∃ t,Value.str x s.toks=.str (Str.ofString (nmS x)) t),.toks R,q⟩
theorem a3f (h:c.kind x=.var):c.names.lookup x=some .local\/c.names.lookup x=some .cell:=by
 unfold Cx.kind at h
 split at h <;> first | exact .inl (by assumption) | exact .inr (by assumption) | cases h
theorem a6j (h:c.kind x=.glob):c.names.lookup x=some .globalImplicit:=by
 unfold Cx.kind at h
 split at h <;> first | assumption | cases h
theorem a8Y {r:En} {v:f7} (R:c6U H s.heap) (F:c6V ld c r H s.heap) (k:c.kind x=.var) (a:A1 x=true) (e:r (nm x)=some v) (q:Q v H) :
  wpAny c6W A (loadName ld x) (Got G w (j6 G) H s Q) A7 s:=by
 rcases a3f k with k | k
 ·exact G2 F.loc λg o f d Z O=>i9 (O x v a k e) λu B J=>wpAny_loadName_local F.kind (F.kinds _ _ k) Z B ⟨v,H,J,.refl R,q⟩
 ·refine j8 (F.cel x k) λb u B J V=>i9 (V a v e) λy U Y=>?_;clear V;subst U;exact wpAny_loadName_cell F.kind (F.kinds _ _ k) B J ⟨v,H,Y,.refl R,q⟩
theorem b9C {t:Nm} {pos:Pos} (h:a1e x=some t) (k:c.kind x=.var) (d:(x==("__debug__":Str))=false):c6T m c (.Name x pos) (d6 t):=λA s H r O Q _ R F q=>by
 refine eA (A5 h) λa J=>?_;clear h;subst J;revert q;intro B;refine i9 B λv e q=>?_;clear B;exact wpAny_Name (a8Y R F k a e q) d
theorem a2I {Q:Value->Shared->Prop} (q:ld.scope.kind=.function) (B:ld.kindOf x=some .globalImplicit) (h:wpAny c6W A (loadGlobal ld x) Q A7 s):wpAny c6W A (loadName ld x) Q A7 s:=by
 unfold loadName;simp only [Env.blockKind,q,B,ScopeKind.isAnnotationScope,Bool.false_and,Bool.false_eq_true,if_false];exact h
theorem a48 {r:En} {Q:Value->Shared->Prop} (g:Gok G c) (R:c6U H s.heap) (F:c6V ld c r H s.heap) (k:c.kind x=.glob) (e:nsIn G.K mainGlobals x=some (some v)) (q:Q v s) :
  wpAny c6W A (loadName ld x) Q A7 s:=by
 refine a2I F.kind (F.kinds _ _ (a6j k)) ?_;unfold loadGlobal;rw[F.glob];exact c5b ((looks_nsIn (R.In g) e).here (c5c q))
theorem a47 {r:En} {Q:Value->Shared->Prop} (g:Gok G c) (R:c6U H s.heap) (F:c6V ld c r H s.heap) (k:c.kind x=.glob) (e:nsIn G.K mainGlobals x=some none)
  (B:nsIn G.K builtinsNs x=some (some v)) (q:Q v s) :
  wpAny c6W A (loadName ld x) Q A7 s:=by
 refine a2I F.kind (F.kinds _ _ (a6j k)) ?_;unfold loadGlobal;rw[F.glob];rw[F.blt];refine c5b ((looks_nsIn (R.In g) e).here ?_);exact c5b ((looks_nsIn (R.In g) B).here (c5c q))
theorem b9u {t:Nm} {pos:Pos} (g:Gok G c) (h:a1e x=some t) (k:c.kind x=.glob) (f:c.fns.contains x=true) (d:(x==("__debug__":Str))=false):c6T m c (.Name x pos) (j7 (.fn t)):=λA s H r V Q _ R F q=>by
 refine eA (A5 h) λa U=>?_;clear h;subst U;exact a02 (g.fn x f) λ_ B J O _=>wpAny_Name (a48 g R F k O ⟨.fn (nm x),H,(⟨B,rfl,J⟩:∃ b,Value.ref B=.ref b/\G.fa 0 (nm x)=some b),.refl R,q⟩) d
theorem a0u {e:c6S} {p:Pos} {x:Ev} (h:P6 k c (.Starred e p)=some x):False:=by
 cases k <;> exact x9 h
theorem M5 {e:c6S} {es:List c6S} (h:∀ q p,e≠.Starred q p):starEach (e :: es) ld=(false,eval e ld) :: starEach es ld:=by
 cases e <;> first | rfl | exact c59 rfl (h _ _)
theorem a2d (g:∀ e x,P6 k c e=some x->c6T m c e x):∀ (es:List c6S) (l:List Ev),C9 (P6 k c) es=some l->SEs lc w G n m c es (a1B l):=by
 intro es;induction es with
 | nil =>
  intro l h;have V:=B8 h;clear h;subst V;intro A s H r U pos Q _ R _ q;exact wpAny_items_nil ⟨[],H,⟨.nil,rfl⟩,.refl R,q⟩
 | cons e es i =>
  intro l h;refine j8 (y6 h) λx j Z O Y=>?_;subst Y;intro A s H r U pos Q a R F q;refine wpAny_items_cons (l7 (g e x Z A s H r U _ a R F q) λy v b z t J V=>?_) (M5 λD p f=>by clear h;subst f;exact a0u Z)
  exact l7 (i j O A z b r U pos _ a J.rel (F.step R J) V) λC I d E ⟨u,O⟩ B o =>
   ⟨y :: C,d,⟨.cons (B.vrep J.rel t) u,by rw[c6d];rw[c6d];rw[O];rfl⟩,J.trans B,o⟩
theorem b9B {es:List c6S} {x:Lv} {pos:Pos} (h:SEs lc w G n m c es x) (hz:es.length<=100):c6T m c (.Tuple es k pos) (z0 x):=λA s H r U Q a R F q=>by
 refine wpAny_Tuple (l7 (h A s H r U pos _ a R F q) (λb d J Z ⟨Y,O⟩ B V=>⟨?_,?_⟩))
 ·rw[O];rw[sizeLine_eq];exact c5r hz (c5o rfl)
 ·refine ⟨.tup b,J,?_,B.trans (.push (t:=Z.toks) B.rel),V⟩;exact .tup (IsTup.new _ _) (Y.mono λ_ _=>T7)
theorem b2M {H:Hp} {vs:List Value} (r:m5 G h xs vs):a2B G w (h.push {cls:=.type "list",data:=.seq vs.toArray}) h.objs.size (.list xs) :=
 ⟨vs.toArray,0,c5j _ rfl,by simpa using r.mono λ_ _=>T7⟩
theorem b9y {es:List c6S} {x:Lv} {pos:Pos} (h:SEs lc w G n m c es x) (hz:es.length<=100):c6T m c (.List es pos) (G9 x):=λA s H r O Q a R F q=>by
 refine wpAny_List (l7 (h A s H r O pos _ a R F q) (λd b Z Y ⟨V,J⟩ B U=>⟨?_,?_⟩))
 ·rw[J];rw[sizeLine_eq];exact c5r hz (c5o rfl)
 ·exact ⟨.ref _,_,.ref,B.trans (.alloc (t:=Y.toks) B.rel (b2M (H:=H) V)),U _ B.rel.fresh⟩
theorem b9s {a b:c6S} {x y:Ev} {op:Operator} {o:BOp} {pos:Pos} (ha:c6T m c a x) (Z:c6T m c b y)
  (d:∀ A s H v u p q Q,AOk n m A->c6U H s.heap->j6 G s.heap p v->j6 G s.heap q u->a4h o p q H Q->wpAny c6W A (binaryOp op v u) (Got G w (j6 G) H s Q) A7 s) :
  c6T m c (.BinOp a op b pos) (A6 o x y):=λA s H r U Q O R F q=>by
 refine wpAny_BinOp (l7 (ha A s H r U _ O R F q) (λp v V j h J f=>?_));refine l7 (Z A j V r U _ O J.rel (F.step R J) f) (λe u Y k i B g=>?_);exact v9 (J.trans B) (d A k Y v u p e _ O B.rel (B.vrep J.rel h) i g)
theorem b9x {t a b:c6S} {z:Cv} {x y:Ev} {pos:Pos} (e:c60 m c t z) (ha:c6T m c a x) (d:c6T m c b y) :
  c6T m c (.IfExp t a b pos) (a3L z x y):=λA s H r O Q J R F q=>by
 refine wpAny_IfExp (l7 (e A s H r O _ J R F q) (λp v V Z U B Y=>?_));have U:p=v:=U;subst U;cases p with
 | true=>exact v9 B (ha A Z V r O _ J B.rel (F.step R B) (Y.1 rfl))
 | false=>exact v9 B (d A Z V r O _ J B.rel (F.step R B) (Y.2 rfl))
set_option backward.match.sparseCases true in
theorem b9r {a b:c6S} {x y:Ev} {pos:Pos} (ha:c6T m c a x) (d:c6T m c b y):c6T m c (.BoolOp .And [a,b] pos) (b6H x y):=λA s H r Y Q V R F q=>by
 rw[(arm_eval_BoolOp ..)];refine c5b (l7 (ha A s H r Y _ V R F q) (λp v U f O J B=>?_));revert B;intro Z;refine i9 Z λt e B=>?_;clear Z;subst e;replace O:=a6I O;subst O;refine c5b (c5g (c5b (c5e (wpAny_truthy_bool ?_))));cases t with
 | true=>exact v9 J (d A f U r Y _ V J.rel (F.step R J) (B.1 rfl))
 | false=>exact c5c ⟨.bool false,U,.bool,J,B.2 rfl⟩
theorem b9q {e:c6S} {x:Ev} (h:c6T m c e x) (Z:∀ ld B,isTrue e ld B=(do let v<-B;standAt e.pos;holding [v] (truthy v))):c60 m c e (a2C x):=λA s H r ld Q Y R F q=>by
 refine wpAny_isTrue_value (l7 (h A s H r ld _ Y R F q) (λp v V f O d J=>?_)) (Z _ _);revert J;intro U;refine i9 U λb a J=>?_;clear U;subst a;replace O:=a6I O;subst O;exact wpAny_truthy_bool ⟨_,V,rfl,d,J⟩
theorem b9p {e:c6S} {z:Cv} {pos:Pos} (h:c60 m c e z):c60 m c (.UnaryOp .Not e pos) (a5L z):=λA s H r O Q J R F q =>
 wpAny_isTrue_Not (l7 (h A s H r O _ J R F q) λp v B Z V Y U=>⟨!p,B,c5z _ V,Y,U⟩)
theorem b9o {t a b:c6S} {z x y:Cv} {pos:Pos} (d:c60 m c t z) (ha:c60 m c a x) (Z:c60 m c b y) :
  c60 m c (.IfExp t a b pos) (b3G z x y):=λA s H r O Q J R F q=>by
 rw[(arm_isTrue_IfExp ..)];refine c5b (l7 (d A s H r O _ J R F q) (λp v U Y e B V=>?_));cases (e:p=v);cases p with
 | true=>exact v9 B (ha A Y U r O _ J B.rel (F.step R B) (V.1 rfl))
 | false=>exact v9 B (Z A Y U r O _ J B.rel (F.step R B) (V.2 rfl))
variable {pos:Pos}{y:Ev}{E:Value->Shared->Prop}{I:Addr}
noncomputable abbrev b2V (_:Heap) (b:Bool) (v:Value):Prop:=v=.bool b
theorem b9m (d:∀ e x,trC k c e=some x->c60 m c e x):∀ (es:List c6S) (l:List Cv),C9 (trC k c) es=some l->c60 m c (.BoolOp .And es pos) (a1G l):=by
 have U:∀ (es:List c6S) (l:List Cv),C9 (trC k c) es=some l->∀ (A:Around) (s:Shared) (H:Hp) (r:En) (B:Env) (Q:Bool->Hp->Prop),AOk n m A->c6U H s.heap->c6V B c r H s.heap ->
   (a1G l) c61 r H Q->wpAny c6W A (allTrue .And es B) (Got G w b9i H s Q) A7 s:=by
  intro es;induction es with
  | nil =>
   intro l h A s H r B Q _ R _ q;have J:=B8 h;clear h;subst J;exact wpAny_allTrue_And_nil ⟨true,H,rfl,.refl R,q⟩
  | cons e es g =>
   intro l h A s H r B Q a R F q;refine j8 (y6 h) λx i f Z j=>?_;clear h;subst j;refine wpAny_allTrue_And_cons (l7 (d e x f A s H r B _ a R F q) (λp b Y o V O J=>?_));have V:p=b:=V;subst V;cases p with
   | true=>exact v9 O (g i Z A o Y r B _ a O.rel (F.step R O) (J.1 rfl))
   | false=>exact ⟨false,Y,rfl,O,J.2 rfl⟩
 exact λes l h A s H r B Q a R F q=>wpAny_isTrue_BoolOp (U es l h A s H r B Q a R F q)
theorem c00 (d:∀ e x,trC k c e=some x->c60 m c e x):∀ (es:List c6S) (l:List Cv),C9 (trC k c) es=some l->c60 m c (.BoolOp .Or es pos) (b7O l):=by
 have O:∀ (es:List c6S) (l:List Cv),C9 (trC k c) es=some l->∀ (A:Around) (s:Shared) (H:Hp) (r:En) (B:Env) (Q:Bool->Hp->Prop),AOk n m A->c6U H s.heap->c6V B c r H s.heap ->
   (b7O l) c61 r H Q->wpAny c6W A (allTrue .Or es B) (Got G w b9i H s Q) A7 s:=by
  intro es;induction es with
  | nil =>
   intro l h A s H r B Q _ R _ q;have j:=B8 h;clear h;subst j;exact wpAny_allTrue_Or_nil ⟨false,H,rfl,.refl R,q⟩
  | cons e es g =>
   intro l h A s H r B Q a R F q;refine j8 (y6 h) λx i f Z o=>?_;clear h;subst o;refine wpAny_allTrue_Or_cons (l7 (d e x f A s H r B _ a R F q) (λp b V t U J Y=>?_));have U:p=b:=U;subst U;cases p with
   | false=>exact v9 J (g i Z A t V r B _ a J.rel (F.step R J) (Y.2 rfl))
   | true=>exact ⟨true,V,rfl,J,Y.1 rfl⟩
 exact λes l h A s H r B Q a R F q=>wpAny_isTrue_BoolOp (O es l h A s H r B Q a R F q)
noncomputable def a72 (lc:Program) (w:World) (G:Gi) (n m:Nat):Prop:=∀ (op:CmpOp) (o:COp) (A:Around) (s:Shared) (H:Hp) (v u:Value) (p q:f7) (Q:Bool->Hp->Prop),a2f op=some o->AOk n m A->y5 G w H s.heap->j6 G s.heap p v->j6 G s.heap q u ->
 P0 o p q H Q->wpAny (model lc w) A (compareOp op v u) (Got G w b2V H s Q) A7 s
theorem a8d {a b:c6S} {x y:Ev} {op:CmpOp} {o:COp} {r:En} {Q:Bool->Hp->Prop} (f:a72 lc w G n m) (e:a2f op=some o) (ha:c6T m c a x) (d:c6T m c b y) (O:AOk n m A) (R:c6U H s.heap) (F:c6V ld c r H s.heap) (q:o7 o x y c61 r H Q) :
  wpAny c6W A (eval a ld) (λv U=>wpAny c6W A (eval b ld) (λu V=>wpAny c6W A (compareOp op v u) (Got G w b2V H s Q) A7 V) A7 U) A7 s:=by
 refine l7 (ha A s H r ld _ O R F q) (λp v Y U j J h=>?_);refine l7 (d A U Y r ld _ O J.rel (F.step R J) h) (λg u Z V k B i=>?_);exact v9 (J.trans B) (f op o A V Z v u p g _ e O B.rel (B.vrep J.rel j) k i)
theorem b9n {a b:c6S} {x y:Ev} {op:CmpOp} {o:COp} (Z:a72 lc w G n m) (e:a2f op=some o) (ha:c6T m c a x) (V:c6T m c b y) (Y:behindInMarks op b=false) :
  c60 m c (.Compare a [op] [b] pos) (o7 o x y):=λA s H r h Q J R F q=>by
 refine wpAny_isTrue_Compare1 (c5d (a8d Z e ha V J R F q) (λv i O=>c5d O (λu j U=>l7 U (λp t B k f g d=>?_)) λ_ _ e=>e) λ_ _ e=>e) Y;subst f;exact wpAny_truthy_bool ⟨p,B,rfl,g,d⟩
theorem b9t {a b:c6S} {x y:Ev} {op:CmpOp} {o:COp} (Y:a72 lc w G n m) (e:a2f op=some o) (ha:c6T m c a x) (U:c6T m c b y) (V:behindInMarks op b=false) :
  c6T m c (.Compare a [op] [b] pos) (R0 (o7 o x y)):=λA s H r g Q O R F q =>
 c5d (wpAny_Compare1 (a8d Y e ha U O R F q) V) (λ_ _ B=>by refine j8 B λp J d f Z=>?_;clear B;exact ⟨.bool p,J,d,f,Z⟩) λ_ _ e=>e
theorem b5t {a b d:c6S} {x y z:Ev} {g U:CmpOp} {e f:COp} (C:a72 lc w G n m) (W:a2f g=some e) (X:a2f U=some f) (ha:c6T m c a x) (P:c6T m c b y) (S:c6T m c d z) (T:behindInMarks U d=false) :
  c60 m c (.Compare a [g,U] [b,d] pos) (a6S e f x y z):=λA s H r Z Q Y R F q=>by
 have i:∀ (l k:List Value) (s:Shared) (Q:Unit->Shared->Prop),Q () s->wpAny c6W A (release l k) Q A7 s:=λl k s Q h=>λΓ p _=>by rw[(Sem.wp_release ..)];exact h
 rw[(arm_isTrue_Compare ..)];refine c5b (l7 (ha A s H r Z _ Y R F q) (λp v K s1 r1 V q1=>?_));refine c5b (c5e (l7 (P A s1 K r Z _ Y V.rel (F.step R V) q1) (λD u L s2 I B q2=>?_)));refine c5b (c5g (c5b (c5e (l7 (C g e A s2 L v u p D _ W Y B.rel (B.vrep V.rel r1) I q2) (λp3 t o s3 r3 J E=>?_)))))
 subst r3;refine c5b (i _ _ _ _ (c5b (c5e (wpAny_truthy_bool ?_))));cases p3 with
 | false=>exact c5c ⟨false,o,rfl,V.trans (B.trans J),E.2 rfl⟩
 | true =>
  show wpAny _ _ (testChain pos u [U] [markedBehindIn U d (eval d Z)]) _ _ _;rw[(markedBehindIn_of_false T)];refine c5b (c5e (l7 (S A s3 o r Z _ Y J.rel (F.step R (V.trans (B.trans J))) (E.1 rfl)) (λp4 u2 M s4 r4 O q4=>?_)));refine c5b (c5g (c5b (wpAny_operate' (l7 (C U f A s4 M u u2 D p4 _ X Y O.rel (O.vrep J.rel (J.vrep B.rel I)) r4 q4) (λp5 t N s5 r5 j q5=>?_)))))
  subst r5;exact c5e (wpAny_truthy_bool ⟨p5,N,rfl,V.trans (B.trans (J.trans (O.trans j))),q5⟩)
mutual
noncomputable def toD:f7->PyData
 | .none=>.none
 | .bool b=>.bool b
 | .int i=>.int i
 | .str s=>.str (Str.ofString s)
 | .tup l=>.tuple (Z3 l)
 | .ref _=>.none
 | .fn _=>.none
 | .fz _=>.none
noncomputable def Z3:List f7->List PyData
 | []=>[]
 | v :: r=>toD v :: Z3 r
end
theorem t5 (s:String):Str.ofString s=⟨(s.toList.map Char.toNat).toArray⟩:=by
 have:=a1a s.toList;rwa [String.ofList_toList] at this
theorem a9o (c:Char):Str.ofString (String.singleton c)=⟨#[c.toNat]⟩:=by rw[(t5 ..)];simp
theorem b5I (s:String):PyData.strOk (Str.ofString s)=true:=by
 rw[(t5 ..)];unfold PyData.strOk;refine D5 (Array.all_eq_true ..) ?_;intro i q;simp only [List.getElem_toArray,List.getElem_map,decide_eq_true_eq];have:=(s.toList[i]'(by simpa using q)).valid
 unfold Char.toNat;rcases this with h | h
 ·have:(s.toList[i]'(by simpa using q)).val.toNat < 0xd800:=h
  exact c5r h (c5o rfl)
 ·exact h.2
theorem F9 {n:Nat} {v:f7} {r:List f7} (h:V8 n (v :: r)=true):D7 n v=true/\V8 n r=true:=c6F h
theorem a1q {n:Nat} {v:f7} (h:D7 n v=true):(∃ i,v=.int i)\/(∃ s,v=.str s)\/∃ l,v=.tup l:=by
 cases v <;> first | exact .inl ⟨_,rfl⟩ | exact .inr (.inl ⟨_,rfl⟩) | exact .inr (.inr ⟨_,rfl⟩) | exact c59 h c5F
theorem Y2 {P:Nat->f7->Prop} (int:∀ n i,P n (.int i)) (str:∀ n s,P n (.str s)) (tup:∀ n l,(∀ y,D7 n y=true->P n y)->V8 n l=true->P (n+1) (.tup l)):∀ n v,D7 n v=true->P n v:=by
 intro n;induction n with
 | zero=>intro v h;cases v <;> first | exact int _ _ | exact str _ _ | exact c59 h c5F
 | succ n q=>intro v h;cases v <;> first | exact int _ _ | exact str _ _ | exact tup _ _ q h | exact c59 h c5F
theorem a7N {n:Nat} (a:∀ v,D7 n v=true->(toD v).canLay0=true/\(toD v).depth<=n):∀ l,V8 n l=true->PyData.canLayAll0 (Z3 l)=true/\PyData.depthAll (Z3 l)<=n:=by
 intro l;induction l with
 | nil=>exact λ_=>⟨rfl,c5B _⟩
 | cons v r J =>
  intro h;exact eA (F9 h) λq B=>⟨c6R ⟨(a v q).1,(J B).1⟩,Nat.max_le.mpr ⟨(a v q).2,(J B).2⟩⟩
theorem a3u:∀ n v,D7 n v=true->(toD v).canLay0=true/\(toD v).depth<=n :=
 Y2 (λ_ _=>⟨rfl,c5B _⟩) (λ_ s=>⟨b5I s,c5B _⟩) λ_ l q h=>⟨(a7N q l h).1,c6x (a7N q l h).2⟩
theorem J0 (n:Nat):(∀ v,D7 n v=true->(toD v).canLay0=true/\(toD v).depth<=n)/\∀ l,V8 n l=true->PyData.canLayAll0 (Z3 l)=true/\PyData.depthAll (Z3 l)<=n:=⟨a3u n,a7N (a3u n)⟩
theorem a1y {a b:String} (h:Str.ofString a=Str.ofString b):a=b:=by
 rw [t5,t5] at h;simp only [Str.mk.injEq] at h;have h:a.toList.map Char.toNat=b.toList.map Char.toNat:=by injection h
 have inj:∀ l m:List Char,l.map Char.toNat=m.map Char.toNat->l=m:=by
  intro l;induction l with
  | nil=>intro m h;cases m <;> simp_all
  | cons x l q =>
   intro m h;cases m with
   | nil=>simp at h
   | cons y m =>
    simp only [List.map_cons,List.cons.injEq] at h;rw[(q m h.2)];rw[(Char.toNat_inj.mp h.1)];rfl
 exact String.toList_injective (inj _ _ h)
theorem b34 {n k:Nat} (a:∀ v,D7 n v=true->∀ m u,D7 m u=true->(PyData.eqv (toD v) (toD u)=true↔v=u)):∀ l m,V8 n l=true->V8 k m=true->(PyData.eqvAll (Z3 l) (Z3 m)=true↔l=m):=by
 intro l;induction l with
 | nil=>intro m _ _;cases m with
  | nil=>exact ⟨λ_=>rfl,λ_=>rfl⟩
  | cons _ _=>exact ⟨λh=>c59 h c5F,λh=>nomatch h⟩
 | cons v r Y =>
  intro m U V;cases m with
  | nil=>exact ⟨λh=>c59 h c5F,λh=>nomatch h⟩
  | cons u m =>
   refine eA (F9 U) λq B=>eA (F9 V) λJ O=>?_;show (PyData.eqv (toD v) (toD u)&&PyData.eqvAll (Z3 r) (Z3 m))=true↔_;rw[(Bool.and_eq_true ..)];refine D5 (a v q k u J ..) ?_;refine D5 (Y m B O ..) ?_;rw[(List.cons.injEq ..)];rfl
theorem a3X {x:Bool} {p:Prop} (h:x=false) (q:¬ p):x=true↔p:=⟨λe=>c59 (h.symm.trans e) c5F,λe=>c59 e q⟩
theorem b8b:∀ n v,D7 n v=true->∀ m u,D7 m u=true->(PyData.eqv (toD v) (toD u)=true↔v=u):=by
 refine Y2 (λn i m u h=>?_) (λn s m u h=>?_) λn l B h m u q=>?_
 ·rcases a1q h with ⟨j,rfl⟩ | ⟨j,rfl⟩ | ⟨j,rfl⟩
  ·exact beq_iff_eq.trans ⟨c5z _,λe=>f7.int.inj e⟩
  ·exact a3X rfl λe=>nomatch e
  ·exact a3X rfl λe=>nomatch e
 ·rcases a1q h with ⟨j,rfl⟩ | ⟨j,rfl⟩ | ⟨j,rfl⟩
  ·exact a3X rfl λe=>nomatch e
  ·exact beq_iff_eq.trans ⟨λe=>c5z _ (a1y e),λe=>c5z _ (f7.str.inj e)⟩
  ·exact a3X rfl λe=>nomatch e
 ·rcases a1q q with ⟨j,rfl⟩ | ⟨j,rfl⟩ | ⟨j,rfl⟩
  ·exact a3X rfl λe=>nomatch e
  ·exact a3X rfl λe=>nomatch e
  ·cases m with
   | zero=>exact c59 q c5F
   | succ m=>exact (b34 B l j h q).trans ⟨c5z _,λe=>f7.tup.inj e⟩
theorem a26 (n:Nat):(∀ v u,D7 n v=true->D7 n u=true->(PyData.eqv (toD v) (toD u)=true↔v=u))/\∀ l m,V8 n l=true->V8 n m=true->(PyData.eqvAll (Z3 l) (Z3 m)=true↔l=m) :=
 ⟨λv u q B=>b8b n v q n u B,b34 (b8b n)⟩
theorem b1B {n:Nat} (a:∀ x,D7 n x=true->∀ v,j6 G h x v->∃ q,Reads h v (toD x) q):∀ l,V8 n l=true->∀ vs,m5 G h l vs->∃ q,ReadsAll h vs (Z3 l) q:=by
 intro l;induction l with
 | nil=>intro _ vs e;cases a0D e;exact ⟨_,.nil⟩
 | cons x r Y =>
  intro O vs e;refine j8 (B6 e) λu us c B J=>?_;clear e;subst c;exact eA (F9 O) λZ b=>eE (a x Z u B) λq U=>eE (Y b us J) λd V=>⟨_,.cons U V⟩
theorem a4y:∀ n x,D7 n x=true->∀ v,j6 G h x v->∃ q,Reads h v (toD x) q:=by
 refine Y2 (λn i v e=>?_) (λn s v e=>?_) λn l a Y v e=>?_
 ·refine eE (J8 e) λt c=>?_;clear e;subst c;exact ⟨_,.int ..⟩
 ·refine eE (a1D e) λt d=>?_;clear e;subst d;exact ⟨_,.str ..⟩
 ·replace e:=U0 e;revert e;intro J;refine j8 J λb g f B e=>?_;clear J;subst f;refine K8 B λo Z U k V=>?_;clear B;exact eE (b1B a l Y g e) λq O=>⟨_,.tuple Z U V O⟩
theorem P5 (n:Nat):(∀ x v,D7 n x=true->j6 G h x v->∃ q,Reads h v (toD x) q)/\∀ l vs,V8 n l=true->m5 G h l vs->∃ q,ReadsAll h vs (Z3 l) q :=
 ⟨λx v a b=>a4y n x a v b,λl vs a b=>b1B (a4y n) l a vs b⟩
section
open Classical
variable {d:Addr}
structure Eqs (A:Around) (s:Shared) (v u:Value) (b:Bool):Prop where
 eq:EqAt A s v u b
 rc:RcAt A s v u b
 ne:RcNeAt A s v u (!b)
theorem a2m {d e:PyData} {U V:List Addr} (J:Reads s.heap v d U) (O:Reads s.heap u e V) (ha:d.canLay0=true) (B:e.canLay0=true) (Y:d.depth<=21) (q:A.units+64 < cLine):Eqs A s v u (PyData.eqv d e):=by
 have q:A.units+min d.depth e.depth < cLine:=by
  have:=Nat.min_le_left d.depth e.depth;exact c5v (c5I (c5r (Nat.min_le_left _ _) (c5r Y (c5o rfl))) _) q
 exact ⟨eqAt_reads d e A s v u U V J O ha B q,rcAt_reads J O ha B q,rcNeAt_reads J O ha B q⟩
theorem K6.length:∀ {l:List (f7×f7)} {es:List DictEntry},K6 G w h l es->l.length=es.length:=by
 intro O;induction O with
 | nil=>intro _ e;cases b2d e;rfl
 | cons _ _ B =>
  intro _ e;replace e:=a25 e;revert e;intro q;refine B0 q λu us J _ _ _ e=>?_;clear q;subst J;simp [B e]
theorem a61 {a b:Addr} {vs us:Array Value} (B:s.heap.IsList a vs) (O:s.heap.IsList b us) (z:vs.size=0\/us.size=0) (V:A.units < cLine):Eqs A s (.ref a) (.ref b) (decide (vs.size=us.size)):=by
 by_cases e:vs.size=us.size
 ·rw[(c6h e)];have Z:vs.size=0:=by exact c3a z e
  have k:us.size=0:=by exact e▸Z
  have q:(List.range vs.size).all (λ_=>true)=true:=by simp
  have U:RcAt A s (.ref a) (.ref b) true:=q▸RcAt.lists (e:=λ_=>true) B O e V λj B _=>c59 B (c3f Z);have g:RcNeAt A s (.ref a) (.ref b) (!true):=by
   have:=RcNeAt.lists (e:=λ_=>true) (A:=A) B O e V λj B _=>c59 B (c3f Z);rwa [q] at this
  refine ⟨?_,U,g⟩;by_cases e:a=b
  ·clear g U O;subst e;exact .same _
  ·exact .of_refs e U
 ·rw[(c5Y e)];have U:=RcAt.lists_lengths (A:=A) B O (by simpa using e) V
  refine ⟨?_,U,RcNeAt.lists_lengths B O (by simpa using e) V⟩
  by_cases c:a=b
  ·clear U;subst c;refine K8 B λo f _ n d=>?_;clear B;refine K8 O λh Y _ i J=>?_;clear O;obtain rfl:o=h:=c5A (f.symm.trans Y);rw [d] at J;injection J with J _;clear z;subst J;exact c59 rfl e
  ·exact .of_refs c U
theorem b32 (g:Gk G) (R:c6U H s.heap) (f:A.units+64 < cLine) {p q:f7} {b:Bool} (Y:j6 G s.heap p v) (Z:j6 G s.heap q u) (e:eq0 H p q b):Eqs A s v u b:=by
 have i:A.units < cLine:=by exact Nat.lt_of_add_right_lt f
 rcases e with ⟨c,d,rfl⟩ | ⟨x,y,B,J,rfl,rfl,E,F,hc,rfl⟩
 ·refine eE ((P5 20).1 p v c Y) λz U=>eE ((P5 20).1 q u d Z) λC V=>eA ((J0 20).1 p c) λj a=>eA ((J0 20).1 q d) λk D=>?_;have:=a2m (A:=A) U V j k (by exact Nat.le_succ_of_le a) f
  have e:PyData.eqv (toD p) (toD q)=decide (p=q):=by
   refine D5 (Bool.eq_iff_iff ..) ?_;refine D5 ((a26 20).1 p q c d ..) ?_;refine D5 (decide_eq_true_iff ..) ?_;rfl
  rwa [e] at this
 ·replace Y:=P7 Y;replace Z:=P7 Z;subst Y Z;refine u6 (R.objs _ _ E) λw L n U=>u6 (R.objs _ _ F) λus M o V=>?_;rcases hc with ⟨l,m⟩ | hc
  ·refine eE ((P5 20).2 B _ l U) λz I=>eE ((P5 20).2 J _ m V) λC K=>eA ((J0 20).2 B l) λj a=>eA ((J0 20).2 J m) λk D=>?_;have:=a2m (A:=A) (Reads.list n rfl rfl I) (Reads.list o rfl rfl K) (by simpa [PyData.canLay0] using j) (by simpa [PyData.canLay0] using k) (by simp only [PyData.depth];exact c6x a) f
   have e:PyData.eqv (.list (Z3 B)) (.list (Z3 J))=decide (B=J):=by
    refine D5 (Bool.eq_iff_iff ..) ?_;refine D5 (decide_eq_true_iff ..) ?_;rewrite [<- (a26 20).2 B J l m];simp only [PyData.eqv]
   rwa [e] at this
  ·have r:B.length=w.size:=by rw[U.length];rw[c5V];rfl
   have t:J.length=us.size:=by rw[V.length];rw[c5V];rfl
   have O:B.length=0\/J.length=0:=hc.imp (λh=>by rw[h];rfl) λh=>by rw[h];rfl
   have:=a61 (A:=A) ⟨_,n,rfl,_,rfl⟩ ⟨_,o,rfl,_,rfl⟩ (c2L r t O) i;have e:decide (w.size=us.size)=decide (B=J):=by
    refine u7 r ?_;refine u7 t ?_;refine D5 (decide_eq_decide ..) ?_;exact ⟨λh=>by rw[(c5S (c3a O h:B.length=0))];rw[(c5S (c1C O h:J.length=0))];rfl,λh=>by rw[h];rfl⟩
   rwa [e] at this
theorem a50.get {l r:List f7} {b:Bool} (h:a50 H l r b):l.length=r.length/\∃ es:List Bool,es.length=l.length/\b=es.all id/\∀ (j:Nat) (x y:f7) (z:Bool),l[j]?=some x->r[j]?=some y->es[j]?=some z->eq0 H x y z:=by
 induction h with
 | nil=>exact ⟨rfl,[],rfl,rfl,λj x y z h=>nomatch h⟩
 | cons U _ O =>
  refine a02 O λV es Y e Z=>?_;clear O;subst e;refine ⟨c5z (·+1) V,_ :: es,c5z (·+1) Y,rfl,λj f g z q B J=>?_⟩;cases j with
  | zero=>have a:=B8 q;clear q;subst a;have c:=B8 B;clear B;subst c;have d:=B8 J;clear J;subst d;exact U
  | succ j=>exact Z j f g z q B J
theorem b33 (g:Gk G) (R:c6U H s.heap) (c:A.units+65 < cLine) {p q:f7} {b:Bool} (V:j6 G s.heap p v) (Y:j6 G s.heap q u) (e:eq1 H p q b):RcAt A s v u b/\RcNeAt A s v u (!b):=by
 rcases e with K | ⟨l,r,rfl,rfl,e⟩
 ·have:=b32 (A:=A) g R (by exact Nat.lt_of_succ_lt c) V Y K
  exact ⟨this.rc,this.ne⟩
 ·
   replace V:=U0 V;replace Y:=U0 Y;refine j8 V λa U W t1 F=>?_;clear V;subst W;refine j8 Y λa' us X t2 I=>?_;clear Y;subst X;refine a02 e.get λE B f n L=>?_;clear e;subst n;have d:l.length=U.length:=F.length;have Q:r.length=us.length:=I.length;have D:∀ j (J:j < U.toArray.size) (Z:j < us.toArray.size),EqAt A.in1 s U.toArray[j] us.toArray[j] (B[j]?.getD true):=λj J Z=>by
    have J:j < U.length:=by simpa using J
    have Z:j < us.length:=by simpa using Z
    have w:l[j]?=some (l[j]'(by exact Nat.lt_of_lt_of_eq J (id (Eq.symm d)))):=c5s _
    have z:r[j]?=some (r[j]'(by exact c5G J (c5K (d.symm.trans E)))):=c5s _
    have C:B[j]?=some (B[j]'(by exact c5G J (c5K (f.trans d).symm))):=c5s _
    refine i9 (F.get j w) λx i N=>i9 (I.get j z) λy k P=>?_;rw [List.getElem?_eq_getElem J] at i;rw [List.getElem?_eq_getElem Z] at k;have S:=B8 i;clear i;subst S;have T:=B8 k;clear k;subst T;have:=(b32 (A:=A.in1) g R (by show A.units+1+64 < cLine;exact Nat.lt_of_succ_le c) N P (L j _ _ _ w z C)).eq
    rw[C];simpa using this
   have m:((List.range (min U.toArray.size us.toArray.size)).all (λj=>B[j]?.getD true)&&U.toArray.size==us.toArray.size)=B.all id:=by
    have s1:U.toArray.size=B.length:=by simp;exact f▸d▸rfl
    have s2:us.toArray.size=B.length:=by simp;exact (f.trans (E.trans Q)).symm
    rw[s1];rw[s2];rw[(Nat.min_self ..)];rw[(c6m ..)];rw[(Bool.and_true ..)];refine D5 (Bool.eq_iff_iff ..) ?_;refine D5 (List.all_eq_true ..) ?_;refine D5 (List.all_eq_true ..) ?_;constructor
    ·intro h x M;obtain ⟨j,O,rfl⟩:=List.mem_iff_getElem.mp M;have:=h j (c6N O);simpa [List.getElem?_eq_getElem O] using this
    ·intro h j O;have O:=c6O O;have:=h _ (List.getElem_mem O);simpa [List.getElem?_eq_getElem O] using this
   have o:=RcAt.tuples (A:=A) t1 t2 (by exact Nat.lt_of_add_right_lt c) D
   have t:=RcNeAt.tuples (A:=A) t1 t2 (by exact Nat.lt_of_add_right_lt c) D
   rw [m] at o t;exact ⟨o,t⟩
mutual
noncomputable def J3:f7->Nat
 | .tup l=>a2q l+1
 | .none=>1
 | .bool _=>1
 | .int _=>1
 | .str _=>1
 | .ref _=>1
 | .fn _=>1
 | .fz _=>1
noncomputable def a2q:List f7->Nat
 | []=>0
 | v :: r=>J3 v+a2q r
end
theorem a7u (w:World) (l:List f7) (y:f7):S9 w (l++[y])=S9 w l++[o6 w y]:=by
 induction l with
 | nil=>rfl
 | cons z l q=>exact c5z (o6 w z :: ·) q
theorem a7s (l:List f7) (y:f7):a2q (l++[y])=a2q l+J3 y:=by
 induction l with
 | nil=>exact (Nat.zero_add _).symm
 | cons z l q=>exact (c5z (J3 z+·) q).trans (Nat.add_assoc _ _ _).symm
theorem b6V {n m:Nat} (a:∀ y,D7 n y=true->D7 m y=true):∀ l,V8 n l=true->V8 m l=true:=by
 intro l;induction l with
 | nil=>exact λ_=>rfl
 | cons v r q=>exact λh=>c6R ⟨a v (F9 h).1,q (F9 h).2⟩
theorem b1o:∀ n v,D7 n v=true->∀ m,n<=m->D7 m v=true:=by
 refine Y2 (λ_ _ m _=>?_) (λ_ _ m _=>?_) λn l J h m q=>?_
 ·cases m <;> rfl
 ·cases m <;> rfl
 ·cases m with
  | zero=>exact c59 q (Nat.not_succ_le_zero n)
  | succ m=>exact b6V (λy B=>J y B m (Nat.le_of_succ_le_succ q)) l h
variable {e:c6S}
theorem b9Z {n m:Nat} (a:∀ x,D7 n x=true->∀ m y v,D7 m y=true->j6 G h x v->j6 G h y v->x=y):∀ l,V8 n l=true->∀ q vs,V8 m q=true->m5 G h l vs->m5 G h q vs->l=q:=by
 intro l;induction l with
 | nil =>
  intro _ q vs _ e f;cases a0D e;cases q with
  | nil=>rfl
  | cons y m=>replace f:=B6 f;revert f;intro J;refine u6 J λ_ _ f _=>?_;clear J;exact nomatch f
 | cons x r d =>
  intro Z q vs b e f;refine j8 (B6 e) λu us B O U=>?_;clear e;subst B;cases q with
  | nil=>exact nomatch a0D f
  | cons y q =>
   refine j8 (B6 f) λp o c V Y=>?_;cases c;refine eA (F9 Z) λj k=>eA (F9 b) λg i=>?_;rw[(a x j m y _ g O V)];rw[(d k q _ i U Y)];rfl
theorem c3W:∀ n x,D7 n x=true->∀ m y v,D7 m y=true->j6 G h x v->j6 G h y v->x=y:=by
 refine Y2 (λn i m y v B e f=>?_) (λn i m y v B e f=>?_) λn l E C m y v B e f=>?_
 ·refine eE (J8 e) λt Y=>?_;clear e;subst Y;rcases a1q B with ⟨j,rfl⟩ | ⟨j,rfl⟩ | ⟨j,rfl⟩
  ·replace f:=J8 f;revert f;intro d;refine eE d λ_ f=>?_;clear d B;cases f;rfl
  ·replace f:=a1D f;revert f;intro g;refine eE g λ_ f=>?_;clear g;exact nomatch f
  ·replace f:=U0 f;revert f;intro u;refine u6 u λ_ _ f _=>?_;clear u;exact nomatch f
 ·refine eE (a1D e) λt Z=>?_;clear e;subst Z;rcases a1q B with ⟨j,rfl⟩ | ⟨j,rfl⟩ | ⟨j,rfl⟩
  ·replace f:=J8 f;revert f;intro k;refine eE k λ_ f=>?_;clear k;exact nomatch f
  ·replace f:=a1D f;revert f;intro p;refine eE p λ_ f=>?_;clear p;injection f with f _
   exact c5z f7.str (a1y f)
  ·replace f:=U0 f;revert f;intro J;refine u6 J λ_ _ f _=>?_;clear J;exact nomatch f
 ·replace e:=U0 e;revert e;intro O;refine j8 O λa w b t1 e=>?_;clear O;subst b;rcases a1q B with ⟨j,rfl⟩ | ⟨j,rfl⟩ | ⟨j,rfl⟩
  ·replace f:=J8 f;revert f;intro r;refine eE r λ_ f=>?_;clear r;exact nomatch f
  ·replace f:=a1D f;revert f;intro s;refine eE s λ_ f=>?_;clear s;exact nomatch f
  ·replace f:=U0 f;revert f;intro U;refine j8 U λH c A t2 f=>?_;clear U;cases A;refine K8 t1 λo D _ _ z=>?_;clear t1;refine K8 t2 λF V _ _ q=>?_;clear t2;obtain rfl:o=F:=c5A (D.symm.trans V);rw [z] at q;injection q with q _
   have q:w=c:=c5z Array.toList q;subst q;cases m with
   | zero=>exact c59 B c5F
   | succ m=>exact c5z f7.tup (b9Z E l C j w B e f)
theorem a1C (t:IsTup s.heap a vs):s.TypeIs (.ref a) "tuple":=by refine p9 t λo B q _=>?_;clear t;exact ⟨o,B,q⟩
theorem a4S {β:Type} {n:Nat} {l:List f7} {vs:List Value} {body:Value->β->Sem (ForInStep β)} {Z:β} {Q:β->Shared->Prop} (P:β->Prop) (h:V8 n l=true) (r:m5 G s.heap l vs) (p:P Z)
  (step:∀ y u b,D7 n y=true->j6 G s.heap y u->P b->wpAny c6W A (body u b) (λx q=>match x with | .yield B=>q=s/\P B | .done B=>Q B q) E s) (O:∀ b,P b->Q b s) :
  wpAny c6W A (forIn vs.toArray Z body) Q E s:=by
 refine u7 Array.forIn_toList ?_;refine wpAny_forIn_list _ (λrest b q=>q=s/\P b/\∃ left,V8 n left=true/\m5 G s.heap left rest) _ (λu rest b q J=>?_) (λb q J=>?_) _ _ ⟨rfl,p,l,h,r⟩
 ·refine V7 J λY p left a c=>?_;clear J O r;subst Y;cases left with
  | nil=>exact nomatch a0D c
  | cons y left =>
   refine j8 (B6 c) λ_ _ d f g=>?_;cases d;refine c5d (step y u b (F9 a).1 f p) (λx i U=>?_) λ_ _ e=>e;cases x with
   | done B=>exact U
   | yield B=>exact ⟨U.1,U.2,left,(F9 a).2,g⟩
 ·refine eAA J λV p _=>?_;clear J step r;subst V;exact O b p
theorem a1c:∀ n k,D7 n k=true->∀ (A:Around) (E:Value->Shared->Prop) (s:Shared) (v:Value) (Q:Int->Shared->Prop),A.units+n < cLine->j6 G s.heap k v->Q (o6 w k) {s with toks:=s.toks+J3 k} ->
  wpAny c6W A (PySem.pyHash v) Q E s:=by
 refine Y2 (λn i A E s v Q _ r q=>?_) (λn i A E s v Q _ r q=>?_) λn l K h A E s v Q C r q=>?_
 ·refine eE (J8 r) λt Z=>?_;clear r;subst Z;exact wpAny_pyHash_int q
 ·refine eE (a1D r) λt c=>?_;clear r;subst c;exact wpAny_pyHash_str q
 ·replace r:=U0 r;revert r;intro O;refine j8 O λa N d t r=>?_;clear O;subst d;have U:=a1C t;refine K8 t λo I _ z D=>?_;clear t
  first | unfold pyHashByItsType | skip
  first | refine c5b (wpAny_cRoomFor_or (.inr (by exact Nat.lt_of_add_right_lt C)) ?_) | skip
  refine c5b (wpAny_specialOf U PySem.F.slot_tuple_hash.lookup ?_);refine b9 (c57 (by rw[(beq_builtin_none ..)];exact c5F)) ?_
  refine c5b (wpAny_specialOf U PySem.F.slot_tuple_hash.lookup ?_);refine c5b (wpAny_callSpecialIfBoundUnlessNone?_slot U PySem.F.slot_tuple_hash (c5f PySem.F.slot_tuple_hash U PySem.F.entry_tuple_hash ?_ (PySem.F.args_tuple_hash_1 _)));show wpAny _ _ (Builtin.Tuple.tupleItemsOf (.ref a)>>=_) _ _ s;refine c5b (wpAny_tupleItemsOf I D ?_);refine c5b ?_;refine u7 Array.forIn_toList ?_
  refine wpAny_forIn_list _
   (λrest (b:Array Int) p=>∃ done left,l=done++left/\V8 n left=true/\m5 G s.heap left rest/\b.toList=S9 w done/\p={s with toks:=s.toks+a2q done})
   _ ?_ ?_ _ _ ⟨[],l,rfl,h,r,rfl,rfl⟩
  ·intro x rest b p J;refine B0 J λdone left f Y B V g=>?_;clear J;subst f;subst g;cases left with
   | nil=>exact nomatch a0D B
   | cons y left =>
    refine j8 (B6 B) λu us H L M=>?_;cases H;refine c5b (K y (F9 Y).1 _ _ _ _ _ (by show A.units+1+n < cLine;exact c1S C) L (c5c ⟨done++[y],left,(List.append_assoc done [y] left).symm,(F9 Y).2,M,?_,?_⟩))
    ·rw[(a7u ..)];rw[Array.toList_push];rw[V];rfl
    ·rw[(a7s ..)];rw[(Nat.add_assoc ..)];rfl
  ·intro b p J;refine B0 J λdone left j Y B V m=>?_;clear J;subst j;subst m;cases left with
   | cons y left=>refine u6 (B6 B) λ_ _ e _=>?_;exact nomatch e
   | nil =>
    rw [List.append_nil] at q;show wpAny _ _ (retInt (Builtin.Tuple.tupleHashOf b.toList)) _ _ _;rw[V];refine wpAny_ret_mkInt ?_;show wpAny _ _ (if (decide (-(2:Int) ^ 63<=Builtin.Tuple.tupleHashOf (S9 w done))&&decide (Builtin.Tuple.tupleHashOf (S9 w done) < 2 ^ 63))=true then _ else _) Q E _
    have q:Q (if (decide (-(2:Int) ^ 63<=Builtin.Tuple.tupleHashOf (S9 w done))&&decide (Builtin.Tuple.tupleHashOf (S9 w done) < 2 ^ 63))=true then _ else _) {s with toks:=s.toks+a2q done+1}:=q
    by_cases B:(decide (-(2:Int) ^ 63<=Builtin.Tuple.tupleHashOf (S9 w done))&&decide (Builtin.Tuple.tupleHashOf (S9 w done) < 2 ^ 63))=true
    ·rw[(c58 B)];rw [if_pos B] at q;exact c5c q
    ·rw[(c57 B)];rw [if_neg B] at q;exact c5b (wpAny_rule (c5c q))
theorem a7J:∀ n k,D7 n k=true->∀ (j:Nat) (A:Around) (E:Value->Shared->Prop) (s:Shared) (v:Value) (Q:Bool->Shared->Prop),j6 G s.heap k v->Q true s ->
  wpAny c6W A (eqIsQuiet (n+j+1) v) Q E s:=by
 refine Y2 (λn i j A E s v Q r q=>?_) (λn i j A E s v Q r q=>?_) λn l f h j A E s v Q r q=>?_
 ·refine eE (J8 r) λt J=>?_;clear r;subst J;rw[(eqIsQuiet_byValue _ rfl)];exact c5c q
 ·refine eE (a1D r) λt O=>?_;clear r;subst O;rw[(eqIsQuiet_byValue _ rfl)];exact c5c q
 ·replace r:=U0 r;revert r;intro B;refine j8 B λa p U t r=>?_;clear B;subst U;have V:=a1C t;refine K8 t λo d _ z c=>?_;clear t;unfold eqIsQuiet;refine c5b (wpAny_specialOf V PySem.F.slot_tuple_eq.lookup ?_);refine c5b (wpAny_isInstance V isSubtype_tuple_tuple ?_);refine c5b (wpAny_seqItems d c ?_);rw[(show n+1+j=n+j+1 from Nat.add_right_comm n 1 j)]
  refine c5b (a4S (λb=>b.1=none) h r rfl (λy u b e g Y=>?_) λb Y=>?_)
  ·refine c5b (f y e j _ _ _ _ _ g ?_);exact c5c ⟨rfl,rfl⟩
  ·obtain ⟨Z,m⟩:=b;cases (show Z=none from Y);exact c5c q
variable {ep:Nat}
noncomputable def kIs (G:Gi) (h:Heap) (k:f7) (a:Addr):Prop:=D7 7 k=true/\j6 G h k (.ref a)
theorem Z7 {k:f7} (h:D7 7 k=true):a0M k=true:=b1o 7 k h 20 (c5o rfl)
noncomputable def kk:HeapKind lc w f7 where
 is:=kIs G
 hash:=o6 w
 draws:=J3
 room:=λA=>A.units+64 < cLine
 inj:=λhx hy=>c3W 7 _ hx.1 7 _ _ hy.1 hx.2 hy.2
 keeps:=λ{h h' k a d o es ep} x ho hd hs=>⟨x.1,x.2.mono λb vs t=>by
  refine K8 t λo' ho' hc z hd'=>?_;clear t;refine ⟨o',(hs.2 b ?_).trans ho',hc,z,hd'⟩
  clear hs;rintro rfl
  rw [ho] at ho';have q1:=B8 ho';clear ho' hc;subst q1;rw [hd] at hd';cases hd'⟩
 pyHash:=λhu hk h=>a1c 7 _ hk.1 _ _ _ _ _ (b6c hu) hk.2 h
 eqBool:=λ{A E s x y a b Q} hu hx hy h=>by
  refine eE ((P5 20).1 x _ (Z7 hx.1) hx.2) λas r1=>eE ((P5 20).1 y _ (Z7 hy.1) hy.2) λbs r2=>eA ((J0 20).1 x (Z7 hx.1)) λl1 d1=>eA ((J0 20).1 y (Z7 hy.1)) λl2 d2=>?_;have:=a2m (A:=A) r1 r2 l1 l2 (by exact Nat.le_succ_of_le d1) hu
  have e:PyData.eqv (toD x) (toD y)=decide (x=y):=by
   refine D5 (Bool.eq_iff_iff ..) ?_;refine D5 ((a26 20).1 x y (Z7 hx.1) (Z7 hy.1) ..) ?_;refine D5 (decide_eq_true_iff ..) ?_;rfl
  rw [e] at this;exact this.eq lc w E Q h
 quiet:=λhk h=>a7J 7 _ hk.1 0 _ _ _ _ _ hk.2 h
theorem K6.get:∀ {l:List (f7×f7)} {es:List DictEntry} (i:Nat) {p:f7×f7},K6 G w h l es->l[i]?=some p->∃ e,es[i]?=some e/\j6 G h p.1 e.key/\j6 G h p.2 e.val/\e.hash=o6 w p.1:=by
 intro r;induction r with
 | nil=>intro _ i _ _ f;simp at f
 | cons q r O =>
  intro _ i p e f;replace e:=a25 e;revert e;intro B;refine B0 B λu us J a b c e=>?_;clear B;subst J;cases i with
  | zero=>simp at f;subst f;exact ⟨u,rfl,a,b,c⟩
  | succ i=>simp at f ⊢;exact O i e f
theorem K6.get':∀ {l:List (f7×f7)} {es:List DictEntry} (i:Nat) {e:DictEntry},K6 G w h l es->es[i]?=some e->∃ p,l[i]?=some p/\j6 G h p.1 e.key/\j6 G h p.2 e.val/\e.hash=o6 w p.1:=by
 intro r;induction r with
 | nil=>intro _ i _ e f;cases b2d e;simp at f
 | cons q r O =>
  intro _ i p e f;replace e:=a25 e;revert e;intro B;refine B0 B λu us J a b c e=>?_;clear B;subst J;cases i with
  | zero=>simp at f;subst f;exact ⟨q,rfl,a,b,c⟩
  | succ i =>
   simp only [List.getElem?_cons_succ] at f ⊢;exact O i e f
theorem K6.snoc:∀ {l:List (f7×f7)} {es:List DictEntry} {k x:f7} {e:DictEntry},K6 G w h l es->j6 G h k e.key->j6 G h x e.val->e.hash=o6 w k->K6 G w h (l++[(k,x)]) (es++[e]):=by
 intro r;induction r with
 | nil =>
  intro _ _ _ _ e a b c;cases b2d e;exact K6.cons (t:=[]) a b c rfl
 | cons q r Y =>
  intro _ _ _ _ e a b c;replace e:=a25 e;revert e;intro B;refine B0 B λu us J O U V e=>?_;clear B;subst J;exact K6.cons O U V (Y e a b c)
theorem K6.modify:∀ {l:List (f7×f7)} {es:List DictEntry} {k x y:f7} {v:Value} (i:Nat),K6 G w h l es->(l.map (·.1)).Nodup->l[i]?=some (k,y)->j6 G h x v ->
  K6 G w h (l.map λp=>if p.1=k then (p.1,x) else p) (es.modify i λe=>{e with val:=v}):=by
 intro r;induction r with
 | nil=>intro _ _ _ _ _ i _ _ f _;simp at f
 | cons q r c =>
  intro _ k x y v i e J f a;replace e:=a25 e;revert e;intro B;refine B0 B λu us U V Z Y e=>?_;clear B;subst U;simp only [List.map_cons,List.nodup_cons] at J;cases i with
  | zero =>
   simp at f;clear Z;subst f;rw[(show (u :: us).modify 0 (λe:DictEntry=>{e with val:=v})={u with val:=v} :: us by simp)];rw[c6a];rw[(c58 rfl)]
   refine K6.cons V a Y ?_;have:(r.map λp=>if p.1=k then (p.1,x) else p)=r:=by
    conv=>rhs;(rewrite [<- List.map_id r];try rfl)
    apply c5C;intro p b;rewrite [if_neg];rfl;intro e;exact J.1 (c6E ⟨p,b,e⟩)
   rw[this];exact e
  | succ i =>
   simp at f;have O:¬ q.1=k:=λe=>J.1 (e▸c6E ⟨(k,y),c5p f,rfl⟩);rw[(show (u :: us).modify (i+1) (λe:DictEntry=>{e with val:=v})=u :: us.modify i (λe:DictEntry=>{e with val:=v}) by simp)];rw[c6a];rw[(c57 O)]
   exact K6.cons V Z Y (c i e J.2 f a)
theorem K6.erase:∀ {l:List (f7×f7)} {es:List DictEntry} {k y:f7} (i:Nat),K6 G w h l es->(l.map (·.1)).Nodup->l[i]?=some (k,y) ->
  K6 G w h (a4i l k) (es.eraseIdx i):=by
 intro r;induction r with
 | nil=>intro _ _ _ i _ _ f;simp at f
 | cons q r b =>
  intro _ k y i e J f;replace e:=a25 e;revert e;intro B;refine B0 B λu us U V Y Z e=>?_;clear B;subst U;simp only [List.map_cons,List.nodup_cons] at J;cases i with
  | zero =>
   simp at f;clear Z Y V;subst f;have:a4i ((k,y) :: r) k=r:=by
    unfold a4i;rw[(List.filter_cons_of_neg (by simp))];refine D5 (List.filter_eq_self ..) ?_
    intro p a;simp only [ne_eq,decide_not,Bool.not_eq_eq_eq_not,Bool.not_true,decide_eq_false_iff_not];intro e;exact J.1 (c6E ⟨p,a,e⟩)
   rw[this];simpa using e
  | succ i =>
   simp at f;have O:¬ q.1=k:=λe=>J.1 (e▸c6E ⟨(k,y),c5p f,rfl⟩);have:a4i (q :: r) k=q :: a4i r k:=by
    unfold a4i;rw[(List.filter_cons_of_pos (by simpa using O))];rfl
   rw[this];rw[List.eraseIdx_cons_succ];exact K6.cons V Y Z (b i e J.2 f)
theorem V6 (J:(l.map (·.1)).Nodup) {i:Nat} {k x:f7} (B:l[i]?=some (k,x)):B4 l k=some x:=by
 induction l generalizing i with
 | nil=>simp at B
 | cons q rest U =>
  rw [List.map_cons,List.nodup_cons] at J;cases i with
  | zero=>simp at B;clear J;subst B;simp [B4]
  | succ j =>
   simp at B;have O:¬ q.1=k:=λe=>J.1 (e▸c6E ⟨(k,x),c5p B,rfl⟩);have:=U J.2 B;simpa [B4,List.find?_cons,O] using this
theorem U4 {k:f7} (h:∀ (j:Nat) (x:f7),l[j]?≠some (k,x)):B4 l k=none:=by
 unfold B4;have:(l.find? λp=>decide (p.1=k))=none:=by
  refine D5 (List.find?_eq_none ..) ?_;intro p O J;refine eE (c6L O) λj B=>?_;have q:p.1=k:=c5y J;exact h j p.2 (by rw[B];refine u7 q ?_;rfl)
 rw[this];rfl
theorem b16 {k x:f7} (h:B4 l k=some x):∃ i:Nat,l[i]?=some (k,x):=by
 unfold B4 at h;refine i9 (c6G h) λp B J=>?_;have q:=List.find?_some B;refine eE (c6L (c5W B)) λi O=>?_;have q:p.1=k:=c5y q;exact ⟨i,by rw[O];refine u7 q ?_;refine u7 J ?_;rfl⟩
theorem b3T {k:f7} (h:B4 l k=none):k∉l.map (·.1):=by
 intro B;refine i9 (c6D B) λp J q=>?_;clear B;subst q;unfold B4 at h;rw [Option.map_eq_none_iff,List.find?_eq_none] at h;exact h p J (by simp)
theorem a7l {P:f7->Prop} (k:f7) (a:∀ i,G8 k=0->P (.int i)) (b:∀ i,G8 k=1->P (.str i)) (c:∀ i,G8 k=2->P (.tup i)) (d:G8 k=3->P k):P k:=by
 cases k with
 | int i=>exact a i rfl
 | str i=>exact b i rfl
 | tup i=>exact c i rfl
 | _=>exact d rfl
theorem V9 {k:f7} (q:G8 k=0):∃ i,k=.int i:=a7l (P:=λk=>∃ i,k=.int i) k (λ_ _=>⟨_,rfl⟩) (λ_ h=>nomatch q.symm.trans h) (λ_ h=>nomatch q.symm.trans h) λh=>nomatch q.symm.trans h
theorem a3e {k:f7} (q:G8 k=1):∃ i,k=.str i:=a7l (P:=λk=>∃ i,k=.str i) k (λ_ h=>nomatch q.symm.trans h) (λ_ _=>⟨_,rfl⟩) (λ_ h=>nomatch q.symm.trans h) λh=>nomatch q.symm.trans h
theorem b4u {k:f7} (q:G8 k=2):∃ i,k=.tup i:=a7l (P:=λk=>∃ i,k=.tup i) k (λ_ h=>nomatch q.symm.trans h) (λ_ h=>nomatch q.symm.trans h) (λ_ _=>⟨_,rfl⟩) λh=>nomatch q.symm.trans h
theorem a1N {K:Type} [DecidableEq K] {knd:KeyKind lc w K} {ents:Array DictEntry} {k:f7} {Q:Option Nat->Shared->Prop} {g:f7->K} {κ:Nat}
  (t:∀ x y,G8 x=κ->G8 y=κ->g x=g y->x=y) (D:s.heap.get? d=some o) (C:o.data=.dict ents ep) (c:K6 G w s.heap es ents.toList) (i:G8 k=κ)
  (I:j6 G s.heap k v) (J:∀ p∈es,G8 p.1=κ) (q:∀ x u,G8 x=κ->j6 G s.heap x u->knd.is (g x) u=true) (n:∀ x,G8 x=κ->o6 w x=knd.hash (g x))
  (O:(∀ (j:Nat) (x:f7),es[j]?≠some (k,x))->Q none s) (U:∀ (j:Nat) (x:f7),es[j]?=some (k,x)->Q (some j) s):wpAny c6W A (dictFind d v (o6 w k)) Q E s:=by
 rw[(n k i)];refine wpAny_dictFind_of (q k v i I) D C ?_ ?_
 ·intro e f;refine eE (c6L (Array.mem_toList_iff.mpr f)) λj V=>J9 (c.get' j V) λp B b z m=>?_;have Z:=J p (c5p B);exact ⟨g p.1,q p.1 _ Z b,by rw[m];rw[(n _ Z)];rfl⟩
 ·have a:∀ (j:Nat) (e:DictEntry),ents.toList[j]?=some e->(knd.is (g k) e.key=true↔∃ x,es[j]?=some (k,x)):=by
   intro j e V;refine J9 (c.get' j V) λp B b z m=>?_;have Z:=J p (c5p B);have:=q p.1 _ Z b;constructor
   ·intro h;have:=t _ _ Z i (knd.inj _ _ _ this h);exact ⟨p.2,by rw[B];refine u7 this ?_;rfl⟩
   ·rintro ⟨x,Y⟩
    rw [B] at Y;have H:=B8 Y;clear Y Z m z b B;subst H;exact this
  cases r:ents.findIdx? λe=>knd.is (g k) e.key with
  | none =>
   refine O λj x V=>i9 (c.get j V) λe B _=>?_;have:=Array.findIdx?_eq_none_iff.mp r e (Array.mem_toList_iff.mp (c5p B));rw [(a j e B).mpr ⟨x,V⟩] at this;cases this
  | some j =>
   refine i9 (Array.findIdx?_eq_some_iff_getElem.mp r) λl F _=>?_;refine eE ((a j ents[j] (by rw[c56];rw[(c5X l)];rfl)).mp F) λx Y=>?_
   exact U j x Y
theorem a1l {ents:Array DictEntry} {k:f7} {Q:Option Nat->Shared->Prop}
  (hu:A.units+64 < cLine) (hk:J6 es k) (L:a0V es) (nd:(es.map (·.1)).Nodup) (I:s.heap.get? d=some o) (F:o.data=.dict ents ep) (n:K6 G w s.heap es ents.toList) (C:j6 G s.heap k v)
  (J:(∀ (j:Nat) (x:f7),es[j]?≠some (k,x))->Q none s) (O:∀ (j:Nat) (x:f7),es[j]?=some (k,x)->Q (some j) s):wpAny c6W A (dictFind d v (o6 w k)) Q E s:=by
 refine eA hk λkv B=>?_;clear hk;have V:G8 k=0\/G8 k=1\/G8 k=2:=by
  clear B O J C;rcases a1q kv with ⟨_,rfl⟩ | ⟨_,rfl⟩ | ⟨_,rfl⟩
  ·exact .inl rfl
  ·exact .inr (.inl rfl)
  ·exact .inr (.inr rfl)
 rcases V with h | h | h
 ·refine a1N (knd:=PySem.intKind lc w) (κ:=0) (g:=λx=>match x with | .int i=>i | _=>0) ?_ I F n h C (λp U=>(B p U).trans h) ?_ ?_ J O
  ·intro x y hx K e;refine eE (V9 hx) λi q5=>?_;clear hx;subst q5;refine eE (V9 K) λj q6=>?_;clear K;subst q6;exact c5z f7.int e
  ·intro x u hx r;refine eE (V9 hx) λi q7=>?_;clear hx;subst q7;replace r:=J8 r;refine eE r λt q2=>?_;clear r;subst q2;show Value.isInt i (.int i t)=true;simp [Value.isInt]
  ·intro x hx;refine eE (V9 hx) λi q8=>?_;clear hx;subst q8;rfl
 ·refine a1N (knd:=PySem.strKind lc w) (κ:=1) (g:=λx=>match x with | .str i=>Str.ofString i | _=>Str.ofString "") ?_ I F n h C (λp U=>(B p U).trans h) ?_ ?_ J O
  ·intro x y hx K e;refine eE (a3e hx) λi q9=>?_;clear hx;subst q9;refine eE (a3e K) λj M=>?_;clear K;subst M;exact c5z f7.str (a1y e)
  ·intro x u hx r;refine eE (a3e hx) λi N=>?_;clear hx;subst N;replace r:=a1D r;refine eE r λt q3=>?_;clear r;subst q3;show Value.isStrOf (Str.ofString i) (.str (Str.ofString i) t)=true;simp [Value.isStrOf]
  ·intro x hx;refine eE (a3e hx) λi P=>?_;clear hx;subst P;rfl
 ·have tup:∀ x:f7,G8 x=2->∀ u,j6 G s.heap x u->∃ a,u=.ref a:=by
   intro x hx u r;refine eE (b4u hx) λl R=>?_;clear hx;subst R;replace r:=U0 r;refine u6 r λa _ q4 _=>?_;clear r;subst q4;exact ⟨a,rfl⟩
  refine eE (tup k h v C) λa S=>?_;subst S;have z:∀ e∈ents.toList,∃ a,e.key=.ref a:=by
   intro e H;exact eE (c6L H) λj c=>J9 (n.get' j c) λp Z Y m h4=>tup p.1 ((B p (c5p Z)).trans h) _ Y
  have mk:∀ (l:List (f7×f7)) (es:List DictEntry),K6 G w s.heap l es->(∀ p∈l,D7 7 p.1=true/\G8 p.1=2)->∃ xs:List (f7×Addr×Value),es=xs.map (entryOfKey (kk))/\xs.map (·.1)=l.map (·.1)/\(∀ x∈xs,kIs G s.heap x.1 x.2.1):=by
   intro l;induction l with
   | nil=>intro es e _;cases b2d e;exact ⟨[],rfl,rfl,by simp⟩
   | cons p l ih =>
    intro es e U;replace e:=a25 e;revert e;intro f;refine B0 f λu us T W a2 X e=>?_;clear f;subst T;refine p9 (ih us e λq hq=>U q (c5t _ hq)) λxs Z Y m=>eA (U p c5u) λk1 k2=>eE (tup p.1 k2 _ W) λb D=>⟨(p.1,b,u.val) :: xs,?_,by simp [Y],?_⟩
    ·rw[c6a];refine u7 Z ?_
     congr 1
     obtain ⟨uh,uk,uv⟩:=u;simp only at D X;clear a2 W;subst D X;rfl
    ·intro x hx;rcases c6K hx with rfl | hx
     ·exact ⟨k1,D▸W⟩
     ·exact m x hx
  refine p9 (mk es ents.toList n λp U=>⟨L.1 p U,(B p U).trans h⟩) λxs Z Y m=>?_;have conv:∀ j:Nat,(∃ p,xs[j]?=some (k,p))↔∃ x,es[j]?=some (k,x):=by
   intro j;have:(xs.map (·.1))[j]?=(es.map (·.1))[j]?:=by rw[Y];rfl
   simp only [List.getElem?_map] at this;constructor
   ·rintro ⟨p,U⟩
    rw [U] at this;cases q:es[j]? with
    | none=>rw [q] at this;cases this
    | some y=>rw [q] at this;injection this with this;exact ⟨y.2,by rw[(show k=y.1 from this)];rfl⟩
   ·rintro ⟨x,hx⟩
    rw [hx] at this;cases q:xs[j]? with
    | none=>rw [q] at this;cases this
    | some y=>rw [q] at this;injection this with this;exact ⟨y.2,by rw[(show k=y.1 from this.symm)];rfl⟩
  refine wpAny_dictFind_heap (knd:=kk) (xs:=xs) hu ⟨kv,C⟩ I F Z m (Y▸nd) (λhn=>J λj x c=>?_) (λj p c=>?_)
  ·refine eE ((conv j).mpr ⟨x,c⟩) λp U=>?_
   exact hn j p U
  ·refine eE ((conv j).mp ⟨p,c⟩) λx hx=>?_
   exact O j x hx
variable {k:f7}{ents:Array DictEntry}
theorem a89 {x:f7} (O:a0V es) (B:J6 es k):a0V (es++[(k,x)]):=by
 refine ⟨λp J=>?_,λp J q U=>?_⟩
 ·rcases c6H J with h | h
  ·exact O.1 p h
  ·simp only [List.mem_singleton] at h;clear J;subst h;exact B.1
 ·rcases c6H J with h | h <;> rcases c6H U with h' | h'
  ·exact O.2 p h q h'
  ·simp only [List.mem_singleton] at h';clear U;subst h';exact B.2 p h
  ·simp only [List.mem_singleton] at h;clear J;subst h;exact (B.2 q h').symm
  ·simp only [List.mem_singleton] at h h';clear U J;subst h h';rfl
theorem a5i {fs:List (f7×f7)} (U:a0V es) (h:∀ p∈fs,∃ q∈es,q.1=p.1):a0V fs:=by
 refine ⟨λp O=>?_,λp O q Z=>?_⟩
 ·refine i9 (h p O) λq B J=>?_;refine u7 J ?_;exact U.1 q B
 ·refine i9 (h p O) λa B J=>i9 (h q Z) λb V Y=>?_;refine u7 J ?_;refine u7 Y ?_;exact U.2 _ B _ V
theorem b4x {x:f7}:(es.map λp=>if p.1=k then (p.1,x) else p).map (·.1)=es.map (·.1):=by
 rw[c55];apply c5C;intro p _;show (if p.1=k then (p.1,x) else p).1=p.1
 split <;> rfl
theorem b0s {x:f7} (O:a0V es):a0V (es.map λp=>if p.1=k then (p.1,x) else p):=by
 refine a5i O λp J=>i9 (c6D J) λq B U=>?_;clear J;subst U;exact ⟨q,B,by split <;> rfl⟩
theorem a3G (Y:A.units+64 < cLine) (R:c6U H s.heap) (f:H d=some (.dict es ep)) (U:J6 es k) (a:j6 G s.heap k v) {Q:Option Value->Shared->Prop}
  (q:B4 es k=none->Q none {s with toks:=s.toks+J3 k}) (B:∀ x u,B4 es k=some x->j6 G s.heap x u->Q (some u) {s with toks:=s.toks+J3 k}) :
  wpAny c6W A (dictGet d v) Q E s:=by
 refine V7 (R.objs _ _ f) λZ h ents V J=>?_;unfold dictGet
 try with_reducible refine c5e ?_
 refine c5b (a1c 7 k U.1 A E s v _ (b6c Y) a (c5b (a1l (s:={s with toks:=s.toks+J3 k}) Y U h Z V rfl J a (λg=>?_) (λj x O=>?_))))
 ·exact c5c (q (U4 g))
 ·refine c5b (wpAny_dictEntries (s:={s with toks:=s.toks+J3 k}) V rfl (c5c ?_))
  refine J9 (J.get j O) λe b i c l=>?_;refine u7 c56 ?_;rw[b];exact B x e.val (V6 Z O) c
theorem a9U (h:∀ (j:Nat) (x:f7),l[j]?≠some (k,x)):dep l k ep=ep+1:=by unfold dep;rw[(U4 h)];simp
theorem a8m (h:∀ (j:Nat) (x:f7),l[j]?≠some (k,x)):J2 l k=λx=>l++[(k,x)]:=by
 funext x;unfold J2;rw[(U4 h)];simp
theorem a2M {x:f7} (R:c6U H h) (J:H d=some (.dict es ep)) (U:J6 es k) (Z:(es.map (·.1)).Nodup) (c:a0V es) (Y:h.get? d=some {cls:=.type "dict",data:=.dict ents ep}) (O:K6 G w h es ents.toList)
  (f:j6 G h k v) (g:j6 G h x u) (V:B4 es k=none):c6U (H.set d (.dict (es++[(k,x)]) (ep+1))) (h.update d (Obj.mapDictKeys (·.push ⟨o6 w k,v,u⟩)))/\Ext O1 H h (H.set d (.dict (es++[(k,x)]) (ep+1))) (h.update d (Obj.mapDictKeys (·.push ⟨o6 w k,v,u⟩))):=by
 refine R.update J (c5m ..) λtup=>⟨?_,a89 c U,_,c5l _ Y rfl,?_⟩
 ·rw[c54];refine D5 (List.nodup_append ..) ?_;refine ⟨Z,by simp,?_⟩
  intro a B b q;simp only [List.map_cons,List.map_nil,List.mem_singleton] at q;clear tup f U;subst q;exact λe=>b3T V (e▸B)
 ·rw[Array.toList_push];exact (O.mono tup).snoc (f.mono tup) (g.mono tup) rfl
theorem a7K {x y:f7} {j:Nat} (R:c6U H h) (O:H d=some (.dict es ep)) (q:(es.map (·.1)).Nodup) (Y:a0V es) (V:h.get? d=some {cls:=.type "dict",data:=.dict ents ep}) (U:K6 G w h es ents.toList)
  (Z:j6 G h x u) (B:es[j]?=some (k,y)):c6U (H.set d (.dict (J2 es k x) (dep es k ep))) (h.update d (Obj.mapDict (·.modify j λe=>{e with val:=u})))/\Ext O1 H h (H.set d (.dict (J2 es k x) (dep es k ep))) (h.update d (Obj.mapDict (·.modify j λe=>{e with val:=u}))):=by
 have e:J2 es k x=es.map λp=>if p.1=k then (p.1,x) else p:=by unfold J2;rw[(V6 q B)];rfl
 have J:dep es k ep=ep:=by unfold dep;rw[(V6 q B)];rfl
 rw[e];rw[J];refine R.update O (c5m ..) λtup=>⟨?_,b0s Y,_,c5l _ V rfl,?_⟩
 ·rw[b4x];exact q
 ·have:=(U.mono tup).modify j q B (Z.mono tup);clear U V;obtain ⟨l⟩:=ents;simpa using this
theorem a57 (c:A.units+64 < cLine) (R:c6U H s.heap) (O:H d=some (.dict es ep)) (U:J6 es k) (b:j6 G s.heap k v) {x:f7} (e:j6 G s.heap x u) (hz:es.length<=n8) {Q:Unit->Shared->Prop}
  (q:∀ f,c64 O1 H s (H.set d (.dict (J2 es k x) (dep es k ep))) f->Q () f):wpAny c6W A (dictSet d v u) Q E s:=by
 refine V7 (R.objs _ _ O) λZ a ents B J=>?_;have Y:ents.size<=sizeLine:=by refine u7 c5V ?_;refine u7 J.length ?_;rw[sizeLine_eq];unfold n8 at hz;exact c5r hz (c5o rfl)
 unfold dictSet
 try with_reducible refine c5e ?_
 refine c5b (a1c 7 k U.1 A E s v _ (b6c c) b ?_);unfold dictSetHashed
 try with_reducible refine c5e ?_
 refine c5b (a1l (s:={s with toks:=s.toks+J3 k}) c U a Z B rfl J b (λV=>?_) (λj y g=>?_))
 ·refine c5b (wpAny_rule (wpAny_updateDictKeys (hz:=Y) (s:={s with toks:=s.toks+J3 k}) B rfl ?_))
  have:=a2M (x:=x) R O U Z a B J b e (U4 V);rw [a8m V,a9U V] at q;exact q _ ⟨this.1,this.2,rfl,rfl⟩
 ·refine c5b (wpAny_rule (c5b (wpAny_updateDict (s:={s with toks:=s.toks+J3 k}) B rfl (wpAny_point ?_))))
  have:=a7K (x:=x) R O Z a B J e g;exact q _ ⟨this.1,this.2,rfl,rfl⟩
theorem a3H (c:A.units+64 < cLine) (R:c6U H s.heap) (Z:H d=some (.dict es ep)) (O:J6 es k) (Y:j6 G s.heap k v) {x:f7} (n:j6 G s.heap x u) (hz:es.length<=n8) {Q:Value->Shared->Prop}
  (l:∀ y g q,B4 es k=some y->j6 G s.heap y g->c64 O1 H s H q->Q g q)
  (m:∀ q,B4 es k=none->c64 O1 H s (H.set d (.dict (es++[(k,x)]) (ep+1))) q->Q u q):wpAny c6W A (dictSetDefault d v u) Q E s:=by
 refine V7 (R.objs _ _ Z) λV f ents J B=>?_;have U:ents.size<=sizeLine:=by refine u7 c5V ?_;refine u7 B.length ?_;rw[sizeLine_eq];unfold n8 at hz;exact c5r hz (c5o rfl)
 unfold dictSetDefault
 try with_reducible refine c5e ?_
 refine c5b (a1c 7 k O.1 A E s v _ (b6c c) Y ?_);refine c5b (a1l (s:={s with toks:=s.toks+J3 k}) c O f V J rfl B Y (λb=>?_) (λj y a=>?_))
 ·refine c5b (wpAny_rule (c5b (wpAny_updateDictKeys (hz:=U) (s:={s with toks:=s.toks+J3 k}) J rfl (c5c ?_))))
  have:=a2M (x:=x) R Z O V f J B Y n (U4 b);exact m _ (U4 b) ⟨this.1,this.2,rfl,rfl⟩
 ·refine c5b (wpAny_dictEntries (s:={s with toks:=s.toks+J3 k}) J rfl ?_)
  refine J9 (B.get j a) λe h o i p=>?_;refine u7 c56 ?_;rw[h];exact c5b (wpAny_rule (c5c (l y _ _ (V6 V a) i (.toks R))))
theorem a6D (b:A.units+64 < cLine) (R:c6U H s.heap) (Z:H d=some (.dict es ep)) (a:J6 es k) (f:j6 G s.heap k v) (hz:es.length<=n8) {y:f7} (Y:B4 es k=some y) {Q:Option DictEntry->Shared->Prop}
  (q:∀ e g,j6 G s.heap y e.val->c64 O1 H s (H.set d (.dict (a4i es k) (ep+1))) g->Q (some e) g):wpAny c6W A (Builtin.Dict.takeOut d v) Q E s:=by
 refine V7 (R.objs _ _ Z) λO c ents J B=>?_;have V:ents.size<=sizeLine:=by refine u7 c5V ?_;refine u7 B.length ?_;rw[sizeLine_eq];unfold n8 at hz;exact c5r hz (c5o rfl)
 unfold Builtin.Dict.takeOut
 try with_reducible refine c5e ?_
 refine c5b (a1c 7 k a.1 A E s v _ (b6c b) f ?_);refine c5b (a1l (s:={s with toks:=s.toks+J3 k}) b a c O J rfl B f (λm=>?_) (λj u U=>?_))
 ·rw [U4 m] at Y;cases Y
 ·have:=V6 O U;rw [Y] at this;have o:=B8 this;clear this;subst o;refine c5b (wpAny_dictEntries (s:={s with toks:=s.toks+J3 k}) J rfl ?_)
  refine J9 (B.get j U) λe h r i t=>?_;refine u7 c56 ?_;rw[h];refine c5b (wpAny_updateDictKeys (hz:=V) (s:={s with toks:=s.toks+J3 k}) J rfl (c5c ?_))
  have:=R.update (h':=s.heap.update d (Obj.mapDictKeys (·.eraseIdxIfInBounds j))) (mo':=.dict (a4i es k) (ep+1)) Z (c5m ..) λtup=>⟨?_,?_,_,c5l _ J rfl,?_⟩
  ·exact q e _ i ⟨this.1,this.2,rfl,rfl⟩
  ·exact List.Sublist.nodup (List.Sublist.map _ List.filter_sublist) O
  ·exact a5i c λp n=>⟨p,(List.mem_filter.mp n).1,rfl⟩
  ·have:=(B.mono tup).erase j O U;clear h V B J;obtain ⟨l⟩:=ents;simpa using this
theorem Q9 (R:c6U H s.heap) (q:H d=some (.dict es ep)):s.TypeIs (.ref d) "dict":=by refine V7 (R.objs _ _ q) λ_ _ _ B _=>?_;exact ⟨_,B,rfl⟩
theorem a9T (g:Gk G) (U:A.units+65 < cLine) (R:c6U H s.heap) (B:H d=some (.dict es ep)) (J:J6 es k) (Y:j6 G s.heap k v) {Q:Bool->Shared->Prop} (h:Q (B4 es k).isSome {s with toks:=s.toks+J3 k}) :
  wpAny c6W A (contains (.ref d) v) Q E s:=by
 have q:=Q9 R B;unfold contains
 try with_reducible refine c5e ?_
 refine c5b (wpAny_specialOf q slot_dict_contains.lookup ?_);refine b9 (c57 (by rw[(beq_builtin_none ..)];exact c5F)) ?_
 refine c5b (wpAny_callSpecialUnlessNone?_slot (name:=Str.ofString "__contains__") q slot_dict_contains
  (c5f slot_dict_contains q entry_dict_contains ?_ (args_dict_contains _ _)))
 show wpAny _ _ (dictGet d v>>=_) _ _ s;refine c5b (a3G (by show A.units+1+64 < cLine;exact Nat.lt_of_succ_le U) R B J Y (λO=>?_) λx u V Z=>?_)
 ·rw [O] at h;exact c5b (wpAny_pendingKey_other (R.sysm g B) (c5c ⟨_,rfl,wpAny_truthy_bool h⟩))
 ·rw [V] at h;exact c5c ⟨_,rfl,wpAny_truthy_bool h⟩
theorem b2j (Y:A.units+65 < cLine) (R:c6U H s.heap) (O:H d=some (.dict es ep)) (U:J6 es k) (a:j6 G s.heap k v) {x:f7} (J:B4 es k=some x) {Q:Value->Shared->Prop}
  (h:∀ u,j6 G s.heap x u->Q u {s with toks:=s.toks+J3 k}):wpAny c6W A (getItem (.ref d) v) Q E s:=by
 have B:=Q9 R O;unfold getItem
 try with_reducible refine c5e ?_
 refine c5b (wpAny_sequenceKey B (by decide) ?_)
 refine c5b (wpAny_callSpecial?_slot (name:=Str.ofString "__getitem__") B slot_dict_getitem
  (c5f slot_dict_getitem B entry_dict_getitem ?_ (args_dict_getitem _ _)))
 show wpAny _ _ (dictGet d v>>=_) _ _ s;refine c5b (a3G (by show A.units+1+64 < cLine;exact Nat.lt_of_succ_le Y) R O U a (λV=>?_) λc u q b=>?_)
 ·rw [V] at J;cases J
 ·rw [J] at q;have Z:=B8 q;clear q;subst Z;exact c5c ⟨u,rfl,c5c (h u b)⟩
theorem b25 (V:A.units+65 < cLine) (R:c6U H s.heap) (O:H d=some (.dict es ep)) (U:J6 es k) (Y:j6 G s.heap k v) {x:f7} (Z:j6 G s.heap x u) (hz:es.length<=n8) {Q:Unit->Shared->Prop}
  (q:∀ J,c64 O1 H s (H.set d (.dict (J2 es k x) (dep es k ep))) J->Q () J):wpAny c6W A (setItem (.ref d) v u) Q E s:=by
 have B:=Q9 R O;unfold setItem
 try with_reducible refine c5e ?_
 refine c5b (wpAny_sequenceKey B (by decide) ?_)
 refine c5b (wpAny_callSpecial?_slot (name:=Str.ofString "__setitem__") B slot_dict_setitem
  (c5f slot_dict_setitem B entry_dict_setitem ?_ (args_dict_setitem _ _ _)))
 refine c5b (wpAny_notOrdered_dict B ?_);show wpAny _ _ (dictSet d v u>>=_) _ _ s;exact c5b (a57 (by show A.units+1+64 < cLine;exact Nat.lt_of_succ_le V) R O U Y Z hz λJ a=>c5c ⟨.none,rfl,c5c (q J a)⟩)
variable {k:Nat}{l:List f7}
theorem b01:∀ (xs:List f7) (v:f7),a2L xs=true->a0M v=true->(Z3 xs).any (λy=>PyData.eqv y (toD v))=decide (v∈xs):=by
 intro r;induction r with
 | nil=>exact λv _ _=>(c5Y c5P).symm
 | cons x r B =>
  intro v h q;have h:=F9 h;show (PyData.eqv (toD x) (toD v)||(Z3 r).any _)=_
  rw[(B v h.2 q)];refine D5 (Bool.eq_iff_iff ..) ?_;rw[(Bool.or_eq_true ..)];refine D5 ((a26 20).1 x v h.1 q ..) ?_;refine D5 (decide_eq_true_iff ..) ?_;refine D5 (decide_eq_true_iff ..) ?_;refine D5 (List.mem_cons ..) ?_;exact or_congr ⟨Eq.symm,Eq.symm⟩ Iff.rfl
theorem b8j (g:Gk G) (A:Around) (s:Shared) (H:Hp) (v u:Value) (p q:f7) (Q:Bool->Hp->Prop) (I:AOk n m A) (R:c6U H s.heap) (V:j6 G s.heap p v) (B:j6 G s.heap q u) (h:inW p q H Q) :
  wpAny c6W A (compareOp .In v u) (Got G w b2V H s Q) A7 s:=by
 have j:A.units+65 < cLine:=by have:=I.units;exact zo9 this
 rcases h with ⟨b,c,rfl,c1,c2,rfl,h⟩ | ⟨l,rfl,J,O,h⟩ | ⟨a,xs,rfl,e,J,O,h⟩ | ⟨a,es,ep,rfl,e,J,h⟩
 ·replace V:=a1D V;replace B:=a1D B;refine eE V λt Y=>?_;clear V;subst Y;refine eE B λt' X=>?_;clear B;subst X;have N:Str.ofString (String.singleton c)=⟨#[c.toNat]⟩:=by
   rw[(t5 ..)];simp
  have S:(!(Builtin.Str.occurrences (Str.ofString b) (Str.ofString (String.singleton c)) 0 (Str.ofString b).length 1).isEmpty)=b.toList.contains c:=by
   rw[N];rw[(StrLaws.found_one ..)];rw[(t5 ..)];refine D5 (Bool.eq_iff_iff ..) ?_;refine D5 (decide_eq_true_iff ..) ?_;refine D5 (List.contains_iff_mem ..) ?_;simp only [List.mem_map];exact ⟨λF=>by refine i9 F λx k e=>?_;clear F;exact Char.toNat_inj.mp e▸k,λk=>⟨c,k,rfl⟩⟩
  refine PySem.P.in_str ?_;rw[S];exact ⟨_,H,rfl,.refl R,h⟩
 ·replace B:=U0 B;revert B;intro d;refine j8 d λa vs C Z B=>?_;clear d;subst C;refine K8 Z λo i T z W=>?_;clear Z;refine eE ((P5 20).2 l _ O B) λK Y=>eE ((P5 20).1 p _ J V) λL D=>eA ((J0 20).2 l O) λr f=>eA ((J0 20).1 p J) λy M=>?_;have U:A.units+1+min (PyData.depthAll (Z3 l)) (toD p).depth < cLine:=by
   have:=Nat.min_le_left (PyData.depthAll (Z3 l)) (toD p).depth;exact c3k j f
  have E:=Reads.tuple (xs:=Z3 l) i T W Y;exact in_tuple_reads E D r y U (by rw[(b01 l p O J)];exact ⟨_,H,rfl,.refl R,h⟩)
 ·replace B:=P7 B;subst B;refine u6 (R.objs _ _ e) λvs z i B=>eE ((P5 20).2 xs _ O B) λK Y=>eE ((P5 20).1 p _ J V) λL D=>eA ((J0 20).2 xs O) λr f=>eA ((J0 20).1 p J) λy M=>?_;have U:A.units+1+min (PyData.depthAll (Z3 xs)) (toD p).depth < cLine:=by
   have:=Nat.min_le_left (PyData.depthAll (Z3 xs)) (toD p).depth;exact c3k j f
  have E:=Reads.list (xs:=Z3 xs) i rfl rfl Y;exact in_list_reads E D r y U (by rw[(b01 xs p O J)];exact ⟨_,H,rfl,.refl R,h⟩)
 ·replace B:=P7 B;subst B;exact c5b (a9T g j R e J V (c5c ⟨_,H,rfl,.toks R,h⟩))
theorem a4Z {x:f7} (r:j6 G h x v):handedIn v=true/\(v==Value.none)=decide (x=.none):=by
 have no:∀ {u:Value},x≠.none->handedIn u=true->(u==Value.none)=false->handedIn u=true/\(u==Value.none)=decide (x=.none):=λB J O=>⟨J,O.trans (c5Y B).symm⟩;cases x with
 | none=>cases b56 r;exact ⟨rfl,by simp⟩
 | bool b=>cases a6I r;exact no (λe=>nomatch e) rfl (by simp)
 | int i=>refine eE (J8 r) λ_ V=>?_;clear r;subst V;exact no (λe=>nomatch e) rfl (by simp)
 | str s=>refine eE (a1D r) λ_ Y=>?_;clear r;subst Y;exact no (λe=>nomatch e) rfl (by simp)
 | tup l=>refine u6 (U0 r) λ_ _ q _=>?_;clear r;subst q;exact no (λe=>nomatch e) rfl (by simp)
 | ref a=>cases P7 r;exact no (λe=>nomatch e) rfl (by simp)
 | fn f=>refine i9 (vfn r) λ_ Z _=>?_;clear r;subst Z;exact no (λe=>nomatch e) rfl (by simp)
 | fz l=>refine eA (vfz r) λU _=>?_;clear r;subst U;exact no (λe=>nomatch e) rfl (by simp)
theorem b8k (A:Around) (s:Shared) (H:Hp) (v u:Value) (p q:f7) (Q:Bool->Hp->Prop) (R:c6U H s.heap) (B:j6 G s.heap p v) (J:j6 G s.heap q u) (h:isW p q H Q) :
  wpAny c6W A (compareOp .Is v u) (Got G w b2V H s Q) A7 s:=by
 rcases h with ⟨rfl,h⟩ | ⟨a,b,rfl,rfl,h⟩
 ·cases b56 J;exact is_none_gen (by rw[((a4Z B).2)];exact ⟨_,H,rfl,.refl R,h⟩)
 ·cases a6I B;cases a6I J;exact is_bool ⟨_,H,rfl,.refl R,h⟩
theorem a7I {A:Around} {p q:f7} {f:Int->Int->Bool} {Q:Bool->Hp->Prop} {C:Prop} (J:j6 G s.heap p v) (O:j6 G s.heap q u) (h:b49 p q H f Q)
  (k:∀ i t j t',v=.int i t->u=.int j t'->Q (f i j) H->C):C:=by
 revert h;intro B;refine j8 B λi j U V h=>?_;clear B;subst U;subst V;replace J:=J8 J;replace O:=J8 O;refine eE J λt Y=>?_;clear J;subst Y;refine eE O λt' Z=>?_;clear O;subst Z;exact k _ _ _ _ rfl rfl h
theorem b46 {M:Model} {t:Sem Bool} {Q:Bool->Hp->Prop} (h:wpAny M A (t>>=λb=>pure (Value.bool b)) (Got G w b2V H s λb=>Q (!b)) A7 s):wpAny M A (t>>=λb=>pure (Value.bool (!b))) (Got G w b2V H s Q) A7 s:=λΓ p V=>by
 have h:=h Γ p V;rw [Sem.wp_bind'] at h ⊢;exact Sem.wp_mono M Γ t (λb _ Z B=>by refine j8 B λO J r Y q=>?_;clear B;exact ⟨!O,J,by clear q;cases r;rfl,Y,q⟩) (λ_ _ _ U=>U) p s h
theorem b67 (g:Gk G) (R:y5 G w H s.heap) (Y:A.units < cLine) {x y:Nat} {ep V:Nat} (O:H x=some (.dict es ep)) (U:H y=some (.dict [] V)):RcNeAt A s (.ref x) (.ref y) (!es.isEmpty):=λlc d E Q h=>by
 refine V7 (R.objs _ _ O) λ_ _ ents B Z=>V7 (R.objs _ _ U) λ_ _ q J a=>?_;have c:q.size=0:=by refine u7 c5V ?_;rw[(b2d a)];rfl
 have b:ents.size=es.length:=by refine u7 c5V ?_;rw[Z.length];rfl
 have t1:s.TypeIs (.ref x) "dict":=⟨_,B,rfl⟩;have t2:s.TypeIs (.ref y) "dict":=⟨_,J,rfl⟩;refine wpAny_richCompare_same_room (op:=.NotEq) t1 t2 PySem.F.slot_dict_ne (c5f PySem.F.slot_dict_ne t1 PySem.F.entry_dict_ne ?_ (PySem.F.args_dict_ne_2 _ _)) Y;refine c5b (c5b (wpAny_notOrdered_dict t1 ?_));refine c5c (c5b (wpAny_isInstance (T:="dict") t2 PySem.F.sub_dict_dict ?_))
 refine c5b (c5c (c5b (c5c (c5b ?_))));unfold Builtin.Dict.samePairs Builtin.Dict.showsAll;refine b9 (c57 (show ¬ (x==sysModules)=true by rw[(R.sysm g O)];exact c5F)) ?_;refine b9 (c57 (show ¬ (y==sysModules)=true by rw[(R.sysm g U)];exact c5F)) ?_
 refine c5b (c5c (c5b (c5c (c5b (wpAny_dictEntries B rfl (c5b (wpAny_dictEntries J rfl ?_)))))));rw[c];rw[b];cases es with
 | cons e es=>exact c5b (wpAny_rule (c5c (c5c ⟨_,rfl,(λx=>nomatch x),h⟩)))
 | nil =>
  refine c5b (wpAny_dictEpoch B rfl (c5b ?_));rw[(Std.Legacy.Range.forIn_eq_forIn_range' ..)];exact c5c (c5c (c5c ⟨_,rfl,(λx=>nomatch x),h⟩))
noncomputable def c0w:COp->CmpOp
 | .eq=>.Eq | .ne=>.NotEq | .lt=>.Lt | .le=>.LtE | .gt=>.Gt | .ge=>.GtE | .isin=>.In | .notin=>.NotIn | .is=>.Is | .isnot=>.IsNot
theorem b3e {op:CmpOp} {o:COp} (h:a2f op=some o):op=c0w o:=by
 cases op <;> exact c5A h▸rfl
theorem a9S (g:Gk G):a72 lc w G n m:=by
 intro k o A s H v u p q Q d V R B J h;have Y:A.units+65 < cLine:=by have:=V.units;exact zo9 this
 cases b3e d;clear d;cases o
 ·revert h;intro Z;refine i9 Z λb e h=>?_;clear Z;exact (b33 g R Y B J e).1 _ _ _ _ ⟨_,H,rfl,.refl R,h⟩
 ·rcases h with ⟨b,e,h⟩ | ⟨x,y,i,f,j,rfl,rfl,a,c,h⟩
  ·exact (b33 g R Y B J e).2 _ _ _ _ ⟨_,H,rfl,.refl R,h⟩
  ·cases P7 B;cases P7 J;exact b67 g R (by exact Nat.lt_of_add_right_lt Y) a c _ _ _ _ ⟨_,H,rfl,.refl R,h⟩
 ·exact a7I (A:=A) B J h λ_ _ _ _ O U h=>by clear J B;subst O U;exact wpAny_lt_int ⟨_,H,rfl,.refl R,h⟩
 ·exact a7I (A:=A) B J h λ_ _ _ _ O U h=>by clear J B;subst O U;exact le_int ⟨_,H,rfl,.refl R,h⟩
 ·exact a7I (A:=A) B J h λ_ _ _ _ O U h=>by clear J B;subst O U;exact gt_int ⟨_,H,rfl,.refl R,h⟩
 ·exact a7I (A:=A) B J h λ_ _ _ _ O U h=>by clear J B;subst O U;exact ge_int ⟨_,H,rfl,.refl R,h⟩
 ·exact b8j g A s H v u p q Q V R B J h
 ·exact b46 (b8j g A s H v u p q _ V R B J h)
 ·exact b8k A s H v u p q Q R B J h
 ·exact b46 (b8k A s H v u p q _ R B J h)
end
variable {l:List f7}{d:Addr}{e:c6S}{r:En}
theorem b0t (r:m5 G h xs vs.toList):a2B G w (h.push {cls:=.type "list",data:=.seq vs}) h.objs.size (.list xs) :=
 ⟨vs,0,c5j _ rfl,r.mono λ_ _=>T7⟩
theorem a39 (R:c6U H s.heap) (r:m5 G s.heap xs vs.toList) (h:newList xs H Q) :
  Got G w (j6 G) H s Q (.ref s.heap.objs.size) {s with heap:=s.heap.push {cls:=.type "list",data:=.seq vs},toks:=t} :=
 ⟨.ref _,_,.ref,.alloc R (b0t r),h.2 _ R.fresh⟩
theorem a7d (R:c6U H s.heap) (r:m5 G s.heap xs vs.toList) (h:Q (.tup xs) H) :
  Got G w (j6 G) H s Q (.ref s.heap.objs.size) {s with heap:=s.heap.push {cls:=.type "tuple",data:=.seq vs},toks:=t} :=
 ⟨.tup xs,H,j6.tup (by simpa using IsTup.new s.heap vs) (r.mono λ_ _=>T7),.push R,h⟩
theorem b27 {a b:Int} (h:small b):IntMulOk a b:=.of_right (intBits_le_64 (by unfold small at h;exact c38 h) (by unfold small at h;exact c39 h))
noncomputable def c3S:BOp->Operator
 | .add=>.Add | .sub=>.Sub | .mul=>.Mult | .fdiv=>.FloorDiv | .mod=>.Mod
theorem b3d {op:Operator} {o:BOp} (h:b5T op=some o):op=c3S o:=by
 cases op <;> first | exact x9 h | exact c5A h▸rfl
theorem b8V (op:Operator) (o:BOp) (ho:b5T op=some o) (A:Around) (s:Shared) (H:Hp) (v u:Value) (p q:f7) (Q:f7->Hp->Prop) (al:AOk n m A) (R:c6U H s.heap) (B:j6 G s.heap p v) (J:j6 G s.heap q u) (h:a4h o p q H Q) :
  wpAny c6W A (binaryOp op v u) (Got G w (j6 G) H s Q) A7 s:=by
 have O:∀ a:String,(Str.ofString a).length=a.length:=λa=>by
  rw[(t5 ..)];show (a.toList.map Char.toNat).toArray.size=_;rw[c6w];rw[(c5q ..)];exact String.length_toList
 cases b3d ho;clear ho;cases o
 ·rcases h with ⟨i,j,rfl,rfl,h⟩ | ⟨a,b,rfl,rfl,x,h⟩ | ⟨l,r,rfl,rfl,x,h⟩ | ⟨a,b,xs,ys,rfl,rfl,T,h2,h⟩
  ·replace B:=J8 B;replace J:=J8 J;refine eE B λt q1=>?_;clear B;subst q1;refine eE J λI q7=>?_;clear J;subst q7;exact P.add_int ⟨_,H,.int,.toks R,h⟩
  ·replace B:=a1D B;replace J:=a1D J;refine eE B λt q2=>?_;clear B;subst q2;refine eE J λI q8=>?_;clear J;subst q8;refine P.add_str ?_;have e:Str.ofString (a++b)=Str.ofString a++Str.ofString b:=by
    rw[(t5 ..)];rw[(t5 ..)];rw[(t5 ..)];rw[String.toList_append];rw[c54];show _=(⟨_++_⟩:Str);simp
   have nil:∀ a:String,(Str.ofString a).length==0->a="":=λa h=>by
    rw [O] at h;have:a.toList=[]:=c5S (by simpa using c6u h)
    exact String.toList_injective (by simpa using this)
   split
   ·rename_i z;have:=nil a z;clear z e x;subst this;exact ⟨.str b,H,.str,.refl R,by simpa using h⟩
   ·split
    ·rename_i z;have:=nil b z;clear z e x;subst this;exact ⟨.str a,H,.str,.refl R,by simpa using h⟩
    ·refine ⟨?_,.str (a++b),H,e▸.str,.toks R,h⟩;refine u7 e ?_;rw[(O ..)];rw[(String.length_append ..)];rw[sizeLine_eq];unfold n8 at x;exact c5r x (c5o rfl)
  ·replace B:=U0 B;replace J:=U0 J;refine j8 B λa c a5 t1 d=>?_;clear B;subst a5;refine j8 J λb us a6 t2 f=>?_;clear J;subst a6;refine K8 (id t1) λb3 U hc k hd=>?_;obtain ⟨cls,S,data,sl⟩:=b3;refine K8 (id t2) λb4 V W K X=>?_;obtain ⟨b5,Y,N,Z⟩:=b4;cases hc;cases hd;cases W;cases X;have e:c.toArray++us.toArray=(c++us).toArray:=by simp
   have L:=d.length;have M:=f.length;by_cases hv:c=[]
   ·clear e t1;subst hv;have:l=[]:=c5S L;clear L d x;subst this;exact concat_meets ⟨_,U,rfl⟩ ⟨_,V,rfl⟩ noFill_tuple_add seq_tuple_add PySem.F.slot_tuple_add PySem.F.entry_tuple_add (PySem.F.args_tuple_add_2 _ _)
     (tuple_addW0 a b _ us.toArray k K S Y sl Z rfl) ⟨U,V,.tup r,H,.tup t2 f,.refl R,h⟩
   ·by_cases hw:us=[]
    ·clear e t2;subst hw;have:r=[]:=c5S M;clear M f x;subst this;exact concat_meets ⟨_,U,rfl⟩ ⟨_,V,rfl⟩ noFill_tuple_add seq_tuple_add PySem.F.slot_tuple_add PySem.F.entry_tuple_add (PySem.F.args_tuple_add_2 _ _)
      (tuple_addW1 a b c.toArray _ k K S Y sl Z (by simpa using hv) rfl) ⟨U,V,.tup l,H,.tup t1 d,.refl R,c6o l▸h⟩
    ·refine concat_meets ⟨_,U,rfl⟩ ⟨_,V,rfl⟩ noFill_tuple_add seq_tuple_add PySem.F.slot_tuple_add PySem.F.entry_tuple_add (PySem.F.args_tuple_add_2 _ _)
      (tuple_addW2 a b c.toArray us.toArray k K S Y sl Z (by simpa using hv) (by simpa using hw) (by rw[c6w];rw[c6w];rw[sizeLine_eq];unfold n8 at x;exact c2I x L M)) ⟨U,V,?_⟩
     rw[e];exact a7d R (d.append f) h
  ·replace B:=P7 B;replace J:=P7 J;subst B J;refine u6 (R.objs _ _ T) λc k g1 d=>u6 (R.objs _ _ h2) λus K g2 f=>?_;have L:xs.length=c.size:=by rw[d.length];rw[c5V];rfl
   have M:ys.length=us.size:=by rw[f.length];rw[c5V];rfl
   refine P.add_list g1 g2 (a39 R (by rw[Array.toList_append];exact d.append f) h) ?_
   have:=h.1;rw [List.length_append] at this;rw[sizeLine_eq];unfold n8 at this;exact c2K L M this
 ·revert h;intro y;refine j8 y λi j a3 a4 h=>?_;clear y;subst a3;subst a4;replace B:=J8 B;replace J:=J8 J;refine eE B λt q3=>?_;clear B;subst q3;refine eE J λI q9=>?_;clear J;subst q9;exact P.sub_int ⟨_,H,.int,.toks R,h⟩
 ·revert h;intro D;refine B0 D λi j a9 b0 h0 T h=>?_;clear D;subst a9;subst b0;replace B:=J8 B;replace J:=J8 J;refine eE B λt q4=>?_;clear B;subst q4;refine eE J λI a0=>?_;clear J;subst a0;exact P.mul_int ⟨_,H,.int,.toks R,h⟩ (b27 T)
 ·revert h;intro C;refine G2 C λi j a7 a8 g h=>?_;clear C;subst a7;subst a8;replace B:=J8 B;replace J:=J8 J;refine eE B λt q5=>?_;clear B;subst q5;refine eE J λI a1=>?_;clear J;subst a1;refine mod_int' (by exact Ne.symm (Int.ne_of_lt g)) ?_
  rw[(Int.fmod_eq_emod_of_nonneg _ (by exact Int.le_of_lt g))]
  exact ⟨_,H,.int,.toks R,h⟩
 ·revert h;intro E;refine B0 E λi j b1 b2 g b6 h=>?_;clear E;subst b1;subst b2;replace B:=J8 B;replace J:=J8 J;refine eE B λt q6=>?_;clear B;subst q6;refine eE J λI a2=>?_;clear J;subst a2;refine floordiv_int (by exact Ne.symm (Int.ne_of_lt g)) ?_ (Or.inl (PyProof.noPylong_small (by omega)))
  rw[(Int.fdiv_eq_ediv_of_nonneg _ (by exact Int.le_of_lt g))]
  exact ⟨_,H,.int,.toks R,h⟩
variable {value slice:c6S}{ep:Nat}
theorem a2v {o i:Value} {T id:String} {B:List Value} {Q:Value->Shared->Prop} (J:s.TypeIs o T)
  (U:typeLookup (.type T) "__getitem__"=pure (some (.builtin id))) (h:wpAny c6W A (getItem o i) Q E s)
  (V:subscripted slice false o i=operate B (getItem o i)):wpAny c6W A (subscriptTail value slice o i) Q E s:=by
 refine c5b ?_;rw[(getitemInPython_of_ne J.not_modules)];refine c5b (wpAny_specialOf J U ?_);have q:wpAny c6W A (subscripted slice false o i) (λr O=>wpAny c6W A (letTemporaryGo value o r>>=λ_=>pure r) Q E O) E s:=by
  rw[V];exact wpAny_operating (c5d h (λr O Y=>c5b (wpAny_letTemporaryGo (c5c Y))) λ_ _ x=>x)
 first
  | exact c5c (c5b q)
  | exact c5b (c5c (c5b q))
  | exact c5b q
theorem a4A (h:a3d slice=false) (o i:Value):subscripted slice false o i=operate [o,i] (getItem o i):=by
 cases slice <;> first | rfl | exact nomatch h
theorem a6C {l u:Option c6S} {p:Pos} (o i:Value):subscripted (.Slice l u none p) false o i=operate [i,o] (getItem o i):=rfl
theorem a2O {n:Nat} {i:Int} {j:Nat} (h:a1x n i=some j):seqIndex? i n=some j/\-(2 ^ 63)<=i/\i < 2 ^ 63/\n<=n8/\j < n:=by
 unfold a1x at h
 split at h
 ·rename_i J;have B:=J;unfold n8 at B;unfold seqIndex?
  split at h
  ·rename_i q;have O:=B8 h;clear h;subst O;have e:(if i < 0 then i+(n:Int) else i)=i:=c57 (by exact Int.not_lt.mpr q.1)
   simp only [e];refine ⟨?_,by exact c3Z q,by exact c34 B q,J,by exact (Int.toNat_lt q.1).mpr q.2⟩
   (rewrite [if_pos];try rfl);simp;exact And.comm.mp (id (And.symm q))
  ·split at h
   ·rename_i q;have U:=B8 h;clear h;subst U;have e:(if i < 0 then i+(n:Int) else i)=i+n:=c58 q.1
    simp only [e];refine ⟨?_,by exact c35 B q,by exact c32 q,J,by exact c31 q⟩
    (rewrite [if_pos];try rfl);simp;exact c30 q
   ·cases h
 ·cases h
theorem b84 {p q:f7} (U:a3d slice=false) (L:AOk n m A) (R:c6U H s.heap) (B:j6 G s.heap p v) (J:j6 G s.heap q u) (h:a7g p q H Q) :
  wpAny c6W A (subscriptTail value slice v u) (Got G w (j6 G) H s Q) A7 s:=by
 have W:A.units+65 < cLine:=by have:=L.units;exact zo9 this
 rcases h with ⟨x,i,g,rfl,rfl,e,Z,_,h⟩ | ⟨D,k,j,x,T,rfl,O,E,h⟩ | ⟨a,es,ep,x,rfl,e,Y,X,h⟩
 ·replace B:=a1D B;replace J:=J8 J;refine eE B λt q5=>?_;clear B;subst q5;refine eE J λK q7=>?_;clear J;subst q7;have lt:=(c6C e).1;refine b3Y (a2O (i:=i) (c58 Z |>.trans (c58 ⟨c5N i,c6P lt⟩))) λz l d _=>?_
  refine a2v (typeIs_str _ _ _) PySem.F.slot_str_getitem.lookup (PySem.P.getItem_str (c:=g.toNat) (by refine D5 (Bool.or_eq_false_iff ..) ?_;refine D5 (decide_eq_false_iff_not ..) ?_;refine D5 (decide_eq_false_iff_not ..) ?_;exact c4i d) ?_ ?_) (a4A U _ _)
  ·rw[(t5 ..)];show ((seqIndex? i (x.toList.map Char.toNat).toArray.size).bind _)=_;rw[c6w];rw[(c5q ..)];rw[z];show (x.toList.map Char.toNat).toArray[i]?=_;refine b9 List.getElem?_toArray ?_;rw[c5x];rw[e];rfl
  ·refine ⟨.str (String.singleton g),H,?_,.toks R,h⟩;exact a9o g▸.str
 ·refine a59 (a2O O) λM l d N g5=>?_;rcases T with rfl | ⟨a,rfl,e⟩
  ·replace B:=U0 B;replace J:=J8 J;refine j8 B λa C o t1 b=>?_;clear B;subst o;refine eE J λK q8=>?_;clear J;subst q8;refine i9 (b.get j E) λy Y f=>a2v t1.typeIs slot_tuple_getitem.lookup (getItem_tuple t1 l d ?_ (by simpa using Y) ⟨x,H,f,.refl R,h⟩) (a4A U _ _)
   rw[c6w];refine u7 b.length ?_;exact M
  ·replace B:=P7 B;replace J:=J8 J;subst B;refine eE J λK q9=>?_;clear J;subst q9;refine u6 (R.objs _ _ e) λC z S b=>?_;have Z:s.heap.IsList a C:=⟨_,S,rfl,_,rfl⟩;refine i9 (b.get j E) λy Y f=>?_;have I:D.length=C.size:=by rw[b.length];rw[c5V];rfl
   refine a2v Z.typeIs list_getitem_lookup ?_ (a4A U _ _);rw [Array.getElem?_toList] at Y;unfold a1x at O;rw [if_pos N] at O;by_cases V:0<=k/\k < D.length
   ·rw [if_pos V] at O;have q3:=B8 O;clear O g5 M E;subst q3;exact wpAny_getItem_list Z V.1 d Y ⟨x,H,f,.refl R,h⟩
   ·rw [if_neg V] at O;by_cases V:k < 0/\-(D.length:Int)<=k
    ·rw [if_pos V] at O;have q4:=B8 O;clear O g5 M E;subst q4;exact wpAny_getItem_list_neg Z V.1 (c4c I V) l (by refine u7 I ?_;exact Y) ⟨x,H,f,.refl R,h⟩
    ·rw [if_neg V] at O;cases O
 ·replace B:=P7 B;subst B;exact a2v (Q9 R e) slot_dict_getitem.lookup (b2j W R e Y J X λy r=>⟨x,H,r,.toks R,h⟩) (a4A U _ _)
theorem b9v {a b:c6S} {x y:Ev} (U:a3d b=false) (ha:c6T m c a x) (Z:c6T m c b y):c6T m c (.Subscript a b pos) (m9 x y):=λA s H r V Q O R F q=>by
 refine Subscript_ (l7 (ha A s H r V _ O R F q) (λp v Y h f J d=>?_));refine l7 (Z A h Y r V _ O J.rel (F.step R J) d) (λj u i k g B e=>?_);exact v9 (J.trans B) (b84 U O B.rel (B.vrep J.rel f) g e)
theorem a5W {ys:List f7} {z:Nat} {q B:Value} {U J:Option Int} {l u:Option c6S} {p:Pos} (R:c6U H s.heap)
  (b:s.heap.get? a=some o) (Y:o.cls=.type "list") (Z:o.data=.seq vs z) (c:IsPart q U) (d:IsPart B J) (hz:vs.size<=n8) (r:m5 G s.heap ys (slicePick vs U J none).toList) (h:newList ys H Q) :
  wpAny c6W A (subscriptTail value (.Slice l u none p) (.ref a) (.ref s.heap.objs.size)) (Got G w (j6 G) H s Q) A7 {s with heap:=s.heap.push {cls:=.type "slice",data:=.fields #[q,B,.none]}}:=by
 have O:s.heap.IsList a vs:=⟨_,b,Y,_,Z⟩;have V:=R.push {cls:=.type "slice",data:=.fields #[q,B,.none]};refine a2v (Heap.IsList.typeIs (s:={s with heap:=s.heap.push {cls:=.type "slice",data:=.fields #[q,B,.none]}}) (O.push _)) list_getitem_lookup
  (wpAny_getItem_list_slice (O.push _) (Heap.IsSliceOf.new ..) c d .none (by simp) ?_ (by rw[sizeLine_eq];unfold n8 at hz;exact c5r hz (c5o rfl))) (a6C _ _)
 have:=a39 (s:={s with heap:=s.heap.push {cls:=.type "slice",data:=.fields #[q,B,.none]}}) (Q:=Q) (t:=s.toks) V (r.mono λ_ _=>T7) h
 exact this.after (.push (t:=s.toks) R)
theorem a5v {vs:List Value} {k:Int} {t:Tok} {l u:Option c6S} {p:Pos} (R:c6U H s.heap)
  (J:IsTup s.heap a vs.toArray) (hz:xs.length<=n8) (r:m5 G s.heap xs vs) (B:1<=k) (V:k<=xs.length) (h:Q (.tup (xs.drop k.toNat)) H) :
  wpAny c6W A (subscriptTail value (.Slice l u none p) (.ref a) (.ref s.heap.objs.size)) (Got G w (j6 G) H s Q) A7 {s with heap:=s.heap.push {cls:=.type "slice",data:=.fields #[.int k t,.none,.none]}}:=by
 have U:=R.push {cls:=.type "slice",data:=.fields #[.int k t,.none,.none]};have O:=r.length;refine eE (Int.eq_ofNat_of_zero_le (show 0<=k by exact Int.le_of_lt B)) λj q=>?_;subst q
 refine a2v (IsTup.typeIs (s:={s with heap:=s.heap.push {cls:=.type "slice",data:=.fields #[.int (j:Int) t,.none,.none]}}) (J.push _)) slot_tuple_getitem.lookup
  (getItem_tuple_from (J.push _) (Heap.IsSliceOf.new ..) (a:=j) (by exact Int.ofNat_le.mp B) (by simp;exact c5r (Int.ofNat_le.mp V) (c5K O)) ?_ (by simp;rw[sizeLine_eq];unfold n8 at hz;exact c1G hz O)) (a6C _ _)
 have:=a7d (s:={s with heap:=s.heap.push {cls:=.type "slice",data:=.fields #[.int (j:Int) t,.none,.none]}}) (vs:=(vs.drop j).toArray) (Q:=Q) (t:=s.toks) U (by simpa using (r.drop j).mono λ_ _=>T7) h
 exact this.after (.push (t:=s.toks) R)
theorem b21 {a b:c6S} {x y:Ev} {p pos:Pos} (g:Gk G) (ha:c6T m c a x) (D:c6T m c b y):c6T m c (.Subscript a (.Slice (some b) none none p) pos) (a0f x y):=λA s H r i Q f R F q=>by
 refine Subscript_ (l7 (ha A s H r i _ f R F q) (λp v n I B V E=>?_));refine wpAny_Slice ?_;rw[(evalPart_some ..)];rw[(evalPart_none ..)];refine l7 (D A I n r i _ f V.rel (F.step R V) E) (λM u o K U J j=>c5c (c5c ?_));replace B:=J.vrep V.rel B;refine v9 (V.trans J) (?_:wpAny c6W A _ (Got G w (j6 G) o K Q) A7 _);refine a4Q j λl k d e t z C h=>?_;clear j E;subst d;subst e
 replace B:=U0 B;replace U:=J8 U;revert B;intro O;refine j8 O λL P Z t1 B=>?_;clear O;subst Z;refine eE U λN Y=>?_;clear U;subst Y;exact a5v J.rel t1 C B t z h
theorem b7w {a b:c6S} {x y:Ev} {p pos:Pos} (g:Gk G) (ha:c6T m c a x) (S:c6T m c b y):c6T m c (.Subscript a (.Slice none (some b) none p) pos) (b30 x y):=λA s H r t Q i R F q=>by
 refine Subscript_ (l7 (ha A s H r t _ i R F q) (λp v E s1 J U X=>?_));refine wpAny_Slice ?_;rw[(evalPart_some ..)];rw[(evalPart_none ..)];refine c5c (l7 (S A s1 E r t _ i U.rel (F.step R U) X) (λp2 u I D O B C=>c5c ?_));replace J:=B.vrep U.rel J;refine v9 (U.trans B) (?_:wpAny c6W A _ (Got G w (j6 G) I D Q) A7 _);refine a4Q C λl k d e N h2 P h=>?_;clear C;subst d;subst e
 replace J:=vfz J;replace O:=J8 O;refine eA J λY Z=>?_;clear J;subst Y;clear X;subst Z;refine eE O λt' V=>?_;clear O;subst V;refine Y1 g.script λo vs z K L M n=>?_;have T:=(B.rel.base _ _ K).1;have W:G.sl.length=vs.size:=by refine u7 n.length ?_;rw[c5V];rfl
 refine a5W B.rel T L M .none (.int _ t') (by refine u7 W ?_;exact P) ?_ h
 refine eE (Int.eq_ofNat_of_zero_le N) λj f=>?_;clear h h2 N;subst f;rw[(slicePick_upto' ..)];exact m5.of_ints (h:=D.heap) (n.take j)
theorem b9z {a:c6S} {x:Ev} (ha:c6T m c a x):c6T m c (.UnaryOp .USub a pos) (a24 x):=λA s H r Z Q Y R F q=>by
 refine wpAny_UnaryOp (l7 (ha A s H r Z _ Y R F q) (λp v V e J d O=>?_));revert O;intro B;refine i9 B λi U O=>?_;clear B;subst U;replace J:=J8 J;refine eE J λt b=>?_;clear J;subst b;exact PySem.P.neg_int ⟨_,V,.int,d.tok,O⟩
theorem a6p {es:Array DictEntry} (J:StrKeys es) (x:Str):lookIn x {cls:=.type "dict",data:=.dict es k}=some (nsFind es x):=by
 unfold lookIn nsFind findBy;simp only;refine u7 Array.find?_toList ?_;cases es.toList.find? (·.key.isStr x) with
 | some e=>rfl
 | none =>
  simp only;rewrite [if_neg];rfl;refine D5 (List.any_eq_true ..) ?_
  rintro ⟨e,q,h⟩
  refine eEE (J e (Array.mem_toList_iff.mp q)) λn t B=>?_;simp [DictEntry.refKey,B] at h
theorem a7j {a d C:Addr} (q:s.heap.get? a=some (instObj C d)) (B:s.heap.get? d=some o):InstAt s.heap a (instObj C d) C (some o):=⟨q,rfl,rfl,B⟩
theorem a5S {K:Frag} {C:Addr} (h:b3l K C) (ha:findIn K (.ref C) x=some none) (J:lookIn x o=some (some v)):findObj K C (some o) x=some (.value v):=by
 refine i9 h.cd λO q B=>?_;unfold findObj;rw[q];rw[(Option.bind_some ..)];rw[ha];rw[(Option.bind_some ..)];unfold W.ownOf;rw[(c58 B)];simp only [J,Option.bind_some]
theorem b6u (g:Gok G c) (R:c6U H s.heap) (l:A1 x=true) (ha:c.attrs.contains x=true) (B:j6 G s.heap p v) (h:b02 p (nm x) H Q) :
  wpAny c6W A (getAttr v x true) (Got G w (j6 G) H s Q) A7 s:=by
 revert h;intro U;refine a4s U λo d t u O b h=>?_;clear U;refine p9 O λa n Y Z=>?_;clear O;subst n;replace B:=P7 B;subst B;refine i9 (R.objs _ _ Y) λC J j=>G2 (R.objs _ _ Z) λr k e i z f=>i9 ((f x l).1 u b) λy m V=>?_;have q:=g.cl _ _ J;exact get_value (R.In g) (a7j j e) q.ga (a5S q (g.at_ _ _ _ J ha) (v:=y) (by rewrite [a6p i];rw[m];rfl)) (a4Z V).1 ⟨u,H,V,.toks R,h⟩
theorem a4K {a:Str} (B:a6s e=true):attributeBase e a ld (eval e ld)=eval e ld:=by
 cases e with
 | Call f args q pos =>
  cases f with
  | Name x p =>
   cases args with
   | nil =>
    cases q with
    | nil=>exact nomatch B
    | cons _ _=>rfl
   | cons _ _=>rfl
  | _=>rfl
 | _=>rfl
theorem b7o {a:Str} {t:Nm} {x:Ev} (g:Gok G c) (Y:c6T m c e x) (Z:a1e a=some t) (V:c.attrs.contains a=true) (f:a6s e=true):c6T m c (.Attribute e a pos) (n7 x t):=λA s H r d Q O R F q=>by
 refine eA (A5 Z) λb B=>?_;clear Z;subst B;rw[(arm_eval_Attribute ..)];rw[(a4K f)];refine c5b (l7 (Y A s H r d _ O R F q) (λp v i j h J B=>?_));refine c5b (c5g (c5b (c5e (c5d (b6u g J.rel b V h B) (λu k U=>?_) λ_ _ e=>e))));exact c5b (wpAny_letTemporaryGo (c5c (U.after J)))
theorem a9K {a b:Nat} (h:¬ a=b):Nat.beq a b=false:=by
 cases e:Nat.beq a b with
 | false=>rfl
 | true=>exact c59 (Nat.eq_of_beq_eq_true e) h
theorem a05 (x:Nm) (v:f7) (r:List (Nm×f7)):a0i ((x,v) :: r) x=some v:=by
 show (bif Nat.beq x x then some v else a0i r x)=_
 rw[(Nat.beq_refl ..)];rfl
theorem a2o {x y:Nm} (v:f7) (r:List (Nm×f7)) (h:¬ x=y):a0i ((x,v) :: r) y=a0i r y:=by
 show (bif Nat.beq x y then some v else a0i r y)=_
 rw[(a9K h)];rfl
theorem a9d (x:Nm) (v u:f7) (r:List (Nm×f7)):a0L ((x,u) :: r) x v=(x,v) :: r:=by
 show (bif Nat.beq x x then (x,v) :: r else _)=_
 rw[(Nat.beq_refl ..)];rfl
theorem b5h {x y:Nm} (v u:f7) (r:List (Nm×f7)) (h:¬ y=x):a0L ((y,u) :: r) x v=(y,u) :: a0L r x v:=by
 show (bif Nat.beq y x then (x,v) :: r else _)=_
 rw[(a9K h)];rfl
theorem a7G (x:Nm) (v:f7):∀ (fs:List (Nm×f7)) (y:Nm),a0i (a0L fs x v) y=if y=x then some v else a0i fs y:=by
 intro r;induction r with
 | nil =>
  intro y;by_cases h:y=x
  ·subst h;rw[(c58 rfl)];exact a05 ..
  ·rw[(c57 h)];exact a2o v [] λe=>h e.symm
 | cons J r B =>
  intro y;obtain ⟨p,u⟩:=J;by_cases q:p=x
  ·subst q;rw[(a9d ..)];by_cases h:y=p
   ·clear B;subst h;rw[(c58 rfl)];rw[(a05 ..)];rfl
   ·rw[(c57 h)];rw[(a2o _ _ λe=>h e.symm)];rw[(a2o _ _ λe=>h e.symm)];rfl
  ·rw[(b5h v u r q)];by_cases h:p=y
   ·subst h;rw[(a05 ..)];rw[(a05 ..)];rw[(c57 q)];rfl
   ·rw[(a2o _ _ h)];rw[(a2o _ _ h)];rw[(B y)];rfl
theorem a7F (x:Nm) (v:f7):∀ (fs:List (Nm×f7)),(a0L fs x v).length=if (a0i fs x).isSome then fs.length else fs.length+1:=by
 intro r;induction r with
 | nil =>
  exact rfl
 | cons J r B =>
  obtain ⟨p,u⟩:=J;by_cases q:p=x
  ·clear B;subst q;rw[(a9d ..)];rw[(a05 ..)];rfl
  ·rw[(b5h v u r q)];rw[(a2o _ _ q)];rw[c6d];rw[c6d];rw[B]
   split <;> rfl
theorem b0x {es:Array DictEntry} (O:StrKeys es) (x:Str) (U:Int) (t:Tok) (v:Value):∃ es' V,Obj.putName x U (.str x t) v {cls:=.type "dict",data:=.dict es k}={cls:=.type "dict",data:=.dict es' V}/\StrKeys es' /\
  (es'.size=if (nsFind es x).isSome then es.size else es.size+1)/\∀ y,nsFind es' y=if y=x then some v else nsFind es y:=by
 cases q:es.findIdx? (·.key.isStr x) with
 | some i =>
  have J:(nsFind es x).isSome=true:=by
   unfold nsFind;rw[(findBy_of_findIdx? ..)];rw[q];refine i9 (Array.findIdx?_eq_some_iff_getElem.mp q) λB _ _=>?_;simp [Array.getElem?_eq_getElem B]
  refine ⟨_,k,by simp only [Obj.putName_eq,Obj.putNameByArray,q];rfl,O.modify _ _,by rw[(c58 J)];rw[Array.size_modify];rfl,λy=>?_⟩
  exact findBy_modify (λn v=>v.isStr n) Value.isStr_inj es x y v i q
 | none =>
  have J:(nsFind es x).isSome=false:=by
   unfold nsFind;rw[(findBy_of_findIdx? ..)];rw[q];rfl
  refine ⟨_,k+1,by simp only [Obj.putName_eq,Obj.putNameByArray,q];rfl,O.push _ _ _ _,by rw[J];simp,λy=>?_⟩
  exact findBy_push (λn v=>v.isStr n) es x y _ _ v (λy=>by
   show (x==y)=decide (y=x);by_cases h:y=x
   ·clear J q;subst h;simp
   ·have:¬ x=y:=λe=>h e.symm;simp [h,this]) q
theorem b0D (g:Gok G c) (R:c6U H s.heap) {p q:f7} {Q:Hp->Prop} (F:A1 x=true) (ha:c.attrs.contains x=true) (M:j6 G s.heap p v) (rq:j6 G s.heap q u) (h:a5u p (nm x) q H Q) :
  wpAny c6W A (setAttr v x u) (λ_ s'=>∃ N,c64 O1 H s N s'/\Q N) A7 s:=by
 revert h;intro q4;refine a1O q4 λcn d l q2 hz h=>?_;clear q4;refine p9 q2 λa q3 e1 P=>?_;clear q2;subst q3;replace M:=P7 M;subst M;refine i9 (R.objs _ _ e1) λC T ho=>G2 (R.objs _ _ P) λS k f W j i=>?_;have J:=g.cl _ _ T;have X:=R.In g;have I:=a7j ho f;have ht:takerIn G.K C x=some none:=by unfold takerIn;rw[(g.at_ _ _ _ T ha)];rfl
 refine i9 J.cd λcd hc o=>set_plain X I J.sa (osa_open (s:={s with toks:=s.toks+1}) X I J.plain ht λb=>?_)
 refine c5b (c5c (c5b (c5b (wpAny_loadPart (s:={s with toks:=s.toks+1}) ho (c5b (Looks.here (s:={s with toks:=s.toks+1}) (looks_clsIn X hc) ?_))))))
 rw[o];refine c5c (a:=some d) (c5b (c5c (c5b ?_)));refine c5b (c5b (wpAny_askSetting (c5c (c5b (wpAny_mkText (c5b (wpAny_loadPart (s:={s with toks:=s.toks+1+1}) f ?_)))))))
 dsimp only;have O:S.any (·.refKey)=false:=by
  refine D5 (Array.any_eq_false' ..) ?_;intro e he;refine eEE (W e he) λn t h=>?_;simp [DictEntry.refKey,h]
 have D:aRefKeyMayBeTheName x S=false:=by
  rw[aRefKeyMayBeTheName_eq];unfold aRefKeyMayBeTheNameByArray;rw[O];rw[(Bool.and_false ..)];rfl
 rw[D];refine G2 (b0x (k:=k) W x (PyData.keyHash w.params x) (s.toks+1) u) λB k' hp z V r=>wpAny_updatePart (s:={s with toks:=s.toks+1+1}) f ?_
 have U:(s.heap.update d (Obj.putName x (PyData.keyHash w.params x) (.str x (s.toks+1)) u)).get? d=some {cls:=.type "dict",data:=.dict B k'}:=by
  refine u7 hp ?_;exact c5l _ f (by rw[hp];rfl)
 have E:B.size=(a0L l (nm x) q).length:=by
  rw[V];rw[(a7F ..)];cases hl:a0i l (nm x) with
  | some v=>refine i9 ((i x F).1 v hl) λu m _=>?_;rw[m];exact j
  | none=>rw[((i x F).2 hl)];exact c5z (·+1) j
 have Z:=R.update (h':=s.heap.update d (Obj.putName x (PyData.keyHash w.params x) (.str x (s.toks+1)) u)) (mo':=.ns (a0L l (nm x) q)) P (c5m ..) λtup=>⟨B,k',U,z,E,λy L=>?_⟩
 ·refine c5b (wpAny_lookBehind U (pastItsLine_dict (by rw[V];rw[sizeLine_eq];split;exact (by exact c5r (c5K j) (c5r hz (c5o rfl)));exact (by exact c6x (c5r (c5K j) (c5r hz (c5o rfl)))))) ?_)
  exact c5c ⟨_,⟨Z.1,Z.2,rfl,rfl⟩,h⟩
 ·rw[(a7G ..)];rw[(r ..)];by_cases e:y=x
  ·clear E U r V hp D ht h ha F;subst e;rw[(c58 rfl)];rw[(c58 rfl)];exact ⟨λv Y=>⟨u,rfl,c5A Y▸rq.mono tup⟩,λY=>x9 Y.symm⟩
  ·rw[(c57 e)];rw[(c57 λe'=>e (O6 L F e'))];exact ⟨λv Y=>by refine i9 ((i y L).1 v Y) λu m h2=>?_;exact ⟨u,m,h2.mono tup⟩,(i y L).2⟩
variable {D:Addr}
theorem Q5:∀ {es:List c6S} {l:List Ev},C9 (P6 k c) es=some l->(backTo pos (starEach es ld)).any (·.1)=false:=by
 intro es;induction es with
 | nil=>intro _ _;exact rfl
 | cons e es O =>
  intro l h;refine j8 (y6 h) λx Y J B U=>?_;subst U;rw[(M5 λV p q=>by clear h;subst q;exact a0u J)]
  show (false||(backTo pos (starEach es ld)).any (·.1))=false
  rw[(O B)];rfl
theorem a62 {f:Value} {args:List (Bool×Sem Value)} {Q:Args->Shared->Prop} (J:args.any (·.1)=false) (h:wpAny c6W A (spliced args) (λvs B=>Q ⟨vs,[]⟩ B) E s) :
  wpAny c6W A (evalArgs f true args []) Q E s:=by
 cases args with
 | nil =>
  exact c5b (c5d h (λvs B q=>c5b (c5c (c5e (c5b (c5c (c5b (c5c (c5c q)))))))) λ_ _ e=>e)
 | cons a rest =>
  obtain ⟨b,x⟩:=a;cases b with
  | true=>cases J
  | false=>exact evalArgs_plain h
theorem N3 {f:Value} {first:List Value} {args:List (Bool×Sem Value)} {Q:Value->Shared->Prop} {P:Heap->Prop} (q:args.any (·.1)=false)
  (J:∀ h,P h->∃ k,(k=Keeper.frame\/k=Keeper.machine\/k=Keeper.boundFrame)/\Looks c6W h (keeperOf f) k)
  (h:wpAny c6W A (spliced args) (λvs B=>P B.heap/\wpAny c6W A (call f (first++vs)) Q A7 B) A7 s):wpAny c6W A (callWith pos f first args []) Q A7 s :=
 callWith_of (P:=P) (by rw[q];rfl) J (a62 q h)
theorem a04 {f:Value} (h:∀ a,f≠.ref a) (q:Heap):∃ k,(k=Keeper.frame\/k=Keeper.machine\/k=Keeper.boundFrame)/\Looks c6W q (keeperOf f) k :=
 ⟨.machine,.inr (.inl rfl),Looks.of_pure (by unfold keeperOf;cases f <;> first | rfl | exact c59 rfl (h _))⟩
theorem b7q {p pos:Pos} {es:List c6S} {l:List Ev} (g:Gok G c) (j:c65) (h:∀ e x,P6 k c e=some x->c6T m c e x) (O:C9 (P6 k c) es=some l) (d:c.kind x=.glob) (u:A1 x=true) (a:c.fns.contains x=true) (Z:(x==("__debug__":Str))=false) :
  c6T m c (.Call (.Name x p) es [] pos) (D0 (nm x) (a1B l)):=λA s H r i Q J R F q=>by
 refine a02 (g.fn x a) λ_ f U V Y=>wpAny_Call_NameR (wpAny_Name (a48 g R F d V ?_) Z);refine N3 (P:=G.K.In) (Q5 O) (keeps_K Y) (l7 (a2d h es l O A s H r i pos _ J R F q) (λw us t v ⟨o,_⟩ B n=>⟨B.rel.In g,?_⟩));exact v9 B (j.call J.b B.rel o U n)
theorem b3K {n:Nat} {cn f:Nm} {vs:List f7} (h:(j3 G.F n).call cn f vs H Q):∃ fd,G.F cn f=some fd:=by
 cases n with
 | zero=>exact h.elim
 | succ n=>refine i9 h λfd e _=>?_;clear h;exact ⟨fd,e⟩
theorem b5u {p pos:Pos} {es:List c6S} {l:List Ev} (g:Gok G c) (C:c65) (t:∀ e x,P6 k c e=some x->c6T m c e x) (Y:C9 (P6 k c) es=some l) (o:c.kind x=.var) (u:A1 x=true) (n:(x==("__debug__":Str))=false) :
  c6T m c (.Call (.Name x p) es [] pos) (a3I (nm x) (a1B l)):=λA s H r w Q V R F q=>by
 revert q;intro Z;refine i9 Z λf e q=>?_;clear Z;refine wpAny_Call_NameR (wpAny_Name (c5d (a8Y (Q:=λv d=>v=.fn f/\d=H) R F o u e ⟨rfl,rfl⟩) (λv I z=>?_) λ_ _ e=>e) n);refine G2 z λy h D U i j=>?_;clear z;subst i j;refine i9 (vfn D) λa O J=>?_;clear D;subst O;refine N3 (P:=G.K.In) (Q5 Y) (keeps_K (g.keepf _ _ J)) (l7 (a2d t es l Y A I h r w pos _ V U.rel (F.step R U) q) (λN us L M E B O=>⟨B.rel.In g,?_⟩))
 exact v9 (U.trans B) (C.call V.b B.rel E.1 J O)
theorem b7j {cn:Nm} {C:Addr} (R:c6U H h) (O:G.ca cn=some C) :
  let H':=(H.set h.objs.size (.ns [])).set (h.objs.size+1) (.inst cn h.objs.size)
  let J:=(h.push emptyDict).push (instObj C h.objs.size)
  c6U H' J/\Ext O1 H h H' J:=by
 have B:=R.alloc (o:=emptyDict) (mo:=.ns []) ⟨#[],0,c5j _ rfl,λ_ U=>by simp at U,rfl,λx _=>⟨λv V=>x9 V,λ_=>by simp [nsFind,findBy]⟩⟩
 have q:=B.1.alloc (o:=instObj C h.objs.size) (mo:=.inst cn h.objs.size) ⟨C,O,c5j _ rfl⟩;rw [Heap.size_push] at q;exact ⟨q.1,B.2.trans q.2⟩
theorem b3c (C:Addr) (us:List Value):(Code.builtin "type.__call__" ⟨.ref C :: us,[]⟩).weight<=3:=by
 have:(Code.builtin "type.__call__" ⟨.ref C :: us,[]⟩).weight=1:=by rfl
 exact c4q this
theorem b5P (C:Addr) (us:List Value):(Code.builtin "type.__call__" ⟨.ref C :: us,[]⟩).cUnits<=20:=by
 have:(Code.builtin "type.__call__" ⟨.ref C :: us,[]⟩).cUnits=1:=by rfl
 exact c4p this
theorem b9A {p pos:Pos} {es:List c6S} {l:List Ev} (g:Gok G c) (ok:c65) (hs:∀ e x,P6 k c e=some x->c6T m c e x) (E:C9 (P6 k c) es=some l) (hk:c.kind x=.glob) (hx:A1 x=true) (hf:c.clss.contains x=true) (hd:(x==("__debug__":Str))=false) :
  c6T m c (.Call (.Name x p) es [] pos) (a8s (nm x) (a1B l)):=λA s H r ld Q Y R F q=>by
 refine a02 (g.cls x hf) λ_ C a S T=>wpAny_Call_NameR (wpAny_Name (a48 g R F hk S ?_) hd);refine N3 (P:=G.K.In) (Q5 E) (keeps_K T) (l7 (a2d hs es l E A s H r ld pos _ Y R F q) (λvs us U s1 ⟨r1,_⟩ J Z=>⟨J.rel.In g,?_⟩));have i:=g.cl _ _ a;have X:=J.rel.In g;obtain ⟨h,B,D,t,I⟩:=s1;have b:U h.objs.size=none:=J.rel.fresh;have f:U (h.objs.size+1)=none:=by
  cases q:U (h.objs.size+1) with
  | none=>rfl
  | some mo=>have:=J.rel.lt q;exact c59 this (by show ¬ h.objs.size+1 < h.objs.size;exact Nat.not_succ_lt_self)
 have Z:=Z (h.objs.size+1) h.objs.size f b (c4k);refine eE (b3K Z) λfd j=>?_;have V:A1 ("__init__":Str)=true:=by decide +kernel
 refine p9 (g.me (nm x) C ("__init__":Str) fd a V j) λW g1 g2 g3=>?_;have L:=b7j J.rel a;have O:c64 O1 U ⟨h,B,D,t,I⟩ ((U.set h.objs.size (.ns [])).set (h.objs.size+1) (.inst (nm x) h.objs.size)) ⟨(h.push emptyDict).push (instObj C h.objs.size),B,D,t,I⟩:=⟨L.1,L.2,rfl,rfl⟩;refine wpAny_call (make_core (makes_of X i.makes) (looks_findIn X g2) (λself=>bind_fn X self g3) (.inl rfl) ?_)
 have wt:=b3c C ([]++us);have ut:=b5P C ([]++us);have N:BOk n (A.under (.builtin "type.__call__" ⟨.ref C :: ([]++us),[]⟩)):=⟨Y.h,by have:=Y.d;show A.depth+_+_+_<=_;exact c2l wt this,by have:=Y.u;show A.units+_+_+_<=_;exact c2G ut this⟩
 refine codeAny_mono (ok _ _ _ (nm x) (nm "__init__") W (.ref (h.objs.size+1) :: vs) (.ref (h.objs.size+1) :: us) _ N O.rel (.cons .ref (O.vreps J.rel r1)) g1 Z) (λr s' z=>?_);rcases r with e | (v | _ | _ | _) <;> first | exact z.elim | skip
 refine G2 z λy M o w q3 qq=>?_;clear z;subst q3;replace o:=b56 o;exact ⟨o,.ref _,M,.ref,J.trans (O.trans w),qq⟩
section
open Classical
variable {ents:Array DictEntry}
noncomputable def b4P (m:LM):String:=match m with
 | .append=>"list.append" | .extend=>"list.extend" | .pop=>"list.pop" | .index=>"list.index"
noncomputable def b3W (m:DM):String:=match m with
 | .get=>"dict.get" | .setdefault=>"dict.setdefault" | .pop=>"dict.pop"
theorem a96 (h:s.heap.get? a=some {cls:=.type "list",data:=.seq vs k}):s.TypeIs (.ref a) "list":=⟨_,h,rfl⟩
noncomputable def isI (i:Int):Value->Bool
 | .int b _=>b==i
 | _=>false
theorem a8V {P:LM} {vs:List f7} {us:List Value} (al:AOk n m A) (R:c6U H s.heap) (e:H a=some (.list xs)) (O:m5 G s.heap vs us) (h:a8U a xs P vs H Q) :
  wpAny c6W A (call (.builtin (b4P P)) (.ref a :: us)) (Got G w (j6 G) H s Q) A7 s:=by
 refine u6 (R.objs _ _ e) λq k Y r=>?_;have C:=a96 Y;have J:xs.length=q.size:=by rw[r.length];rw[c5V];rfl
 have hu:A.units+65 < cLine:=by have:=al.units;exact zo9 this
 cases P
 ·revert h;intro q4;refine p9 q4 λv q3 B h=>?_;clear q4;subst q3;replace O:=B6 O;revert O;intro o;refine j8 o λu a1 q9 O hh=>?_;clear o;subst q9;subst hh;have B:q.size<=sizeLine:=by refine u7 J ?_;rw[sizeLine_eq];unfold n8 at B;exact c5r B (c5o rfl)
  refine call_meets PySem.F.slot_list_append C PySem.F.entry_list_append (PySem.F.args_list_append_2 _ _) (list_append a q k u B) ⟨Y,?_⟩;have:=R.update (h':=s.heap.update a (Obj.mapSeq λx=>x.push u)) (mo':=.list (xs++[v])) e (c5m ..) λtup=>⟨q.push u,_,IsL.update Y _,by rw[Array.toList_push];exact (r.mono tup).append (.cons (O.mono tup) .nil)⟩
  exact ⟨.none,_,.none,⟨this.1,this.2,rfl,rfl⟩,h⟩
 ·revert h;intro p;refine B0 p λb ys a0 f e2 g h=>?_;clear p;subst a0;replace O:=B6 O;refine j8 O λu a1 S T W=>?_;clear O;subst S;subst T;subst W;refine u6 (R.objs _ _ e2) λU k2 L D=>?_;have n2:ys.length=U.size:=by rw[D.length];rw[c5V];rfl
  have B:q.size+U.size<=sizeLine:=by refine u7 J ?_;refine u7 n2 ?_;rw[sizeLine_eq];unfold n8 at g;exact c5r g (c5o rfl)
  refine call_meets PySem.F.slot_list_extend C PySem.F.entry_list_extend (PySem.F.args_list_extend_2 _ _) (AutoSeq1.list_extend_list_list_0 a q k b U k2 (by simp [Builtin.List.listTooLong];omega) (by exact Nat.le_of_add_right_le B) (by exact Nat.le_add_right_of_le B)) ⟨Y,L,?_⟩
  have:=R.update (h':=s.heap.update a (Obj.mapSeq λx=>x++U)) (mo':=.list (xs++ys)) e (c5m ..) λtup=>⟨q++U,_,IsL.update Y _,by rw[Array.toList_append];exact (r.mono tup).append (D.mono tup)⟩
  exact ⟨.none,_,.none,⟨this.1,this.2,rfl,rfl⟩,h⟩
 ·revert h;intro q8;refine J9 q8 λv q7 B M h=>?_;clear q8;subst q7;replace O:=a0D O;subst O
  ·have f:xs≠[]:=by clear h B J r e;rintro rfl;simp at M
   have d:0 < xs.length:=List.length_pos_iff.mpr f;rw [List.getLast?_eq_getElem?] at M;refine i9 (r.get _ M) λu c I=>?_;rw [J,Array.getElem?_toList] at c;refine call_meets PySem.F.slot_list_pop C PySem.F.entry_list_pop (PySem.F.args_list_pop_1 _) (list_pop_last a q k u c (by refine u7 J ?_;rw[sizeLine_eq];unfold n8 at B;exact c5r B (c5o rfl))) ⟨Y,?_⟩
   have:=R.update (h':=s.heap.update a (Obj.mapSeq λxs=>xs.eraseIdxIfInBounds (q.size - 1))) (mo':=.list xs.dropLast) e (c5m ..) λtup=>⟨q.eraseIdxIfInBounds (q.size - 1),_,IsL.update Y _,?_⟩
   ·exact ⟨v,_,this.2.vrep R .no I,⟨this.1,this.2,rfl,rfl⟩,h⟩
   ·have e3:(q.eraseIdxIfInBounds (q.size - 1)).toList=q.toList.take (q.size - 1):=by
     clear tup c r Y;obtain ⟨l⟩:=q;have hl:l.length - 1 < l.length:=by simp at J;exact Nat.sub_lt (J▸d) (c53 0)
     simp [List.eraseIdx_eq_take_drop_succ,List.drop_eq_nil_of_le];exact Nat.sub_le_iff_le_add.mp (c5w _)
    rw[e3];rw[List.dropLast_eq_take];rw[J];exact (r.mono tup).take _
 ·clear e;obtain ⟨l,i,j,rfl,rfl,B,hj,hn,h⟩:=h;refine j8 (B6 O) λu _ X r1 D=>?_;subst X;cases a0D D;refine eE (J8 r1) λt q1=>?_;clear O r1;subst q1;rw [List.length_map] at J;have Z:∀ k,(V:k < q.size)->∃ b t,l[k]?=some b/\q[k]=.int b t:=λk V=>by
   refine i9 (r.get k (x:=.int (l[k]'(J▸V))) (by rw[c5x];rw[(c5s (J▸V))];rfl)) λy c I=>?_
   refine eE (J8 I) λt q2=>?_;clear I;subst q2;rw [Array.getElem?_toList,Array.getElem?_eq_getElem V] at c;exact ⟨_,t,c5s (J▸V),c5A c⟩
  have is:∀ b t,isI i (.int b t)=(b==i):=λ_ _=>rfl;have N:j < q.size:=J▸(c6C hj).1;refine call_meets PySem.F.slot_list_index C PySem.F.entry_list_index (PySem.F.args_list_index_2 _ _) (list_index a q k (.int i t) (isI i) (λy hy=>?_) j N (by unfold n8 at B;exact c2i J B N) ?_ λk V K=>?_) ⟨Y,.int j,H,.int,.toks R,h⟩
  ·obtain ⟨k,V,rfl⟩:=Array.mem_iff_getElem.mp hy;refine u6 (Z k V) λb t' _ e=>?_;rw[e];exact EqGives.int _ _ _ _
  ·refine u6 (Z j N) λb t' E e=>?_;rw[e];rw[(is ..)];exact beq_iff_eq.mpr (c5A (E.symm.trans hj))
  ·refine u6 (Z k V) λb t' E e=>?_;rw[e];rw[(is ..)];exact beq_eq_false_iff_ne.mpr λz=>hn k K (z▸E)
theorem a8o {r:DM} {vs:List f7} {us:List Value} (g:Gk G) (al:AOk n m A) (R:c6U H s.heap) (e:H a=some (.dict es ep)) (B:m5 G s.heap vs us) (h:a8n a es ep r vs H Q) :
  wpAny c6W A (call (.builtin (b3W r)) (.ref a :: us)) (Got G w (j6 G) H s Q) A7 s:=by
 have V:=Q9 R e;have T:=R.sysm g e;have f:A.units+1+64 < cLine:=by have:=al.units;exact c4K this
 cases r
 ·revert h;intro X;refine j8 X λk d q5 U h=>?_;clear X;subst q5;replace B:=B6 B;refine a3K B λu b D Y l S E j I=>?_;clear B;subst D;subst E;subst I;refine c5f PySem.F.slot_dict_get V PySem.F.entry_dict_get ?_ (PySem.F.args_dict_get_3 _ _ _);refine c5b (c5b (wpAny_notOrdered_dict V ?_));refine c5c (c5b (a3G f R e U Y (λo=>?_) (λy P O J=>?_)))
  ·refine c5b (wpAny_missed_other T (c5c ⟨l,rfl,d,H,j,.toks R,?_⟩));rwa [o] at h
  ·refine c5c ⟨P,rfl,y,H,J,.toks R,?_⟩;rwa [O] at h
 ·refine B0 h λk d C U c h3 h4=>?_;clear h;subst C;replace B:=B6 B;refine a3K B λu b K Y l S L j M=>?_;clear B;subst K;subst L;subst M;refine c5f PySem.F.slot_dict_setdefault V PySem.F.entry_dict_setdefault ?_ (PySem.F.args_dict_setdefault_3 _ _ _);refine c5b (c5b (wpAny_notOrdered_dict V ?_));refine c5c ?_;show wpAny _ _ (if (a==sysModules)=true then _ else (dictSetDefault a u l>>=_)) _ _ s
  refine b9 (c57 (by rw[T];exact c5F)) ?_
  refine c5b (a3H f R e U Y j c (λy P N O J q=>c5c ⟨P,rfl,y,H,q.vrep R J,q,?_⟩) (λN o q=>c5c ⟨l,rfl,d,_,q.vrep R j,q,?_⟩))
  ·exact h3 _ O
  ·exact h4 o
 ·revert h;intro Z;refine B0 Z λk y z U c O h=>?_;clear Z;subst z;replace B:=B6 B;refine j8 B λu b v Y x=>?_;clear B;subst v;subst x
  ·refine c5f PySem.F.slot_dict_pop V PySem.F.entry_dict_pop ?_ (PySem.F.args_dict_pop_2 _ _);refine c5b (c5b (wpAny_notOrdered_dict V ?_));refine c5c (V7 (R.objs _ _ e) λnd ok ents ho he=>?_);have p:ents.isEmpty=false:=by
    refine eE (b16 O) λi hi=>?_;have:0 < es.length:=by
     have:=(c6C hi).1;exact Nat.zero_lt_of_lt this
    rw [he.length,Array.length_toList] at this;refine D5 (Array.isEmpty_eq_false_iff ..) ?_;intro e;rw [e] at this;simp at this
   cases W:(keyPart u).isSome with
   | true =>
    simp only [W,if_true];refine c5b (c5c ?_);refine c5b (a6D f R e U Y c O λen N J q=>?_)
    first
     | exact c5b (wpAny_letGo (c5c ⟨_,rfl,y,_,J.mono λ_ _ t=>q.ext.tup R .no t,q,h⟩))
     | exact c5b (c5c (c5b (wpAny_letGo (c5c ⟨_,rfl,y,_,J.mono λ_ _ t=>q.ext.tup R .no t,q,h⟩))))
   | false =>
    simp only [W,Bool.false_eq_true,if_false];refine c5b (wpAny_dictEntries ho rfl (c5b (c5c ?_)));rw[p];refine c5b (a6D f R e U Y c O λen N J q=>?_)
    first
     | exact c5b (wpAny_letGo (c5c ⟨_,rfl,y,_,J.mono λ_ _ t=>q.ext.tup R .no t,q,h⟩))
     | exact c5b (c5c (c5b (wpAny_letGo (c5c ⟨_,rfl,y,_,J.mono λ_ _ t=>q.ext.tup R .no t,q,h⟩))))
end
theorem b44:∀ c,c < 123->97<=c->PySem.Unicode.isSpace c=false:=by decide +kernel
section
open Classical
variable {Q:Value×List Value->Shared->Prop}{M:Model}{pl:Sem Bool}
theorem c3C {z:Str} {t:Tok}:∀ a,Value.str z t=.ref a->∃ o,s.heap.get? a=some o/\o.dict=none:=by
 intro a e;exact c59 e (by intro h;injection h)
theorem c3D {z:Str} {t:Tok}:s.TypeIs (.str z t) "str":=typeIs_str s z t
theorem a93 {z:Str} {t:Tok} (h:Q (.builtin "str.isspace",[.str z t]) s):wpAny M A (getMethod (.str z t) (Str.ofString "isspace") pl) Q E s :=
 getMethod_builtin (T:="str") (id:="str.isspace") (name:=Str.ofString "isspace") c3D PySem.F.plainAttrs_str PySem.F.slot_str_isspace PySem.F.type_str_isspace c3C h
theorem b2k (q:s.heap.get? a=some o) (B:o.cls=.type "list") (J:o.dict=none) (h:Q (.builtin "list.append",[.ref a]) s):wpAny M A (getMethod (.ref a) (Str.ofString "append") pl) Q E s :=
 getMethod_builtin ⟨o,q,B⟩ PySem.F.plainAttrs_list PySem.F.slot_list_append PySem.F.type_list_append (λb e=>by injection e with e;subst e;exact ⟨o,q,J⟩) h
theorem b2l (q:s.heap.get? a=some o) (B:o.cls=.type "list") (J:o.dict=none) (h:Q (.builtin "list.extend",[.ref a]) s):wpAny M A (getMethod (.ref a) (Str.ofString "extend") pl) Q E s :=
 getMethod_builtin ⟨o,q,B⟩ PySem.F.plainAttrs_list PySem.F.slot_list_extend PySem.F.type_list_extend (λb e=>by injection e with e;subst e;exact ⟨o,q,J⟩) h
theorem b6N (q:s.heap.get? a=some o) (B:o.cls=.type "list") (J:o.dict=none) (h:Q (.builtin "list.pop",[.ref a]) s):wpAny M A (getMethod (.ref a) (Str.ofString "pop") pl) Q E s :=
 getMethod_builtin ⟨o,q,B⟩ PySem.F.plainAttrs_list PySem.F.slot_list_pop PySem.F.type_list_pop (λb e=>by injection e with e;subst e;exact ⟨o,q,J⟩) h
theorem b4f (q:s.heap.get? a=some o) (B:o.cls=.type "list") (J:o.dict=none) (h:Q (.builtin "list.index",[.ref a]) s):wpAny M A (getMethod (.ref a) (Str.ofString "index") pl) Q E s :=
 getMethod_builtin ⟨o,q,B⟩ PySem.F.plainAttrs_list PySem.F.slot_list_index PySem.F.type_list_index (λb e=>by injection e with e;subst e;exact ⟨o,q,J⟩) h
theorem b80 (q:s.heap.get? a=some o) (B:o.cls=.type "dict") (J:o.dict=none) (h:Q (.builtin "dict.get",[.ref a]) s):wpAny M A (getMethod (.ref a) (Str.ofString "get") pl) Q E s :=
 getMethod_builtin ⟨o,q,B⟩ PySem.F.plainAttrs_dict PySem.F.slot_dict_get PySem.F.type_dict_get (λb e=>by injection e with e;subst e;exact ⟨o,q,J⟩) h
theorem a5U (q:s.heap.get? a=some o) (B:o.cls=.type "dict") (J:o.dict=none) (h:Q (.builtin "dict.setdefault",[.ref a]) s):wpAny M A (getMethod (.ref a) (Str.ofString "setdefault") pl) Q E s :=
 getMethod_builtin ⟨o,q,B⟩ PySem.F.plainAttrs_dict PySem.F.slot_dict_setdefault PySem.F.type_dict_setdefault (λb e=>by injection e with e;subst e;exact ⟨o,q,J⟩) h
theorem b6M (q:s.heap.get? a=some o) (B:o.cls=.type "dict") (J:o.dict=none) (h:Q (.builtin "dict.pop",[.ref a]) s):wpAny M A (getMethod (.ref a) (Str.ofString "pop") pl) Q E s :=
 getMethod_builtin ⟨o,q,B⟩ PySem.F.plainAttrs_dict PySem.F.slot_dict_pop PySem.F.type_dict_pop (λb e=>by injection e with e;subst e;exact ⟨o,q,J⟩) h
theorem a12 {α β:Type} {f:α->Option β}:∀ {es:List α} {l:List β},C9 f es=some l->es.length=l.length:=by
 intro es;induction es with
 | nil=>intro l h;have O:=B8 h;clear h;subst O;rfl
 | cons e es J =>
  intro l h;refine j8 (y6 h) λx V U B q=>?_;clear h;subst q;rw[c6d];rw[c6d];rw[(J B)];rfl
variable {Q:Value->Shared->Prop}{ents:Array DictEntry}
theorem a4q:∀ {es:List c6S} {l:List Ev},C9 (P6 k c) es=some l->(backTo pos (starEach es ld)).all (!·.1)=true:=by
 intro es;induction es with
 | nil=>intro _ _;exact rfl
 | cons e es U =>
  intro l h;refine j8 (y6 h) λx Y O J q=>?_;subst q;rw[(M5 λV p B=>by clear h;subst B;exact a0u O)]
  show (true&&(backTo pos (starEach es ld)).all (!·.1))=true;rw[(U J)];rfl
theorem a85 {o:c6S} {q pos:Pos} {es:List c6S} {l:List Ev} (U:C9 (P6 k c) es=some l) (hz:l.length<=15) (d:a6s o=true) (Z:(q.endLine==pos.line)=true)
  (h:wpAny c6W A (eval o ld) (λov V=>∀ f,wpAny c6W A (getMethod ov x f) (λfx Y=>wpAny c6W A (callWith pos fx.1 fx.2 (backTo pos (starEach es ld)) []) Q E Y) E V) E s) :
  wpAny c6W A (eval (.Call (.Attribute o x q) es [] pos) ld) Q E s:=by
 rw[(arm_eval_Call ..)];rw[(a4K d)];refine c5b (c5d h (λov V a=>c5b (c5g ?_)) λ_ _ e=>e);have O:es.length=l.length:=a12 U;have B:methodCallForm (es.length+([]:List Keyword).length) (backTo pos (starEach es ld)) (backToKw pos (keywordEach [] ld))=true:=by
  unfold methodCallForm;rw[(a4q U)];show (true&&true&&decide (es.length+0+0 < 30))=true;simp;exact c1H hz O
 have J:methodCallPos true o ld q pos=pure pos:=by unfold methodCallPos;(rewrite [if_pos];try rfl);simpa using Z
 unfold methodCall;rw[B];refine c5b (c5e (c5d (a _) (λfx Y b=>?_) λ_ _ e=>e));exact c5b (wpAny_of_eq J b)
noncomputable def c0p (lc:Program) (w:World) (G:Gi) (n:Nat) (A:Around) (ld:Env) (r:En) (H H1:Hp) (s s1:Shared) (Q:f7->Hp->Prop) (l:List Ev) (es:List c6S) (pos:Pos) (p:f7) (v:Value):Prop :=
 ∀ (f:Value) (P:Hp->List f7->(f7->Hp->Prop)->Prop),(∀ h,G.K.In h->∃ k,(k=Keeper.frame\/k=Keeper.machine\/k=Keeper.boundFrame)/\Looks (model lc w) h (keeperOf f) k) ->
   ((a1B l) (j3 G.F n) r H1 λvs H2=>P H2 vs Q) ->
   (∀ s2 H2 vs us,y5 G w H2 s2.heap->m5 G s2.heap vs us->j6 G s2.heap p v->P H2 vs Q->wpAny (model lc w) A (call f (v :: us)) (Got G w (j6 G) H2 s2 Q) A7 s2) ->
   wpAny (model lc w) A (callWith pos f [v] (backTo pos (starEach es ld)) []) (Got G w (j6 G) H s Q) A7 s1
theorem b7u {o:c6S} {t:Nm} {E pos:Pos} {es:List c6S} {l:List Ev} (g:Gok G c) (ok:c65) (ho:c6T m c o y) (hs:∀ e x,P6 k c e=some x->c6T m c e x) (hl:C9 (P6 k c) es=some l)
  (ht:a1e x=some t) (hz:l.length<=15) (ns:a6s o=true) (hp:(E.endLine==pos.line)=true):c6T m c (.Call (.Attribute o x E) es [] pos) (l4 y t (a1B l)):=λA s H r ld Q al R F q=>by
 refine eA (A5 ht) λhx q7=>?_;subst q7;refine a85 hl hz ns hp (l7 (ho A s H r ld _ al R F q) (λp v H1 M V u q1=>λL=>?_));have args:c0p lc w G n A ld r H H1 s M Q l es pos p v:=by
  intro f P i h1 h2;refine N3 (P:=G.K.In) (Q5 hl) i (l7 (a2d hs es l hl A M H1 r ld pos _ al u.rel (F.step R u) h1) (λY us U W ⟨r2,_⟩ D q2=>⟨D.rel.In g,?_⟩));exact v9 (u.trans D) (h2 W U Y us D.rel r2 (D.vrep u.rel V) q2)
 revert q1;intro q4;refine i9 q4 λk i q1=>?_;clear q4;cases k with
 | str =>
  refine eA i λq5 I=>?_;clear i;refine eE q5 λz q6=>?_;clear q5;subst q6;have O:x=("isspace":Str):=O6 hx (by decide +kernel) (I.trans (by decide +kernel))
  replace V:=a1D V;refine eE V λtk q3=>?_;clear V;subst q3;clear I q ht hx;subst O;refine a93 (args (.builtin "str.isspace") (λU Y Q=>S8 c61 .str (.str z) (nm "isspace") Y U Q) (λh _=>a04 (λa=>by intro e;cases e) h) q1 λW U Y us N j _ h=>?_)
  revert h;intro a6;refine J9 a6 λz' b0 b4 a5 h=>?_;clear a6;subst b4;refine p9 a5 λch c1 c2 b5=>?_;clear a5;subst b5;clear q1 args;cases b0;replace j:=a0D j;subst j;refine call_gives PySem.F.slot_str_isspace (typeIs_str _ _ _) PySem.F.entry_str_isspace (PySem.F.args_str_isspace_1 _) (gives_str_isspace _ _) ?_;have S:Str.ofString (String.singleton ch)=⟨#[ch.toNat]⟩:=by rw[(t5 ..)];simp
  rw[S];have e3:((⟨#[ch.toNat]⟩:Str).length > 0&&(#[ch.toNat]:Array Nat).all Unicode.isSpace)=false:=by
   simp [b44 _ (show ch.toNat < 123 by exact Nat.lt_succ_of_le c2) c1]
  show Got G w (j6 G) U W Q (.bool _) W;rw[e3];exact ⟨.bool false,U,.bool,.refl N,h⟩
 | inst cn =>
  refine j8 i λd fs a4 a9 I=>?_;clear i;refine p9 a4 λa b3 O S=>?_;clear a4;subst b3;replace V:=P7 V;subst V;refine i9 (u.rel.objs _ _ O) λC hC B=>G2 (u.rel.objs _ _ S) λents z hd a8 sz hf=>?_;have a0:=g.cl _ _ hC;have X:=u.rel.In g;rw [a54] at I;refine eE (c6J I) λfd a1=>p9 (g.me cn C x fd hC hx a1) λf g1 g2 g3=>?_
  have g4:keepIn G.K (.ref f)=true:=by
   refine p9 (g.fun_ _ _ _ a1) λf' h1 _ h3=>?_;rw [g1] at h1;have q2:=B8 h1;clear h1;subst q2;exact h3
  refine method_fn X (a7j B hd) a0.ga a0.gaa g2 g3 (by show (lookIn x _).map _=_;rewrite [a6p a8];rw[((hf x hx).2 a9)];rfl) ?_
  exact args (.ref f) (λU Y Q=>S8 c61 (.inst cn) (.ref a) (nm x) Y U Q) (keeps_K g4) q1 λW U Y us N j rr h=>ok.call al.b N (.cons rr j) g1 h
 | lst Z =>
  refine eA i λa2 I=>?_;clear i;refine u6 a2 λa xs b1 O=>?_;clear a2;subst b1;replace V:=P7 V;subst V;refine u6 (u.rel.objs _ _ O) λws z B r'=>?_;have J:(∀ L Q,Q (Value.builtin (b4P Z),[Value.ref a]) M->wpAny c6W A (getMethod (.ref a) x L) Q A7 M) ->
    wpAny c6W A (getMethod (.ref a) x L) (λfx s₂=>wpAny c6W A (callWith pos fx.1 fx.2 (backTo pos (starEach es ld)) []) (Got G w (j6 G) H s Q) A7 s₂) A7 M:=by
   intro gm;refine gm _ _ (args (.builtin (b4P Z)) (λU Y Q=>S8 c61 (.lst Z) (.ref a) (nm x) Y U Q) (λh _=>a04 (λa=>by intro e;cases e) h) q1 λW U Y us N j _ h=>?_)
   revert h;intro q8;refine j8 q8 λa' ys T S h=>?_;clear q8;cases T;exact a8V al N S j h
  refine J λL Q q=>?_;clear J args;have O:∀ y:Str,A1 y=true->lmN Z=nm y->x=y:=λy hy e=>O6 hx hy (I.trans e);clear q1 I;cases Z
  ·rw[(O ("append":Str) (by decide +kernel) (by decide +kernel))];exact b2k B rfl rfl q
  ·rw[(O ("extend":Str) (by decide +kernel) (by decide +kernel))];exact b2l B rfl rfl q
  ·rw[(O ("pop":Str) (by decide +kernel) (by decide +kernel))];exact b6N B rfl rfl q
  ·rw[(O ("index":Str) (by decide +kernel) (by decide +kernel))];exact b4f B rfl rfl q
 | dct Z =>
  refine eA i λa3 I=>?_;clear i;refine a36 a3 λa b7 ep b2 O=>?_;clear a3;subst b2;replace V:=P7 V;subst V;refine V7 (u.rel.objs _ _ O) λ_ _ a7 B r'=>?_;have J:(∀ L Q,Q (Value.builtin (b3W Z),[Value.ref a]) M->wpAny c6W A (getMethod (.ref a) x L) Q A7 M) ->
    wpAny c6W A (getMethod (.ref a) x L) (λfx s₂=>wpAny c6W A (callWith pos fx.1 fx.2 (backTo pos (starEach es ld)) []) (Got G w (j6 G) H s Q) A7 s₂) A7 M:=by
   intro gm;refine gm _ _ (args (.builtin (b3W Z)) (λU Y Q=>S8 c61 (.dct Z) (.ref a) (nm x) Y U Q) (λh _=>a04 (λa=>by intro e;cases e) h) q1 λW U Y us N j _ h=>?_)
   revert h;intro q9;refine a1O q9 λa' ys b6 T S h=>?_;clear q9;cases T;exact a8o g.toGk al N S j h
  refine J λL Q q=>?_;clear J args;have O:∀ y:Str,A1 y=true->dmN Z=nm y->x=y:=λy hy e=>O6 hx hy (I.trans e);clear q1 I;cases Z
  ·rw[(O ("get":Str) (by decide +kernel) (by decide +kernel))];exact b80 B rfl rfl q
  ·rw[(O ("setdefault":Str) (by decide +kernel) (by decide +kernel))];exact a5U B rfl rfl q
  ·rw[(O ("pop":Str) (by decide +kernel) (by decide +kernel))];exact b6M B rfl rfl q
end
section
open Classical
open Classical
variable {Q:Value->Shared->Prop}{wr:List Addr}
theorem a0P {h':Heap} (R:c6U H s.heap) (own:∀ b∈wr,H b=none/\G.base b=none) (i:∀ b∈wr,∃ o,s.heap.get? b=some o/\B9 o) (J:∀ b o,b∉wr->s.heap.get? b=some o->h'.get? b=some o) :
  c64 (·∈wr) H s H {s with heap:=h',toks:=t}:=by
 have tup:∀ b U,IsTup s.heap b U->IsTup h' b U:=λb U Y=>by refine K8 Y λo O d n V=>?_;clear Y;exact ⟨o,J b o (λB=>by
  refine i9 (i b B) λk q f=>?_;rw [O] at q;have j:=B8 q;clear q;subst j;exact f _ _ V) O,d,n,V⟩
 refine ⟨⟨λa o e=>?_,λa h e=>?_⟩,⟨λa o e _ g=>J a o g e,λ_ e=>.inl e,λ_ e=>e,λa e g=>?_⟩,rfl,rfl⟩
 ·exact eA (R.base a o e) λZ c=>⟨J a o (λB=>by rw [(own a B).2] at e;cases e) Z,c⟩
 ·exact (R.objs a h e).mono tup λo O=>J a o (λB=>by rw [(own a B).1] at e;cases e) O
 ·refine eE (c6J e) λo e=>?_;rw[(J a o g e)];rfl
noncomputable def a7k (e:c6S):Bool:=PySem.W.isTupleDisplay e
theorem ni {b I:Addr} (h:b∉[I]):b≠I:=λe=>h (e▸c6M rfl)
theorem ni1 {b e I:Addr} (h:b∉[e,I]):b≠e:=λq=>h (q▸c5u)
theorem ni2 {b e I:Addr} (h:b∉[e,I]):b≠I:=λq=>h (q▸c5t _ c5u)
structure U3 (lc:Program) (w:World) (G:Gi) (I:Addr) (wr:List Addr) (src:Src) (tupOnly:Bool) (St:Nat->Heap->Prop):Prop where
 mem:I∈wr
 frame:∀ i h h',St i h->(∀ b∈wr,∀ o,h.get? b=some o->h'.get? b=some o)->(∀ a vs,IsTup h a vs->IsTup h' a vs)->St i h'
 nons:∀ i h,St i h->∀ b∈wr,∃ o,h.get? b=some o/\B9 o
 self:∀ (A:Around) (i:Nat) (s:Shared) (Q:Value->Shared->Prop),St i s.heap->Q (.ref I) s->wpAny (model lc w) A (pyIter (.ref I)) Q A7 s
 next:∀ (A:Around) (i:Nat) (s:Shared) (H:Hp) (r:Option f7),A.handled=none->y5 G w H s.heap->St i s.heap->(∀ b∈wr,H b=none/\G.base b=none)->src.next H i r ->
  wpAny (model lc w) A (pyNext (.ref I)) (λo s'=>match r with
   | none=>o=none/\m6 G w (·∈wr) H s H s'
   | some v=>∃ u,o=some u/\j6 G s'.heap v u/\m6 G w (·∈wr) H s H s'/\(tupOnly=false->St (i+1) s'.heap)/\(∀ b∈wr,∃ o,s'.heap.get? b=some o/\B9 o)/\∀ (target:c6S) (Q:Unit->Shared->Prop),(tupOnly=true->a7k target=true) ->
     (∀ s'',m6 G w (·∈wr) H s' H s''->St (i+1) s''.heap->Q () s'')->wpAny (model lc w) A (letOwnedTupleGo target (.ref I) u) Q A7 s') A7 s
abbrev c67:=U3 lc w G
theorem a0p (J:h.get? I=some o) (B:B9 o):∀ b∈[I],∃ o,h.get? b=some o/\B9 o:=λb q=>by
 simp only [List.mem_singleton] at q;subst q;exact ⟨o,J,B⟩
theorem s6 (q:o.data=.fields vs):B9 o:=λB n e=>by rw [q] at e;cases e
theorem R3 {q:c6S} {T:String} {Q:Unit->Shared->Prop} (U:s.heap.get? I=some o) (J:o.cls=.type T)
  (O:["enumerate","zip","dict_itemiterator","dict_reverseitemiterator","odict_iterator","itertools.zip_longest","itertools.pairwise"].contains T=false) (h:Q () s):wpAny c6W A (letOwnedTupleGo q (.ref I) u) Q A7 s:=by
 obtain ⟨c,V,B,Y⟩:=o;cases J;cases q <;> first | exact c5c h | skip
 all_goals
  cases u <;> first | exact c5c h | skip
  refine c5b (wpAny_load U ?_);clear U;cases B <;> first | exact c5c h | skip
  show wpAny _ _ (if (List.contains _ T&&_)=true then _ else pure ()) Q A7 s
  rw[O];rw[(Bool.false_and ..)];exact c5c h
theorem a1Y (M:a≠I):c67 I [I] (.lst a) false (λi h=>h.IsListIter I a i) where
 mem:=by simp
 frame:=λ_ _ _ J L _=>J.at λo e=>L I (by simp) o e
 nons:=λi h C b U=>by
  refine p9 C λo B _ V=>?_;clear C;simp only [List.mem_singleton] at U;clear M;subst U;exact ⟨o,B,λZ n e=>by rw [V] at e;cases e⟩
 self:=λ_ _ _ _ J h=>wpAny_pyIter_listiter J h
 next:=λA i s H r K R J Y e=>by
  have m:∀ b∈[I],∃ o,s.heap.get? b=some o/\B9 o:=by refine p9 J λo B _ V=>?_;clear J;exact a0p B (s6 V)
  refine i9 e λz f W=>?_;clear e;subst W
  ·refine u6 (R.objs _ _ f) λZ k B y=>?_;have w:s.heap.IsList a Z:=⟨_,B,rfl,_,rfl⟩;have S:z.length=Z.size:=by rw[y.length];rw[c5V];rfl
   cases l:z[i]? with
   | none =>
    refine wpAny_pyNext_list_end K J w ?_ λp G=>⟨rfl,a0P R Y m λb o U e=>G b o (ni U) e⟩;refine D5 (Array.getElem?_eq_none_iff ..) ?_;rw [List.getElem?_eq_none_iff] at l;exact le_of_eq_of_le (id (Eq.symm S)) l
   | some x =>
    refine i9 (y.get i l) λu v F=>?_;rw [Array.getElem?_toList] at v;refine wpAny_pyNext_list_item J w v λp q P=>?_;have O:c64 (·∈[I]) H s H {s with heap:=p}:=a0P R Y m λb o U e=>P.extBut b o (ni U) e
    refine ⟨u,rfl,F.mono λb Z t=>?_,O,λ_=>q,by refine p9 q λo B _ V=>?_;clear q;exact a0p B (s6 V),λd Q _ N=>?_⟩
    ·refine O.ext.tup R (λc o Z n j f _ D=>?_) t;refine i9 (m c j) λX g E=>?_;rw [f] at g;have T:=B8 g;clear g;subst T;exact E _ _ D
    ·exact p9 (id q) λo B j V=>R3 B j (by decide) (N _ (.refl O.rel) q)
theorem b2q {I t:Addr} {vs:List Value}:c67 I [I] (.seq l) false (λi h=>h.IsTupleIter I t i/\IsTup h t vs.toArray/\m5 G h l vs) where
 mem:=by simp
 frame:=λ_ _ _ J L U=>⟨J.1.at λo e=>L I (by simp) o e,U _ _ J.2.1,J.2.2.mono U⟩
 nons:=λi h w b Y=>by
  refine eA w λv _=>?_;clear w;refine p9 v λo O _ Z=>?_;clear v;simp only [List.mem_singleton] at Y;subst Y;exact ⟨o,O,λvs n e=>by rw [Z] at e;cases e⟩
 self:=λ_ _ _ _ J h=>wpAny_pyIter_tupleiter J.1 h
 next:=λA i s H r K R J a e=>by
  refine eAA J λB U d=>?_;clear J;have m:∀ b∈[I],∃ o,s.heap.get? b=some o/\B9 o:=by refine p9 B λo O _ Z=>?_;clear B;exact a0p O (s6 Z)
  cases (show r=_ from e);cases p:l[i]? with
  | none =>
   refine wpAny_pyNext_tuple_end K B U ?_ λj F=>⟨rfl,a0P R a m λb o Y e=>F b o (ni Y) e⟩;have:=d.get_none i p;simpa using this
  | some x =>
   refine i9 (d.get i p) λu D E=>wpAny_pyNext_tuple_item B U (x:=u) (by simpa using D) λj q N=>?_
   have V:c64 (·∈[I]) H s H {s with heap:=j}:=a0P R a m λb o Y e=>N.extBut b o (ni Y) e
   have tup:∀ b vs,IsTup s.heap b vs->IsTup j b vs:=λb vs t=>by
    refine V.ext.tup R (λc o vs n k y _ z=>?_) t;refine i9 (m c k) λS g C=>?_;rw [y] at g;have P:=B8 g;clear g;subst P;exact C _ _ z
   refine ⟨u,rfl,E.mono tup,V,λ_=>⟨q,tup _ _ U,d.mono tup⟩,by refine p9 q λo O _ Z=>?_;clear q;exact a0p O (s6 Z),λf Q _ M=>?_⟩
   exact p9 (id q) λo O k Z=>R3 O k (by decide) (M _ (.refl V.rel) ⟨q,tup _ _ U,d.mono tup⟩)
theorem a6g {a:Int} {n:Nat}:c67 I [I] (.seq ((List.range n).map λi=>f7.int (a+(i:Nat)))) false (λi h=>IsRangeIter h I (a+(i:Nat)) ((n:Int) - (i:Nat)) 1) where
 mem:=by simp
 frame:=λ_ _ _ J m v=>m I (by simp) _ J
 nons:=λi h p b O=>by
  simp only [List.mem_singleton] at O;subst O;exact ⟨_,p,λw n e=>by cases e⟩
 self:=λ_ _ _ _ J h=>wpAny_pyIter_rangeiter J h
 next:=λA i s H r l R J U e=>by
  have j:∀ b∈[I],∃ o,s.heap.get? b=some o/\B9 o:=a0p J (s6 rfl);cases (show r=_ from e);by_cases Y:i < n
  ·have g:((List.range n).map λi=>f7.int (a+(i:Nat)))[i]?=some (.int (a+(i:Nat))):=by simp [Y]
   rw[g];refine wpAny_pyNext_range_item J (by exact Int.sub_pos.mpr (c6P Y)) λf q u=>?_
   have V:c64 (·∈[I]) H s H {s with heap:=f,toks:=s.toks+1}:=a0P R U j λb o O e=>u.extBut b o (ni O) e
   have B:IsRangeIter f I (a+((i+1:Nat):Int)) ((n:Int) - ((i+1:Nat):Int)) 1:=by
    have c:a+((i+1:Nat):Int)=a+(i:Int)+1:=by exact c2Z
    have d:(n:Int) - ((i+1:Nat):Int)=(n:Int) - (i:Int) - 1:=by exact c24
    rw[c];rw[d];exact q
   refine ⟨_,rfl,.int,V,λ_=>B,a0p q (s6 rfl),λZ Q _ t=>?_⟩;refine R3 q rfl (by decide) (t _ (.refl V.rel) ?_)
   have c:a+((i+1:Nat):Int)=a+(i:Int)+1:=by exact c2Z
   have d:(n:Int) - ((i+1:Nat):Int)=(n:Int) - (i:Int) - 1:=by exact c24
   rw[c];rw[d];exact q
  ·have g:((List.range n).map λi=>f7.int (a+(i:Nat)))[i]?=none:=by simp;exact zo7 Y
   rw[g];exact wpAny_pyNext_range_end l J (by exact Int.sub_nonpos_of_le (c6Q (Nat.le_of_not_lt Y))) λf k=>⟨rfl,a0P R U j λb o O e=>k b o (ni O) e⟩
theorem b0r {e I:Addr} {o o':Obj} (O:h.get? e=some o) (J:B9 o) (B:h.get? I=some o') (q:B9 o'):∀ b∈[e,I],∃ o,h.get? b=some o/\B9 o:=λb hb=>by
 rcases c6K hb with rfl | hb
 ·exact ⟨o,O,J⟩
 ·exact a0p B q b hb
theorem b1m {x:String} {t:Tok} {k:String} (U:k="str_ascii_iterator"\/k="str_iterator") :
  c67 I [I] (.seq (x.toList.map λc=>f7.str (String.singleton c))) false (λi h=>h.IsStrIter I k (Str.ofString x) t i) where
 mem:=by simp
 frame:=λ_ _ _ E K _=>by refine i9 E λo O r=>?_;clear E;exact ⟨o,K I (by simp) o O,r⟩
 nons:=λi h F b Y=>by
  refine p9 F λo O _ f=>?_;clear F;simp only [List.mem_singleton] at Y;subst Y;exact ⟨o,O,λM n e=>by rw [f] at e;cases e⟩
 self:=λ_ _ _ _ V h=>by
  rcases U with rfl | rfl
  ·exact wpAny_pyIter_striter_ascii V h
  ·exact wpAny_pyIter_striter_wide V h
 next:=λA i s H r C R V Z e=>by
  have z:∀ b∈[I],∃ o,s.heap.get? b=some o/\B9 o:=by refine p9 V λo O _ f=>?_;clear V;exact a0p O (s6 f)
  cases (show r=_ from e);have l:∀ j:Nat,(Str.ofString x).cps[j]?=(x.toList[j]?).map Char.toNat:=λj=>by
   rw[(t5 ..)];simp
  have item:∀ c:Char,x.toList[i]?=some c->∀ J ,J.IsStrIter I k (Str.ofString x) t (i+1)->Heap.SameBut I s.heap J ->
    ∃ u,some (Value.str ⟨#[c.toNat]⟩ s.toks)=some u/\j6 G J (.str (String.singleton c)) u/\c64 (·∈[I]) H s H {s with heap:=J,toks:=s.toks+1}/\((false:Bool)=false->J.IsStrIter I k (Str.ofString x) t (i+1))/\(∀ b∈[I],∃ o,J.get? b=some o/\B9 o)/\∀ (B:c6S) (Q:Unit->Shared->Prop),((false:Bool)=true->a7k B=true) ->
     (∀ a,c64 (·∈[I]) H {s with heap:=J,toks:=s.toks+1} H a->a.heap.IsStrIter I k (Str.ofString x) t (i+1)->Q () a)->wpAny c6W A (letOwnedTupleGo B (.ref I) u) Q A7 {s with heap:=J,toks:=s.toks+1}:=by
   intro c L J q v;have d:c64 (·∈[I]) H s H {s with heap:=J,toks:=s.toks+1}:=a0P R Z z λb o Y e=>v.extBut b o (ni Y) e
   refine ⟨_,rfl,?_,d,λ_=>q,by refine p9 q λo O _ f=>?_;clear q;exact a0p O (s6 f),λB Q _ D=>?_⟩
   ·exact a9o c▸.str
   ·refine p9 (id q) λo O p f=>?_;clear V;rcases U with rfl | rfl
    ·exact R3 (s:={s with heap:=J,toks:=s.toks+1}) O p (by decide) (D _ (.refl d.rel) q)
    ·exact R3 (s:={s with heap:=J,toks:=s.toks+1}) O p (by decide) (D _ (.refl d.rel) q)
  cases g:x.toList[i]? with
  | none =>
   have w:(x.toList.map λc=>f7.str (String.singleton c))[i]?=none:=by simp [g]
   have m:(Str.ofString x).cps[i]?=none:=by rw[(l ..)];rw[g];rfl
   rw[w];clear item;rcases U with rfl | rfl
   ·exact wpAny_pyNext_ascii_end C V m λJ y=>⟨rfl,a0P R Z z λb o Y e=>y b o (ni Y) e⟩
   ·exact wpAny_pyNext_wide_end C V m λJ y=>⟨rfl,a0P R Z z λb o Y e=>y b o (ni Y) e⟩
  | some c =>
   have w:(x.toList.map λc=>f7.str (String.singleton c))[i]?=some (.str (String.singleton c)):=by simp [g]
   have m:(Str.ofString x).cps[i]?=some c.toNat:=by rw[(l ..)];rw[g];rfl
   rw[w];rcases U with rfl | rfl
   ·exact wpAny_pyNext_ascii_item V m λJ q v=>item c g J q v
   ·exact wpAny_pyNext_wide_item V m λJ q v=>item c g J q v
theorem b4r {e I a:Addr} (p:e≠I) (a1:a≠e) (a0:a≠I):c67 e [e,I] (.enum a) true (λi h=>(∃ old,IsEnum h e I i old)/\h.IsListIter I a i) where
 mem:=by simp
 frame:=λ_ _ _ d w _=>⟨by refine eE d.1 λold h=>?_;exact ⟨old,w e (by simp) _ h⟩,d.2.at λo B=>w I (by simp) o B⟩
 nons:=λi h z3 b V=>by refine a02 z3 λW o B _ l=>?_;clear z3;refine eE W λold f=>?_;clear W;exact b0r f (s6 rfl) B (s6 l) b V
 self:=λ_ _ _ _ d h=>by
  refine eA d λS _=>?_;clear d;refine eE S λold f=>?_;clear S;exact wpAny_pyIter_enum f h
 next:=λA i s H r hh R d g M=>by
  refine eA d λT O=>?_;clear d;refine eE T λold f=>?_;clear T;have K:∀ b∈[e,I],∃ o,s.heap.get? b=some o/\B9 o:=by refine p9 O λo B _ l=>?_;clear O;exact b0r f (s6 rfl) B (s6 l)
  refine i9 M λxs y q2=>?_;clear M;subst q2
  ·refine u6 (R.objs _ _ y) λvs k B X=>?_;have P:s.heap.IsList a vs:=⟨_,B,rfl,_,rfl⟩;have n1:xs.length=vs.size:=by rw[X.length];rw[c5V];rfl
   cases G:xs[i]? with
   | none =>
    refine wpAny_pyNext_enum_end hh f O P ?_ λh' V=>⟨rfl,a0P R g K λb o E e=>V b o (ni2 E) e⟩;refine D5 (Array.getElem?_eq_none_iff ..) ?_;rw [List.getElem?_eq_none_iff] at G;exact le_of_eq_of_le (id (Eq.symm n1)) G
   | some x =>
    refine i9 (X.get i G) λu N h2=>?_;rw [Array.getElem?_toList] at N;refine wpAny_pyNext_enum_item f O P N p λh' Y q v a2 w=>?_;have j:c64 (·∈[e,I]) H s H {s with heap:=h',toks:=s.toks+1}:=a0P R g K λb o V e=>w b o (ni1 V) (ni2 V) e
    have tup:∀ b vs,IsTup s.heap b vs->IsTup h' b vs:=λb vs t=>by
     refine j.ext.tup R (λc o vs n hc y _ e2=>?_) t;refine i9 (K c hc) λo' C e4=>?_;rw [y] at C;have q1:=B8 C;clear C;subst q1;exact e4 _ _ e2
    have J:∀ b∈[e,I],∃ o,h'.get? b=some o/\B9 o:=by refine p9 q λo B _ l=>?_;clear q;exact b0r Y (s6 rfl) B (s6 l)
    refine ⟨_,rfl,?_,j,λz=>c59 z (by decide),J,λU Q F hq=>?_⟩
    ·exact .tup (vs:=[.int i s.toks,u]) ⟨_,v,rfl,_,rfl⟩ (.cons .int (.cons (h2.mono tup) .nil))
    ·have F:=F rfl;cases U <;> first | exact c59 F c5F | skip
     refine wpAny_letOwnedTupleGo_enum (s:={s with heap:=h',toks:=s.toks+1}) Y λD m Z=>?_
     have L:=a0P (s:={s with heap:=h',toks:=s.toks+1}) (t:=s.toks+1) (h':=D) j.rel g J λb o V e=>Z.extBut b o (ni1 V) e
     refine hq _ L ⟨⟨_,m⟩,?_⟩;refine i9 q λo B r=>?_;clear q;exact ⟨o,(Z.2 I (Ne.symm p)).trans B,r⟩
variable {ents:Array DictEntry}
theorem b2u {J d:Addr} {i ep:Nat} {b:Obj} {a:DictEntry} {Q:Option Value->Shared->Prop} (q:s.heap.IsKeyIter J d i ents.size ep)
  (U:s.heap.get? d=some b) (O:b.data=.dict ents ep) (f:ents[i]?=some a)
  (c:∀ h',h'.IsKeyIter J d (i+1) ents.size ep->Heap.SameBut J s.heap h'->Q (some a.key) {s with heap:=h'}) :
  wpAny c6W A (pyNext (.ref J)) Q E s:=by
 refine p9 (id q) λo Z e Y=>?_;refine c5b (wpAny_attempt (wpAny_callSpecial?_slot (name:=Str.ofString "__next__") q.typeIs PySem.F.slot_dict_keyiterator_next
  (c5f PySem.F.slot_dict_keyiterator_next q.typeIs PySem.F.entry_dict_keyiterator_next ?_ (PySem.F.args_dict_keyiterator_next_1 _))))
 refine c5b (c5c ?_);refine c5b (c5b ?_)
 first | refine c5b (wpAny_typeNameOfWhole_keyiter q.typeIs (c5c ?_)) | refine c5b (wpAny_typeNameOf_keyiter q.typeIs (c5c ?_))
 refine c5b (wpAny_fieldsOf Z Y ?_);have V:Builtin.Dict_items.ownsTuple "dict_keyiterator"=false:=by decide
 rw[V];show wpAny _ _ (if (Value.ref d==Value.none)=true then _ else _) _ _ s
 rw[(c57 (show ¬ ((Value.ref d==Value.none)=true) from c5F))];refine c5b (c5c ?_);refine c5b (wpAny_dictEntries U O ?_);rw[(c57 (by simp))]
 refine c5b (c5c ?_);refine c5b (wpAny_dictEpoch U O ?_);rw[(c57 (by simp))]
 refine c5c ?_;dsimp only;rw[(c57 (show ¬ ((i:Int) < 0) from by exact c23))];rw[(Int.toNat_natCast ..)];rw[f]
 refine c5b ?_
 first | refine c5b (wpAny_typeNameOfWhole_keyiter q.typeIs (c5c ?_)) | refine c5b (wpAny_typeNameOf_keyiter q.typeIs (c5c ?_))
 refine c5b (wpAny_isOneOf_keyiter q.typeIs ?_);show wpAny _ _ (setField (.ref J) 1 (rawInt ((i:Int)+1))>>=_) _ _ s;refine c5b (wpAny_setField Z Y (by simp) ?_)
 have B:(s.heap.update J (Obj.mapFields (·.setIfInBounds 1 (rawInt ((i:Int)+1))))).IsKeyIter J d (i+1) ents.size ep :=
  ⟨_,c5l _ Z (Obj.isFreed_of_fields (Obj.data_mapFields Y _)),(Obj.cls_mapFields ..).trans e,by rewrite [Obj.data_mapFields Y];simp [rawInt]⟩
 refine c5b (c5e ?_);refine c5b (wpAny_isOneOf_keyiter (s:={s with heap:=s.heap.update J (Obj.mapFields (·.setIfInBounds 1 (rawInt ((i:Int)+1))))}) B.typeIs ?_)
 exact c5c (c5c ⟨_,rfl,c5c (c _ B (c5m ..))⟩)
theorem b4w {U d:Addr} {i ep:Nat} {c:Obj} {Q:Option Value->Shared->Prop} (f:A.handled=none) (q:s.heap.IsKeyIter U d i ents.size ep)
  (J:s.heap.get? d=some c) (B:c.data=.dict ents ep) (V:ents.size<=i) (e:∀ h',Heap.ExtBut U s.heap h'->Q none {s with heap:=h'}):wpAny c6W A (pyNext (.ref U)) Q E s:=by
 refine p9 (id q) λo Z g Y=>?_;refine c5b (wpAny_attempt (wpAny_callSpecial?_slot (name:=Str.ofString "__next__") q.typeIs PySem.F.slot_dict_keyiterator_next
  (c5f PySem.F.slot_dict_keyiterator_next q.typeIs PySem.F.entry_dict_keyiterator_next ?_ (PySem.F.args_dict_keyiterator_next_1 _))))
 refine c5b (c5c ?_);refine c5b (c5b ?_)
 first | refine c5b (wpAny_typeNameOfWhole_keyiter q.typeIs (c5c ?_)) | refine c5b (wpAny_typeNameOf_keyiter q.typeIs (c5c ?_))
 refine c5b (wpAny_fieldsOf Z Y ?_);have O:Builtin.Dict_items.ownsTuple "dict_keyiterator"=false:=by decide
 rw[O];show wpAny _ _ (if (Value.ref d==Value.none)=true then _ else _) _ _ s
 rw[(c57 (show ¬ ((Value.ref d==Value.none)=true) from c5F))];refine c5b (c5c ?_);refine c5b (wpAny_dictEntries J B ?_);rw[(c57 (by simp))]
 refine c5b (c5c ?_);refine c5b (wpAny_dictEpoch J B ?_);rw[(c57 (by simp))]
 refine c5c ?_;dsimp only;rw[(c57 (show ¬ ((i:Int) < 0) from by exact c23))];rw[(Int.toNat_natCast ..)];refine b9 (Array.getElem?_eq_none V) ?_
 refine c5b ?_
 first | refine c5b (wpAny_typeNameOfWhole_keyiter q.typeIs (c5c ?_)) | refine c5b (wpAny_typeNameOf_keyiter q.typeIs (c5c ?_))
 show wpAny _ _ (setField (.ref U) 0 .none>>=_) _ _ s;refine c5b (wpAny_setField Z Y (by simp) ?_)
 refine c5b (c5b (c5h ?_ (by size_fits)))
 refine c5b (m:=firstArgMember _ _) (wpAny_of_eq (a:=Value.none) (by first | rfl | (simp only [firstArgMember];rfl)) ?_)
 refine c5h ?_ (by size_fits)
 refine c5b (wpAny_handled ?_);rw[(show A.in1.handled=none from f)];refine c5b (c5c (wpAny_throw ?_));refine c5b (wpAny_isInstance (T:="StopIteration") (b:=true) ⟨_,c5j _ rfl,rfl⟩ isSubtype_stop ?_);exact c5c (e _ (((c5m ..).extBut.push _).push _))
theorem b4s {ks:List f7} (N:a≠I):c67 I [I] (.keys a ks ep) false (λi h=>h.IsKeyIter I a i ks.length ep) where
 mem:=by simp
 frame:=λ_ _ _ C M _=>by refine i9 C λo B r=>?_;clear C;exact ⟨o,M I (by simp) o B,r⟩
 nons:=λi h D b U=>by
  refine p9 D λo B _ V=>?_;clear D;simp only [List.mem_singleton] at U;clear N;subst U;exact ⟨o,B,λZ n e=>by rw [V] at e;cases e⟩
 self:=λ_ _ _ _ J h=>wpAny_pyIter_keyiter J h
 next:=λA i s H r L R J Y e=>by
  have w:∀ b∈[I],∃ o,s.heap.get? b=some o/\B9 o:=by refine p9 J λo B _ V=>?_;clear J;exact a0p B (s6 V)
  refine p9 e λy k X q3=>?_;clear e;subst X;subst q3
  ··refine V7 (R.objs _ _ k) λnd ok ents B d=>?_;have g:(y.map (·.1)).length=ents.size:=by rw[(c5q ..)];rw[d.length];rw[c5V];rfl
    rw [g] at J;cases f:(y.map (·.1))[i]? with
    | none =>
     refine b4w L J B rfl ?_ λm d=>⟨rfl,a0P R Y w λb o U e=>d b o (ni U) e⟩;rw [List.getElem?_eq_none_iff] at f;exact le_of_eq_of_le (id (Eq.symm g)) f
    | some x =>
     rw [List.getElem?_map] at f;refine i9 (c6G f) λp P q4=>?_;clear f;subst q4;refine J9 (d.get i P) λG z K h3 h4=>?_;rw [Array.getElem?_toList] at z;refine b2u J B rfl z λm q T=>?_;have O:c64 (·∈[I]) H s H {s with heap:=m}:=a0P R Y w λb o U e=>T.extBut b o (ni U) e
     have tup:∀ b Z,IsTup s.heap b Z->IsTup m b Z:=λb Z t=>by
      refine O.ext.tup R (λc o Z n u k _ E=>?_) t;refine i9 (w c u) λo' l F=>?_;rw [k] at l;have W:=B8 l;clear l;subst W;exact F _ _ E
     refine ⟨G.key,rfl,K.mono tup,O,λ_=>by rw[g];exact q,by refine p9 q λo B _ V=>?_;clear q;exact a0p B (s6 V),λj Q _ S=>?_⟩
     exact p9 (id q) λo v u V=>R3 v u (by decide) (S _ (.refl O.rel) (by rw[g];exact q))
theorem b2r (g:Gk G) (R:c6U H s.heap) (B:H d=some (.dict es ep))
  (O:Q (.ref s.heap.objs.size) {s with heap:=s.heap.push {cls:=.type "dict_keyiterator",data:=.fields #[.ref d,.int 0 0,.int es.length 0,.int ep 0]}}) :
  wpAny c6W A (pyIter (.ref d)) Q E s:=by
 refine V7 (R.objs _ _ B) λY Z ents J U=>?_;have q:=Q9 R B;have V:es.length=ents.size:=by rw[U.length];rw[c5V];rfl
 refine wpAny_pyIter_slot q PySem.F.slot_dict_iter (c5f PySem.F.slot_dict_iter q PySem.F.entry_dict_iter ?_ (PySem.F.args_dict_iter_1 _));refine c5b (c5b (wpAny_notOrdered_dict q ?_));show wpAny _ _ (pure (Value.ref d)) _ _ s;refine c5c ?_;show wpAny _ _ (Builtin.Dict.showsAll d>>=_) _ _ s;unfold Builtin.Dict.showsAll;refine b9 (c57 (by rw[(R.sysm g B)];exact c5F)) ?_
 refine c5b (c5c ?_);refine c5b (wpAny_dictEntries J rfl ?_);refine c5b (wpAny_dictEpoch J rfl ?_);refine c5b (c5h (c5c ⟨_,rfl,"dict_keyiterator",_,⟨_,c5j _ rfl,rfl⟩,PySem.F.slot_dict_keyiterator_next.lookup,?_⟩));simpa [rawInt,V] using O
theorem a5m (a b:Int):Builtin.Range.rangeSize a b 1=((b - a).toNat:Int):=by
 rw[(rangeSize_one ..)]
 split
 ·rename_i h;exact (Int.toNat_of_nonneg (Int.sub_nonneg_of_le (Int.le_of_lt h))).symm
 ·rename_i h;rw[(Int.toNat_eq_zero.mpr (Int.sub_nonpos_of_le (Int.not_lt.mp h)))];rfl
noncomputable def a1I (lc:Program) (w:World) (G:Gi) (tup:Bool) (H:Hp) (s:Shared) (Q:Src->Hp->Prop) (itv:Value) (s':Shared):Prop :=
 ∃ I wr src St H',itv=.ref I/\U3 lc w G I wr src tup St/\St 0 s'.heap/\(∀ b∈wr,s.heap.get? b=none/\H' b=none/\G.base b=none)/\m6 G w O1 H s H' s'/\Q src H'
theorem a1I.after {tup:Bool} {H J:Hp} {s V Y:Shared} {Q:Src->Hp->Prop} (st:c64 O1 H s J V) (r:a1I lc w G tup J V Q v Y):a1I lc w G tup H s Q v Y:=by
 obtain ⟨I,d,src,St,Z,e,c,a,O,B,q⟩:=r;refine ⟨I,d,src,St,Z,e,c,a,λb U=>⟨?_,(O b U).2⟩,st.trans B,q⟩;cases e:s.heap.get? b with
 | none=>rfl
 | some o =>
  have:=st.ext.there b (by rw[e];rfl) (λz=>z)
  rw [(O b U).1] at this;exact nomatch this
theorem B5 (R:c6U H h) (B:h.objs.size<=k):h.get? k=none/\H k=none/\G.base k=none:=by
 have e:h.get? k=none:=by
  cases q:h.get? k with
  | none=>rfl
  | some o=>exact c59 (c5G (c5n q) B) (c5U _)
 refine ⟨e,?_,?_⟩
 ·cases q:H k with
  | none=>rfl
  | some J=>exact c59 (c5G (R.lt q) B) (c5U _)
 ·cases q:G.base k with
  | none=>rfl
  | some o=>rw [(R.base k o q).1] at e;exact nomatch e
theorem U8 {src:Src} {St:Nat->Heap->Prop} {tup:Bool} {Q:Src->Hp->Prop} (R:c6U H s.heap) (J:c67 s.heap.objs.size [s.heap.objs.size] src tup St) (h0:St 0 (s.heap.push o)) (q:Q src H) :
  a1I lc w G tup H s Q (.ref s.heap.objs.size) {s with heap:=s.heap.push o,toks:=t}:=by
 refine ⟨_,_,src,St,H,rfl,J,h0,λb B=>?_,.push R,q⟩;simp only [List.mem_singleton] at B;subst B;exact B5 R (c5w _)
theorem a8M {Q:Src->Hp->Prop} (g:Gk G) (R:c6U H s.heap) (q:j6 G s.heap p v) (h:itV p H Q) :
  wpAny c6W A (pyIter v) (a1I lc w G false H s Q) A7 s:=by
 rcases h with ⟨l,rfl,h⟩ | ⟨x,rfl,h⟩ | ⟨a,b,rfl,e,h⟩ | ⟨a,Z,Y,rfl,e,h⟩
 ·replace q:=U0 q;refine j8 q λa V U t r=>?_;clear q;subst U;exact wpAny_pyIter_tuple t (U8 R b2q ⟨⟨_,c5j _ rfl,rfl,rfl⟩,T7 t,r.mono λ_ _=>T7⟩ h)
 ·replace q:=a1D q;refine eE q λt O=>?_;clear q;subst O;cases J:(Str.ofString x).cps.all (· < 128)
  ·exact wpAny_pyIter_wide J (U8 R (b1m (.inr rfl)) ⟨_,c5j _ rfl,rfl,rfl⟩ h)
  ·exact wpAny_pyIter_ascii J (U8 R (b1m (.inl rfl)) ⟨_,c5j _ rfl,rfl,rfl⟩ h)
 ·replace q:=P7 q;subst q;exact u6 (R.objs _ _ e) λV k B r=>wpAny_pyIter_list ⟨_,B,rfl,_,rfl⟩ (U8 R (a1Y (c5Q (c5n B))) ⟨_,c5j _ rfl,rfl,rfl⟩ h)
 ·replace q:=P7 q;subst q;exact V7 (R.objs _ _ e) λ_ _ ents B _=>b2r g R e (U8 R (b4s (c5Q (c5n B))) ⟨_,c5j _ rfl,rfl,by rw[(c5q ..)];rfl⟩ h)
theorem K0 {x y:Str} (h:v0 c x y=true):x=y/\c.kind x=.glob/\c.fns.contains x=false/\c.clss.contains x=false:=by
 exact eA ((Bool.and_eq_true_iff).mp h) λq h=>eA ((Bool.and_eq_true_iff).mp h) λB h=>eA ((Bool.and_eq_true_iff).mp h) λJ O=>⟨c6u q,a3P B,Bool.not_eq_true' _▸J,Bool.not_eq_true' _▸O⟩
theorem b29 {vs:List f7} {us:List Value} {Q:Src->Hp->Prop} (R:c6U H s.heap) (O:m5 G s.heap vs us) (h:itR vs H Q) :
  wpAny c6W A (call (.type "range") us) (λx C=>wpAny c6W A (pyIter x) (a1I lc w G false H s Q) A7 C) A7 s:=by
 have q:(n8:Int) < 2 ^ 62:=by decide
 rcases h with ⟨B,rfl,f,g,h⟩ | ⟨J,B,rfl,f,g,y,z,h⟩
 ·skip
  replace O:=B6 O;refine j8 O λu v i Y k=>?_;clear O;subst i;refine eE Y λt j=>?_;clear Y;subst j;subst k;refine call_range_1 (wpAny_pyIter_range (IsRange.new ..) (small_one (by decide) (by decide) (by exact c6l (Int.neg_le_neg (Int.le_of_lt q)) f) (by exact Int.lt_of_le_of_lt g q)) ?_)
  have c:=R.push {cls:=.type "range",data:=.fields #[.int 0 s.toks,.int B t,.int 1 (s.toks+1)]};have V:c64 O1 H s H {s with heap:=s.heap.push {cls:=.type "range",data:=.fields #[.int 0 s.toks,.int B t,.int 1 (s.toks+1)]},toks:=s.toks+1+1}:=.push R
  have U:Builtin.Range.rangeSize 0 B 1=((B - 0).toNat:Int):=a5m _ _;refine (U8 (s:={s with heap:=s.heap.push {cls:=.type "range",data:=.fields #[.int 0 s.toks,.int B t,.int 1 (s.toks+1)]},toks:=s.toks+1+1}) c (a6g (a:=0) (n:=(B - 0).toNat)) ?_ h).after V
  have d:(0:Int)+((0:Nat):Int)=0:=by simp
  have e:(((B - 0).toNat:Nat):Int) - ((0:Nat):Int)=((B - 0).toNat:Int):=by simp
  rw[U];rw[d];rw[e];exact c5j _ rfl
 ·skip
  replace O:=B6 O;refine a3K O λu v l Z E D o b r=>?_;clear O;subst l;refine eE Z λt m=>?_;clear Z;subst m;subst o;refine eE b λt2 p=>?_;clear b;subst p;subst r;refine call_range_2 (wpAny_pyIter_range (IsRange.new ..) (small_one (by exact c6l (Int.neg_le_neg (Int.le_of_lt q)) f) (by exact Int.lt_of_le_of_lt g q) (by exact c6l (Int.neg_le_neg (Int.le_of_lt q)) y) (by exact Int.lt_of_le_of_lt z q)) ?_)
  have c:=R.push {cls:=.type "range",data:=.fields #[.int J t,.int B t2,.int 1 s.toks]};have V:c64 O1 H s H {s with heap:=s.heap.push {cls:=.type "range",data:=.fields #[.int J t,.int B t2,.int 1 s.toks]},toks:=s.toks+1}:=.push R
  have U:Builtin.Range.rangeSize J B 1=((B - J).toNat:Int):=a5m _ _;refine (U8 (s:={s with heap:=s.heap.push {cls:=.type "range",data:=.fields #[.int J t,.int B t2,.int 1 s.toks]},toks:=s.toks+1}) c (a6g (a:=J) (n:=(B - J).toNat)) ?_ h).after V
  have d:J+((0:Nat):Int)=J:=by simp
  have e:(((B - J).toNat:Nat):Int) - ((0:Nat):Int)=((B - J).toNat:Int):=by simp
  rw[U];rw[d];rw[e];exact c5j _ rfl
theorem b5E {Q:Src->Hp->Prop} (R:c6U H s.heap) (V:j6 G s.heap p v) (h:itE p H Q) :
  wpAny c6W A (call (.type "enumerate") [v]) (λx j=>wpAny c6W A (pyIter x) (a1I lc w G true H s Q) A7 j) A7 s:=by
 revert h;intro d;refine j8 d λa n i e h=>?_;clear d;subst i;replace V:=P7 V;subst V
 ··refine u6 (R.objs _ _ e) λO k q r=>?_;have J:=c5n q;refine call_enumerate_1 q λY c U m B=>wpAny_pyIter_enum c ?_;have l:c64 O1 H s H {s with heap:=Y}:=by
    have tup:∀ b O,IsTup s.heap b O->IsTup Y b O:=λb O f=>by refine i9 f λo q r=>?_;clear f;exact ⟨o,B b o q,r⟩
    refine ⟨⟨λa o e=>?_,λa g e=>?_⟩,⟨λa o e _ _=>B a o e,λ_ e=>.inl e,λ_ e=>e,λa e _=>?_⟩,rfl,rfl⟩
    ·exact ⟨B a o (R.base a o e).1,(R.base a o e).2⟩
    ·exact (R.objs a g e).mono tup λo q=>B a o q
    ·refine eE (c6J e) λo e=>?_;rw[(B a o e)];rfl
   refine ⟨_,_,_,_,H,rfl,b4r (a:=a) (I:=s.heap.objs.size) (Nat.ne_of_gt (c5J _)) (c5Q (c6y J)) (c5Q J),⟨⟨_,c⟩,U⟩,λb Z=>?_,l,h⟩;simp only [List.mem_cons,List.not_mem_nil,or_false] at Z;rcases Z with rfl | rfl
   ·exact B5 R (Nat.le_succ _)
   ·exact B5 R (c5w _)
noncomputable def SIt (lc:Program) (w:World) (G:Gi) (n m:Nat) (c:Cx) (e:c6S) (it:It):Prop :=
 ∀ (A:Around) (s:Shared) (H:Hp) (r:En) (ld:Env) (Q:Src->Hp->Prop),AOk n m A->y5 G w H s.heap->Q3 G w ld c r H s.heap->it.iv (j3 G.F n) r H Q ->
  (∀ x,foldedSetIterable e ld x=pure x)/\wpAny (model lc w) A (eval e ld) (λx s1=>wpAny (model lc w) A (pyIter x) (a1I lc w G it.tup H s Q) A7 s1) A7 s
abbrev c69:=SIt lc w G n
theorem b1J {J:It} (g:Gok G c) (V:∀ e x,P6 k c e=some x->c6T m c e x) (B:a6f e=false) (h:(P6 k c e).map w7=some J):c69 m c e J:=by
 refine i9 (n5 h) λx Y b=>?_;subst b;intro A s H r Z Q U R F q;refine ⟨λv=>?_,l7 (V e x Y A s H r Z _ U R F q) λp v f i d O a=>c5d (a8M g.toGk O.rel d a) (λ_ _ z=>a1I.after O z) λ_ _ e=>e⟩;clear h Y;cases e <;> first | rfl | exact nomatch B
theorem a7O {w:It} (g:Gok G c) (V:∀ e x,P6 k c e=some x->c6T m c e x) (h:a5z (P6 k c) c e=some w):c69 m c e w:=by
 unfold a5z at h;cases B:a6f e with
 | true=>rw [B] at h;exact x9 h
 | false =>
  rw [B] at h;cases n:a3D e with
  | none=>rw [n] at h;exact b1J g V B h
  | some p =>
   rw [n] at h;obtain ⟨f,args⟩:=p;refine eEE (a34 n) λM pos T=>?_;subst T;replace h:b5X (P6 k c) c (.Call (.Name f M) args [] pos) f args=some w:=h;unfold b5X at h;cases J:v0 c f V3 with
   | true =>
    rw [J] at h;refine b3Y (K0 J) λW o i j=>?_;clear J n B;subst W;refine i9 (n5 h) λl U N=>?_;clear h;subst N;intro A s H r y Q Y R F q;refine ⟨λv=>rfl,?_⟩;refine eA (g.blt V3 (.type "range") rfl i j) λZ d=>wpAny_Call_NameR (wpAny_Name (a47 g R F o Z d ?_) (by decide +kernel))
    refine N3 (P:=G.K.In) (Q5 U) (λh _=>a04 (λa e=>by cases e) h) ?_
    refine l7 (a2d V args l U A s H r y pos _ Y R F q) (λvs us E s1 X O C=>⟨O.rel.In g,?_⟩);exact c5d (b29 O.rel X.1 C) (λ_ _ z=>c5d z (λ_ _ z=>a1I.after O z) λ_ _ e=>e) λ_ _ e=>e
   | false =>
    rw [J] at h;cases J:v0 c f a0O with
    | true =>
     rw [J] at h;refine b3Y (K0 J) λD o i j=>?_;clear J;subst D;refine i9 (g9 h) λa I h=>i9 (n5 h) λx t S=>?_;subst S;cases one?_some I;intro A s H r y Q Y R F q;refine ⟨λv=>rfl,?_⟩;refine eA (g.blt a0O (.type "enumerate") rfl i j) λZ d=>?_;have U:C9 (P6 k c) [a]=some [x]:=by show ((P6 k c a).bind λb=>some [b])=_;rw[t];rfl
     refine wpAny_Call_NameR (wpAny_Name (a47 g R F o Z d ?_) (by decide +kernel))
     refine N3 (P:=G.K.In) (Q5 U) (λh _=>a04 (λa e=>by cases e) h) ?_
     refine wpAny_items_cons (l7 (V a x t A s H r y _ Y R F q) (λv u E s1 ru O C=>wpAny_items_nil ⟨O.rel.In g,?_⟩)) (M5 λe' p L=>by clear U h I n B;subst L;exact a0u t)
     exact c5d (b5E O.rel ru C) (λ_ _ z=>c5d z (λ_ _ z=>a1I.after O z) λ_ _ e=>e) λ_ _ e=>e
    | false =>
     rw [J] at h;exact b1J g V B h
variable {v:f7}
theorem T9 {x:Nm}:(r.set x v) x=some v:=by unfold En.set;rw[(Nat.beq_refl ..)];rfl
theorem O7 {x y:Nm} (h:y≠x):(r.set x v) y=r y:=by unfold En.set;rw[(a9K h)];rfl
theorem b6L:FX ld ld.locals:=.inl rfl
noncomputable def XS (ld:Env) (c:Cx) (loc:Bool):Addr->Prop:=λa=>if loc then a=ld.locals else FX ld a
theorem XS.fx {q:Bool} (h:XS ld c q a):FX ld a:=by
 cases q with
 | true=>exact .inl h
 | false=>exact h
noncomputable def KS (c:Cx) (loc:Bool) (x:Str):Bool:=bif loc then X8 c x else c.var x
theorem a3c (h:X8 c x=true):c.names.lookup x=some .local:=c6u h
theorem KS.var {q:Bool} (h:KS c q x=true):c.kind x=.var:=by
 cases q with
 | true=>unfold Cx.kind;rw[(a3c h)];rfl
 | false=>exact a5B h
theorem a3v (j:Bool) {Q:Unit->Shared->Prop} (R:c6U H s.heap) (F:c6V ld c r H s.heap) (ks:KS c j x=true) (T:A1 x=true) (rv:j6 G s.heap v u)
  (q:∀ s',c6V ld c (r.set (nm x) v) H s'.heap->c64 (XS ld c j) H s H s'->Q () s'):wpAny c6W A (bindName ld x u) Q A7 s:=by
 refine wpAny_bindName ?_;have k:=KS.var ks;obtain ⟨kind,glob,blt,B,⟨mm,o,ho,hn,ns,W⟩,w,⟨o1,o2,o3⟩,inj,a1,Y⟩:=F;have i:∀ y,A1 y=true->c.dom.contains y=false->(r.set (nm x) v) (nm y)=none:=λy J hd=>by
  rw[(O7 λe=>by have:=O6 J T e;clear e q T ks;subst this;rw [Y y k] at hd;cases hd)]
  exact a1 y J hd
 have a4:∀ b,FX ld b->H b=none/\G.base b=none/\∃ o,s.heap.get? b=some o/\B9 o:=by
  rintro b (rfl | ⟨y,J⟩)
  ·exact ⟨o1,o2,o,ho,hn⟩
  ·exact S0 (o3 y b J) λI K m U f p4 p5=>⟨I,K,f,p4,λZ n e=>by rw [p5] at e;cases e⟩
 have l:Q7 (XS ld c j) s.heap:=λa o Z n hX O ec d=>by
  refine V7 (a4 a (XS.fx hX)) λ_ _ o' L M=>?_;rw [O] at L;have q3:=B8 L;clear L;subst q3;exact M _ _ d
 rcases a3f k with k | k
 ·refine wpAny_storeName_local (B _ _ k) ns (λh' a0 g=>?_) (by rw[kind];rfl)
  refine a1O (id a0) λo' a6 a5 S a2 rest=>?_;have a3:B9 o':=λZ n e=>by rw [a2] at e;cases e
  have C:=R.but (X:=XS ld c j) (h':=h') ho hn o1 o2 (by unfold XS;clear l q ks;cases j;exact b6L;rfl) g (by rw[S];rfl)
  have tup:∀ b Z,IsTup s.heap b Z->IsTup h' b Z:=λb Z t=>C.2.tup R l t;refine q {s with heap:=h',toks:=s.toks+1} ⟨kind,glob,blt,B,⟨_,o',S,a3,a0,λy p J V e=>?_⟩,λy V=>?_,⟨o1,o2,λy a e=>?_⟩,inj,i,Y⟩ ⟨C.1,C.2,rfl,rfl⟩
  ·by_cases h:y=x
   ·clear rest a0 k i q T ks;subst h;rw [T9] at e;have q1:=B8 e;clear e;subst q1;exact ⟨u,c58 rfl,rv.mono tup⟩
   ·rw [O7 λe=>h (O6 J T e)] at e;exact i9 (W y p J V e) λU O d=>⟨U,by rw[(c57 h)];exact O,d.mono tup⟩
  ·refine j8 (w y V) λa U O q6 M=>i9 q6 λf d L=>?_;clear q6;have E:=(o3 y a O).2.2.1;refine ⟨a,U,O,⟨f,(g.2 a E).trans d,L⟩,λJ p e=>?_⟩;rw [O7 λe=>by have:=O6 J T e;clear e rest a0 i q T ks;subst this;rw [k] at V;cases V] at e
   exact i9 (M J p e) λz N e6=>⟨z,N,e6.mono tup⟩
  ·exact S0 (o3 y a e) λI K m U f p4 p5=>⟨I,K,m,U,f,(g.2 a m).trans p4,p5⟩
 ·refine j8 (w x k) λa u0 O d L=>b3Y (o3 x a O) λI K m _=>wpAny_storeName_cell kind (B _ _ k) O d (λh' D g=>?_);refine i9 (id d) λf M N=>?_;have P:j=false:=by
   cases j with
   | false=>rfl
   | true=>rw [a3c ks] at k;cases k
  have C:=R.but (X:=XS ld c j) (h':=h') M (λZ n e=>by rw [N] at e;cases e) I K (by clear l q ks;subst P;exact .inr ⟨x,O⟩) g (Heap.IsCell.is D)
  have tup:∀ b Z,IsTup s.heap b Z->IsTup h' b Z:=λb Z t=>C.2.tup R l t;refine q {s with heap:=h'} ⟨kind,glob,blt,B,⟨mm,o,(g.2 _ (Ne.symm m)).trans ho,hn,ns.sameBut g (Ne.symm m),λy p J V e=>?_⟩,λy V=>?_,⟨o1,o2,λy b e=>?_⟩,inj,i,Y⟩ ⟨C.1,C.2,rfl,rfl⟩
  ·rw [O7 λe=>by have:=O6 J T e;clear e L O i q T ks;subst this;rw [k] at V;cases V] at e
   exact i9 (W y p J V e) λU O d=>⟨U,O,d.mono tup⟩
  ·by_cases h:y=x
   ·clear L k i q T ks;subst h;refine ⟨a,some u,O,D,λ_ p e=>?_⟩;rw [T9] at e;have q2:=B8 e;clear e;subst q2;exact ⟨u,rfl,rv.mono tup⟩
   ·refine j8 (w y V) λb U g1 q7 g4=>i9 q7 λf g2 g3=>?_;clear q7;have E:b≠a:=λe=>h (inj y x b g1 (e▸O));refine ⟨b,U,g1,⟨f,(g.2 b E).trans g2,g3⟩,λJ p e=>?_⟩;rw [O7 λe=>h (O6 J T e)] at e;exact i9 (g4 J p e) λz N e6=>⟨z,N,e6.mono tup⟩
  ·refine S0 (o3 y b e) λI K m U f p4 p5=>⟨I,K,m,?_⟩;by_cases h:b=a
   ·clear M g m K I d O;subst h;exact ⟨_,D⟩
   ·exact ⟨U,f,(g.2 b h).trans p4,p5⟩
theorem b6F {src:Src} {St:Nat->Heap->Prop} (t:A.handled=none) (f:c67 I wr src false St) (v:∀ i,src.next H i l[i]?) (own:∀ b∈wr,H b=none/\G.base b=none) :
  ∀ (k i:Nat) (s:Shared) (Q:List Value->Shared->Prop),c6U H s.heap->St i s.heap->i+k<=l.length ->
   (∀ us V,m5 G V.heap ((l.drop i).take k) us->c64 (·∈wr) H s H V->St (i+k) V.heap->Q us V)->wpAny c6W A (draw (.ref I) k) Q A7 s:=by
 intro k;induction k with
 | zero=>intro i s Q R d c q;exact c5c (q [] s (by rw[List.take_zero];exact .nil) (.refl R) d)
 | succ k w =>
  intro i s Q R d c q;have J:i < l.length:=by exact Nat.lt_of_add_right_lt c
  refine c5b (c5d (f.next A i s H _ t R d own (v i)) (λo D Z=>?_) λ_ _ e=>e);rw [List.getElem?_eq_getElem J] at Z;refine a23 Z λu y C B O _ _=>?_;clear Z;subst y;refine c5b (c5e (w (i+1) D _ B.rel (O rfl) (c3h c) λus E z U m=>c5c (q _ E ?_ (B.trans U) (by rw[(show i+(k+1)=i+1+k by exact b99)];exact m))))
  have r:l.drop i=l[i] :: l.drop (i+1):=List.drop_eq_getElem_cons J;rw[r];rw[List.take_succ_cons];refine .cons (U.ext.vrep B.rel (λa o L n p g F h=>?_) C) z;refine i9 (f.nons (i+1) _ (O rfl) a p) λK Y j=>?_;rw [g] at Y;have x:=B8 Y;clear Y;subst x;exact j _ _ h
variable {one:Bool}{tg:c6S}
theorem b24 (h:a1E H p l):itV p H λsrc q=>q=H/\∀ i,src.next H i l[i]?:=by
 rcases h with rfl | ⟨a,rfl,e⟩
 ·exact .inl ⟨l,rfl,rfl,λi=>rfl⟩
 ·exact .inr (.inr (.inl ⟨a,l,rfl,e,rfl,λi=>⟨l,e,rfl⟩⟩))
theorem b0p {v:Value} {Q:Bool->Shared->Prop} (R:c6U H s.heap) (B:j6 G s.heap p v) (h:a1E H p l) (q:Q false s):wpAny c6W A (notIterableAtAll v) Q A7 s:=by
 rcases h with rfl | ⟨a,rfl,e⟩
 ·replace B:=U0 B;refine j8 B λa U O t _=>?_;clear B;subst O;exact c5b (wpAny_specialOf t.typeIs PySem.F.slot_tuple_iter.lookup (c5c q))
 ·replace B:=P7 B;subst B;exact u6 (R.objs _ _ e) λU k J _=>c5b (wpAny_specialOf (a96 J) slot_list_iter.lookup (c5c q))
theorem a0v {v:Value} {Q:List Value->Shared->Prop} (g:Gk G) (C:A.handled=none) (R:c6U H s.heap) (F:j6 G s.heap p v) (h:a1E H p l) (Z:l.length=k)
  (q:∀ us j,m5 G j.heap l us->c64 O1 H s H j->Q us j):wpAny c6W A (unpackItems v k none) Q A7 s:=by
 refine c5b (b0p R F h ?_);refine c5b (c5e (c5d (a8M g R F (b24 h)) (λX s1 r=>?_) λ_ _ e=>e));clear h R;obtain ⟨I,w,src,St,J,rfl,i,P,y,K,rfl,D⟩:=r;have V:∀ b∈w,J b=none/\G.base b=none:=λb W=>(y b W).2;refine c5b (c5e (b6F C i D V k 0 s1 _ K.rel P (c1D Z) λus m E B z=>?_));have U:m5 G m.heap l us:=by rw [List.drop_zero,List.take_of_length_le (by exact Nat.le_of_eq Z)] at E;exact E
 have O:us.length=k:=by refine u7 U.length ?_;rw[Z];rfl
 rw[(c57 (by exact O▸c5U _))]
 refine c5b (c5e (c5d (i.next A (0+k) m J _ C B.rel z V (D _)) (λo t f=>?_) λ_ _ e=>e));rw [List.getElem?_eq_none (c1q Z)] at f;refine eA f λq6 Y=>?_;clear f;subst q6;have u:=B.trans Y;have ns:Q7 (·∈w) m.heap:=λa o vs n S L ec M=>by
  refine i9 (i.nons _ _ z a S) λo' c N=>?_;rw [L] at c;have q3:=B8 c;clear c;subst q3;exact N _ _ M
 have d:c64 O1 J s J t:=by
  have x:c64 (·∈w) J s J t:=(K.no).trans u;exact ⟨x.rel,x.ext.compress λa T=>.inr (y a T).1,x.gens,x.os⟩
 exact c5c (q us t (Y.ext.vreps B.rel ns U) d)
noncomputable def a1J (G:Gi) (w:World) (ld:Env) (c:Cx) (H:Hp) (s:Shared) (Q:En->Hp->Prop) (_:Unit) (s':Shared):Prop :=
 ∃ r' H',Q3 G w ld c r' H' s'.heap/\m6 G w (FX ld) H s H' s'/\Q r' H'
theorem a3i (F:c6V ld c r H h):Q7 (FX ld) h:=λa o j n U O e q=>by
 rcases U with rfl | ⟨y,Y⟩
 ·refine j8 F.loc λ_ f B V _=>?_;rw [O] at B;have b:=B8 B;clear B;subst b;exact V _ _ q
 ·refine S0 (F.own.2.2 y a Y) λ_ _ _ i g J Z=>?_;rw [O] at J;have d:=B8 J;clear J;subst d;rw [Z] at q;cases q
theorem a7w {q:Bool} (F:c6V ld c r H h):Q7 (XS ld c q) h:=λa o V n U B O J=>a3i F a o V n (XS.fx U) B O J
theorem b4Y (J:Bool):∀ (es:List c6S) (Y:List Nm) (l:List f7) (us:List Value) (s:Shared) (H:Hp) (r:En) (Q:Unit->Shared->Prop),a3y es=some Y->(es.all λe=>((W8 e).map (KS c J)).getD false)=true ->
  l.length=Y.length->c6U H s.heap->c6V ld c r H s.heap->m5 G s.heap l us ->
  (∀ m,c6V ld c (bindL Y l r) H m.heap->c64 (XS ld c J) H s H m->Q () m) ->
  wpAny c6W A (assignInOrder ((assignEach es ld).map (·.2)) us) Q A7 s:=by
 intro es;induction es with
 | nil =>
  intro Y l us s H r Q h _ Z R F B q;have D:=B8 h;clear h;subst D;cases l with
  | cons _ _=>exact nomatch Z
  | nil =>
   replace B:=a0D B;subst B;exact c5c (q s F (.refl R))
 | cons e es C =>
  intro Y l us s H r Q h f Z R F B q;refine j8 (y6 h) λa b d y k=>?_;subst k;refine i9 (g9 d) λx w d=>eE (a0E w) λp i=>?_;clear w;subst i;refine eA (A5 d) λz E=>?_;clear h d;subst E;refine eA (c6F f) λg f=>?_;cases l with
  | nil=>exact nomatch Z
  | cons v l =>
   replace B:=B6 B;revert B;intro V;refine j8 V λu U j I B=>?_;clear V;subst j;show wpAny _ _ (holding U (assign (.Name x p) ld u)>>=λ_=>assignInOrder ((assignEach es ld).map (·.2)) U) _ _ _;refine c5b (c5e ?_);rw[(arm_assign_Name ..)];refine c5b (c5g (a3v J R F g z I λK o O=>?_));exact C b l U K H _ Q y f (Nat.succ.inj Z) O.rel o (O.ext.vreps R (a7w F) B) λL t n=>q L t (O.trans n)
theorem b37:∀ {es:List c6S} {q:List Nm} {ld:Env},a3y es=some q->(assignEach es ld).findIdx? (·.1)=none/\(assignEach es ld).length=q.length:=by
 intro es;induction es with
 | nil=>intro q ld h;have c:=B8 h;clear h;subst c;exact ⟨rfl,rfl⟩
 | cons e es Z =>
  intro q ld h;refine j8 (y6 h) λa b U Y O=>?_;subst O;refine i9 (g9 U) λx B U=>eE (a0E B) λp J=>?_;clear B h U;subst J;obtain ⟨B,V⟩:=Z Y;show ((false,assign (.Name x p) ld) :: assignEach es ld).findIdx? (·.1)=none/\((false,assign (.Name x p) ld) :: assignEach es ld).length=_;refine b9 List.findIdx?_cons ?_;exact ⟨by rw[B];rfl,c5z (·+1) V⟩
theorem b5S (B:Bool) {r f:En} {t:List Nm} {Q:Unit->Shared->Prop} (g:Gk G) (z:A.handled=none) (h:a0X tg=some (t,one)) (d:W7 (KS c B) tg=true) (b:a0F t one v r f)
  (R:c6U H s.heap) (F:c6V ld c r H s.heap) (i:j6 G s.heap v u) (q:∀ V,c6V ld c f H V.heap->c64 (XS ld c B) H s H V->Q () V):wpAny c6W A (assign tg ld u) Q A7 s:=by
 cases tg with
 | Name x p =>
  refine i9 (n5 h) λa w e=>?_;cases e;refine eA (A5 w) λC E=>?_;clear h w;subst E;rcases b with ⟨_,y,D,rfl⟩ | ⟨U,_⟩
  ·cases D;rw[(arm_assign_Name ..)];exact c5b (c5g (a3v B R F d C i q))
  ·exact nomatch U
 | Tuple m k p =>
  refine i9 (n5 h) λM O e=>?_;clear h;cases e;rcases b with ⟨U,_⟩ | ⟨_,l,rfl,J,rfl⟩
  ·exact nomatch U
  ·rw[(arm_assign_Tuple ..)];refine eA (b37 (ld:=ld) O) λn o=>c5b (c5g ?_);unfold unpack;rw[n];rw[o];refine c5b (c5e (a0v g z R i (.inl rfl) J λus K I Y=>?_));exact b4Y B m t l us K H r Q O d J Y.rel (F.step R Y) I λL j Z=>q L j (Y.no.trans Z)
 | _=>exact x9 h
variable {l:List Int}{must:List Str}{acc:List f7}
noncomputable def Q8 (ld:Env):List (Str×NameKind)->List (Str×Addr)->List (Str×Addr)
 | [],acc=>acc
 | (x,k) :: r,acc=>if k==.free then Q8 ld r ((x,(ld.cells.lookup x).getD 0) :: acc) else Q8 ld r acc
theorem a35:∀ (l:List (Str×NameKind)) (acc:List (Str×Addr)),(∀ p∈l,p.2=.free->(ld.cells.lookup p.1).isSome=true)->(∀ x a,acc.lookup x=some a->ld.cells.lookup x=some a)->∀ x a,(Q8 ld l acc).lookup x=some a->ld.cells.lookup x=some a:=by
 intro r;induction r with
 | nil =>
  intro acc _ h x a e;exact h x a e
 | cons c r U =>
  intro acc J h x a e;obtain ⟨y,k⟩:=c;unfold Q8 at e
  split at e
  ·rename_i Y;refine U _ (λp B=>J p (c5t _ B)) (λz b e=>?_) x a e;rw [List.lookup_cons] at e
   split at e
   ·rename_i Z;have:=c6u Z;clear Z;subst this;have V:=J (z,k) c5u (by simpa using Y)
    refine eE (c6J V) λq O=>?_;simp only at O;rw [O] at e ⊢;exact e
   ·exact h z b e
  ·exact U acc (λp B=>J p (c5t _ B)) h x a e
theorem a9Q:∀ (l:List (Str×NameKind)) (acc:List (Str×Addr)) (x:Str),(acc.lookup x).isSome=true->((Q8 ld l acc).lookup x).isSome=true:=by
 intro r;induction r with
 | nil =>
  intro acc x h;exact h
 | cons B r q =>
  intro acc x h;obtain ⟨y,k⟩:=B;unfold Q8
  split
  ·refine q _ x ?_;rw[c6c];split
   ·rfl
   ·exact h
  ·exact q acc x h
theorem b15:∀ (l:List (Str×NameKind)) (acc:List (Str×Addr)) (x:Str),(x,NameKind.free)∈l->((Q8 ld l acc).lookup x).isSome=true:=by
 intro l;induction l with
 | nil=>intro acc x h;exact (c5P h).elim
 | cons z r q =>
  intro acc x h;obtain ⟨y,k⟩:=z;unfold Q8;rcases c6K h with e | h
  ·clear h;cases e;refine a9Q r _ _ ?_;rw[c6c];simp
  ·split <;> exact q _ x h
theorem a9R {q:Scope} (c:∀ p∈q.names,p.2=.free->(ld.cells.lookup p.1).isSome=true):closureFor q ld=pure (Q8 ld q.names []):=by
 simp only [closureFor];have V:∀ (l:List (Str×NameKind)) (acc:List (Str×Addr)),(∀ p∈l,p.2=.free->(ld.cells.lookup p.1).isSome=true) ->
   (forIn l acc λ(x:Str×NameKind) r=>match x with | (name,kind)=>if (kind==NameKind.free)=true then do let a<-cellOf ld name;pure (ForInStep.yield ((name,a) :: r)) else pure (ForInStep.yield r))=(pure (Q8 ld l acc):Sem _):=by
  intro l;induction l with
  | nil=>intro acc _;rfl
  | cons p l Y =>
   intro acc O;obtain ⟨x,k⟩:=p;rw[(List.forIn_cons ..)];unfold Q8;by_cases J:(k==NameKind.free)=true
   ·have b:=O (x,k) c5u (by simpa using J)
    refine eE (c6J b) λa B=>?_;simp only at B;have Z:cellOf ld x=pure a:=by unfold cellOf;rw[B];rfl
    simp only [J,if_true,Z,B,Option.getD_some,pure_bind];exact Y _ λp U=>O p (c5t _ U)
   ·simp only [J,if_false,pure_bind];exact Y _ λp U=>O p (c5t _ U)
 have:=V q.names [] c
 first
  | (rw[this];rfl)
  | (simp only [this,pure_bind])
  | simpa using this
noncomputable def S5 (must:List Str) (r:En):En:=λy=>if y∈must.map nm then Option.none else r y
theorem a1j {q:Scope} (h:a1i c q must=true):q.kind=.function/\(∀ p∈q.names,p.2≠.cell/\(p.2=.free->c.names.lookup p.1=some .cell)/\(p.2=.local->q.names.lookup p.1=some .local)) /\
  ∀ p∈a5k q,p.2=.local->must.contains p.1=true\/c.dom.contains p.1=false:=by
 unfold a1i at h;simp only [Bool.and_eq_true,beq_iff_eq,List.all_eq_true,Bool.or_eq_true,bne_iff_ne,ne_eq,Bool.not_eq_true'] at h;refine eA h λJ Y=>?_;clear h;refine eA J λU V=>?_;clear J;refine ⟨U,λp B=>?_,λp B Z=>?_⟩
 ·refine eA (V p B) λO d=>eA O λa b=>?_;clear O;exact ⟨a,λe=>b.resolve_left (λz=>z e),λe=>d.resolve_left (λz=>z e)⟩
 ·rcases Y p B with (a | a) | a
  ·exact c59 Z a
  ·exact .inl a
  ·exact .inr a
theorem N7 {α:Type} {l:List (Str×α)} {k:α} (h:l.lookup x=some k):(x,k)∈l:=mem_of_lookup h
theorem a1A {V:Scope} {k:NameKind} (h:(sub c V).names.lookup x=some k):x≠a3r/\∃ q,(x,q)∈V.names/\V.names.lookup x=some q/\(if q=.free/\c.names.lookup x=some .cell then k=.cell else k=q):=by
 have f:∀ l:List (Str×NameKind),(T8 c (l.filter λp=>p.1 != a3r)).lookup x=some k->x≠a3r/\∃ q,(x,q)∈l/\l.lookup x=some q/\(if q=.free/\c.names.lookup x=some .cell then k=.cell else k=q):=by
  intro l;induction l with
  | nil=>intro h;simp [T8] at h
  | cons p l g =>
   intro h;obtain ⟨y,B⟩:=p;by_cases U:y=a3r
   ·have e:((y,B) :: l).filter (λp=>p.1 != a3r)=l.filter λp=>p.1 != a3r:=by
     (rewrite [List.filter_cons_of_neg];try rfl);simp [U]
    rw [e] at h;refine a02 (g h) λJ q Y Z a=>⟨J,q,c5t _ Y,?_,a⟩;rw[c6c];have:(x==y)=false:=by simpa [U] using J
    rw[this];exact Z
   ·have e:((y,B) :: l).filter (λp=>p.1 != a3r)=(y,B) :: l.filter λp=>p.1 != a3r:=by
     (rewrite [List.filter_cons_of_pos];try rfl);simpa using U
    rw [e] at h;unfold T8 at h;rw [List.map_cons,List.lookup_cons] at h;by_cases b:x=y
    ·clear e;subst b;refine ⟨U,B,c5u,by simp,?_⟩
     simp only at h;by_cases O:B=.free/\c.names.lookup x=some .cell
     ·rw[(c58 O)];have:(B==NameKind.free&&c.names.lookup x==some NameKind.cell)=true:=by simp [O.1,O.2]
      rw [this] at h;simpa using h.symm
     ·rw[(c57 O)];have:(B==NameKind.free&&c.names.lookup x==some NameKind.cell)=false:=by
       refine D5 (Bool.and_eq_false_iff ..) ?_;by_cases J:B=.free
       ·right;simpa using λe=>O ⟨J,e⟩
       ·left;simpa using J
      rw [this] at h;simpa using h.symm
    ·have d:(x==(if (B==NameKind.free&&c.names.lookup y==some NameKind.cell)=true then (y,NameKind.cell) else (y,B)).1)=false:=by
      split <;> simpa using b
     simp only at h;rw [d] at h;refine a02 (g h) λJ q Y Z a=>⟨J,q,c5t _ Y,?_,a⟩;rw[c6c];have:(x==y)=false:=by simpa using b
     rw[this];exact Z
 exact f V.names h
variable {t:List Nm}{sc:Scope}
theorem a49 {α:Type} (f:Str×α->Str×α) (q:∀ p,(f p).1=p.1):∀ (l:List (Str×α)) (x:Str),(l.map f).lookup x=(l.lookup x).map λk=>(f (x,k)).2:=by
 intro l;induction l with
 | nil =>
  intro x;exact rfl
 | cons J l B =>
  intro x;obtain ⟨y,k⟩:=J;rw[c6a];rw[c6c];have e:f (y,k)=(y,(f (y,k)).2):=Prod.ext (q (y,k)) rfl;rw[e];by_cases h:x=y
  ·clear e;subst h;simp
  ·have:(x==y)=false:=by simpa using h
   rw[this];rw[c6c];rw[this];exact B x
theorem a6e {y:Nm} (h:r y=Option.none):S5 must r y=Option.none:=by unfold S5;split <;> first | rfl | exact h
theorem b2m (h:must.contains x=true):S5 must r (nm x)=Option.none:=by
 unfold S5;(rewrite [if_pos];try rfl);exact List.mem_map_of_mem (List.contains_iff_mem.mp h)
theorem b3P {H l:Hp} {h B:Heap} {C:Addr} (F:c6V ld c r H h) (R:c6U H h) (ok:a1i c sc must=true) (x:Ext O1 H h l B) (T:h.get? C=none) (j:B.Ns C λ_=>none) (P:l C=none) (Q:G.base C=none) :
  c6V (compEnvC sc (Q8 ld sc.names []) C ld) (sub c sc) (S5 must r) l B:=by
 refine eAA (a1j ok) λI Y K=>?_;have L:=F.ext R x;have Z:∀ y a,ld.cells.lookup y=some a->True:=λ_ _ _=>trivial;have V:∀ p∈sc.names,p.2=.free->(ld.cells.lookup p.1).isSome=true:=λp X e=>by
  refine u6 (F.cel p.1 ((Y p X).2.1 e)) λa u B _=>?_;rw[B];rfl
 have sound:=a35 (ld:=ld) sc.names [] V (λx a e=>by cases e)
 have O:∀ y,(sub c sc).names.lookup y=some .cell->c.names.lookup y=some .cell/\(y,NameKind.free)∈sc.names:=λy e=>by
  refine a02 (a1A e) λ_ i d t q=>?_
  split at q
  ·rename_i J;exact ⟨J.2,J.1▸d⟩
  ·rename_i J;clear J t;subst q;exact c59 rfl (Y _ d).1
 refine ⟨?_,F.glob,F.blt,λy k e=>?_,?_,λy e=>?_,⟨P,Q,λy a e=>?_⟩,λy z a m s=>F.inj y z a (sound y a m) (sound z a s),λy g w=>?_,λy A=>?_⟩
 ·exact I
 ·refine a02 (a1A e) λB i d t q=>?_;show ((relabel sc ld).names.lookup y)=some k;unfold relabel
  (rewrite [a49 _ (λp=>by obtain ⟨a,b⟩:=p;dsimp only;split <;> rfl)];rw[t])
  simp only [Option.map_some];by_cases f:i=.free
  ·have J:=(Y _ d).2.1 f;rw [if_pos ⟨f,J⟩] at q;have:(i==NameKind.free&&ld.scope.kind==ScopeKind.function&&ld.kindOf y==some NameKind.cell)=true:=by
    rw[F.kind];rw[(F.kinds y _ J)];rw[f];rfl
   rw[this];simp [q]
  ·rw [if_neg (λz=>f z.1)] at q;have:(i==NameKind.free)=false:=by simpa using f
   rw[this];simp [q]
 ·refine a1O (id j) λo es ep W w rest=>?_;have E:B9 o:=λvs n e=>by rw [w] at e;cases e
  refine ⟨λ_=>Option.none,o,W,E,j,λy v g A e=>?_⟩;exfalso;refine a02 (a1A A) λB i d t q=>?_
  split at q
  ·cases q
  ·clear t;subst q;have hm:(y,NameKind.local)∈a5k sc:=List.mem_filter.mpr ⟨d,by simpa using B⟩
   rcases K _ hm rfl with a | a
   ·rw [b2m a] at e;cases e
   ·rw [a6e (F.dom y g a)] at e;cases e
 ·refine eA (O y e) λJ hm=>j8 (L.cel y J) λa u m s S=>?_;have hs:=b15 (ld:=ld) sc.names [] y hm;refine eE (c6J hs) λb N=>?_;have:=sound y b N;rw [m] at this;have q1:=B8 this;clear this;subst q1;refine ⟨a,u,N,s,λg v e=>S g v ?_⟩;unfold S5 at e
  split at e
  ·cases e
  ·exact e
 ·refine b06 (L.own.2.2 y a (sound y a e)) λp1 p2 p3 u hu=>⟨p1,p2,?_,u,hu⟩;intro U;refine S0 (F.own.2.2 y _ (sound y _ e)) λ_ _ _ u0 o0 M _=>?_;replace U:a=C:=U;rw [U,T] at M;cases M
 ·refine a6e (F.dom y g ?_);have:(c.dom++a2V (T8 c (a5k sc))).contains y=false:=w;rw [List.contains_eq_mem,decide_eq_false_iff_not,List.mem_append,not_or] at this;rw[(List.contains_eq_mem ..)];refine D5 (decide_eq_false_iff_not ..) ?_;exact this.1
 ·have D:=a3f A;have hm:(y,NameKind.local)∈T8 c (a5k sc)\/(y,NameKind.cell)∈T8 c (a5k sc):=D.imp N7 N7;show (c.dom++a2V (T8 c (a5k sc))).contains y=true;refine D5 (List.contains_iff_mem ..) ?_;refine D5 (List.mem_append ..) ?_
  right
  unfold a2V;refine D5 (List.mem_map ..) ?_;rcases hm with hm | hm
  ·exact ⟨_,List.mem_filter.mpr ⟨hm,rfl⟩,rfl⟩
  ·exact ⟨_,List.mem_filter.mpr ⟨hm,rfl⟩,rfl⟩
variable {ifs:List c6S}
theorem Q3.sub {r d:En} (F:c6V ld c d H h) (Y:∀ y v,r y=some v->d y=some v):c6V ld c r H h:=by
 obtain ⟨kind,glob,blt,q,⟨m,o,l,k,n,Z⟩,O,b,inj,U,J⟩:=F;refine ⟨kind,glob,blt,q,⟨m,o,l,k,n,λy v B V e=>Z y v B V (Y _ _ e)⟩,λy V=>?_,b,inj,λy B j=>?_,J⟩
 ·exact j8 (O y V) λa u f g i=>⟨a,u,f,g,λB v e=>i B v (Y _ _ e)⟩
 ·cases e:r (nm y) with
  | none=>rfl
  | some v=>have:=Y _ _ e;rw [U y B j] at this;cases this
theorem a6A {r q:En} {t:Nm} {B:List Nm} (h:∀ y,y∉t :: B->q y=r y) (y:Nm) (J:y∉B):(q.set t v) y=(r.set t v) y:=by
 by_cases e:y=t
 ·clear h;subst e;rw[T9];rw[T9];rfl
 ·rw[(O7 e)];rw[(O7 e)];exact h y λz=>(c6K z).elim e J
theorem a90:∀ (q:List Nm) (l:List f7) (r J:En),l.length=q.length->(∀ y,y∉q->J y=r y)->bindL q l J=bindL q l r:=by
 intro q;induction q with
 | nil =>
  intro _ r J _ h;exact funext λy=>h y c5P
 | cons _ q O =>
  intro U;cases U with
  | cons _ l =>
   intro _ _ B h;exact O l _ _ (Nat.succ.inj B) (a6A h)
  | nil =>
   intro _ _ B _;exact nomatch B
theorem a8a {r B O:En} (h:a0F t one v r O) (ha:∀ y,y∉t->B y=r y):a0F t one v B O:=by
 rcases h with ⟨q,x,rfl,rfl⟩ | ⟨q,l,U,J,rfl⟩
 ·exact .inl ⟨q,x,rfl,funext λy=>(a6A ha y c5P).symm⟩
 ·exact .inr ⟨q,l,U,J,(a90 _ l r B J ha).symm⟩
theorem a8G:∀ (q:List Nm) (l:List f7) (r:En) (y:Nm),y∉q->bindL q l r y=r y:=by
 intro q;induction q with
 | nil =>
  intro _ r y _;exact rfl
 | cons t q B =>
  intro J;cases J with
  | nil =>
   intro r y _;exact rfl
  | cons v l =>
   intro r y h;exact (B l _ y λz=>h (c5t _ z)).trans (O7 λe=>h (e▸c5u))
theorem a52 {r B:En} (h:a0F t one v r B) {y:Nm} (q:y∉t):B y=r y:=by
 rcases h with ⟨J,x,rfl,rfl⟩ | ⟨J,l,O,U,rfl⟩
 ·exact O7 λe=>q (e▸c5u)
 ·exact a8G _ _ _ _ q
theorem b4X:∀ {es:List c6S} {t:List Nm},a3y es=some t->(es.filterMap W8).map nm=t:=by
 intro es;induction es with
 | nil=>intro t h;have U:=B8 h;clear h;subst U;rfl
 | cons e es O =>
  intro t h;refine j8 (y6 h) λa b q J V=>?_;clear h;subst V;refine i9 (g9 q) λx B q=>?_;rw[(List.filterMap_cons_some B)];rw[c6a];rw[(O J)];rw[((A5 q).2)];rfl
theorem R7 (h:a0X tg=some (t,one)):(a0t tg).map nm=t:=by
 cases tg with
 | Name x p =>
  refine i9 (n5 h) λa B e=>?_;clear h;cases e;exact c5z (λx=>[x]) (A5 B).2
 | Tuple J k p =>
  refine i9 (n5 h) λO q e=>?_;clear h;cases e;exact b4X q
 | _=>exact x9 h
noncomputable def c3t (G:Gi) (w:World) (H:Hp) (s:Shared) (Q:Bool->Hp->Prop) (b:Bool) (s':Shared):Prop:=∃ H',m6 G w O1 H s H' s'/\Q b H'
theorem a9t:∀ (ifs:List c6S) (s:Shared) (Q:Bool->Shared->Prop),Q false s ->
  wpAny c6W A (forIn ifs false λc r=>if r=true then do let ok<-isTrue c ld (eval c ld);pure (ForInStep.yield ok) else pure (ForInStep.yield r)) Q A7 s:=by
 intro ifs;induction ifs with
 | nil=>intro s Q h;rw[List.forIn_nil];exact c5c h
 | cons e ifs q =>
  intro s Q h;rw[(List.forIn_cons ..)];exact c5b (c5c (q s Q h))
theorem b5Q (i:∀ e x,trC k c e=some x->c60 m c e x):∀ (ifs:List c6S) (l:List Cv),C9 (trC k c) ifs=some l->∀ (s:Shared) (H:Hp) (Q:Bool->Hp->Prop),AOk n m A->c6U H s.heap->c6V ld c r H s.heap ->
  (a1G l) c61 r H Q ->
  wpAny c6W A (forIn ifs true λc r=>if r=true then do let ok<-isTrue c ld (eval c ld);pure (ForInStep.yield ok) else pure (ForInStep.yield r)) (c3t G w H s Q) A7 s:=by
 intro ifs;induction ifs with
 | nil =>
  intro l h s H Q J R F q;have O:=B8 h;clear h;subst O;rw[List.forIn_nil];exact c5c ⟨H,.refl R,q⟩
 | cons e ifs o =>
  intro l h s H Q J R F q
  ·refine j8 (y6 h) λx t j g u=>?_;clear h;subst u;rw[(List.forIn_cons ..)];refine c5b (c5b (l7 (i e x j A s H r ld _ J R F q) (λp b Y a U B Z=>c5c ?_)));have U:p=b:=U;subst U;cases p with
   | true=>exact c5d (o t g a Y Q J B.rel (F.step R B) (Z.1 rfl)) (λb v d=>by refine i9 d λf V O=>?_;clear d;exact ⟨f,B.trans V,O⟩) λ_ _ e=>e
   | false=>exact a9t ifs a _ ⟨Y,B,Z.2 rfl⟩
variable {x:Ev}{cenv:Env}
theorem Q3.extX {H i:Hp} {h h':Heap} (F:c6V ld c r H h) (R:c6U H h) (x:Ext X H h i h') (nt:Q7 X h) (j:∀ a,X a->¬ FX ld a):c6V ld c r i h':=by
 obtain ⟨kind,glob,blt,q,⟨K,o,O,I,l,Z⟩,U,⟨f,L,m⟩,inj,V,J⟩:=F;have d:¬ X ld.locals:=λz=>j _ z (.inl rfl);have b:∀ y a,ld.cells.lookup y=some a->¬ X a:=λy a e z=>j _ z (.inr ⟨y,e⟩);refine ⟨kind,glob,blt,q,⟨K,o,x.keep _ _ O f d,I,?_,λy v a k e=>?_⟩,λy k=>?_,⟨x.none f (by rw[O];rfl) d,L,λy a e=>?_⟩,inj,V,J⟩
 ·refine a36 l λS G E e rest=>?_;clear l;rw [O] at e;have Q:=B8 e;clear e;subst Q;exact ⟨o,G,E,x.keep _ _ O f d,rest⟩
 ·exact i9 (Z y v a k e) λu B Y=>⟨u,B,x.vrep R nt Y⟩
 ·refine j8 (U y k) λa u B s A=>i9 s λg Y w=>?_;clear s;refine ⟨a,u,B,⟨g,x.keep _ _ Y (m y a B).1 (b y a B),w⟩,λt v e=>?_⟩;exact i9 (A t v e) λz C D=>⟨z,C,x.vrep R nt D⟩
 ·exact S0 (m y a e) λn M N u g p P=>⟨x.none n (by rw[p];rfl) (b y a e),M,N,u,g,x.keep _ _ p n (b y a e),P⟩
inductive AK | list | dict (κ:Nat)
noncomputable def b3v:AK->List f7->N2->Prop
 | .list,acc,mo=>mo=.list acc
 | .dict κ,acc,mo=>∃ l ep,acc=l.map a0q/\(∀ p∈l,D7 7 p.1=true/\G8 p.1=κ)/\mo=.dict (A9 l) ep
noncomputable def Acc (ak:AK) (G:Gi) (w:World) (H:Hp) (h:Heap) (D:Addr) (acc:List f7):Prop:=∃ mo,b3v ak acc mo/\a2B G w h D mo/\H D=none/\G.base D=none
theorem Acc.ext {B:AK} {H q:Hp} {h h':Heap} (a:Acc B G w H h D acc) (R:c6U H h) (x:Ext X H h q h') (nt:Q7 X h) (O:¬ X D):Acc B G w q h' D acc:=by
 refine J9 a λZ e r J V=>?_;clear a;exact i9 r.at_ λo U _=>⟨Z,e,r.mono (λ_ _=>x.tup R nt) λo Y=>x.keep _ _ Y J O,x.none J (by rw[U];rfl) O,V⟩
theorem Acc.nt {B:AK} (a:Acc B G w H h D acc):Q7 (·=D) h:=λb o i n U q J Z=>by
 refine J9 a λf e r c d=>?_;clear a;refine i9 r.at_ λg O V=>?_;rw [show b=D from U,O] at q;have Y:=B8 q;clear q Z;subst Y;exact V J
theorem b3x {h':Heap} {t:Nat} (R:c6U H s.heap) (U:H D=none) (V:G.base D=none) (q:Heap.SameBut D s.heap h') (tup:∀ b vs,IsTup s.heap b vs->IsTup h' b vs):c64 (·=D) H s H {s with heap:=h',toks:=t}:=by
 refine ⟨⟨λb o e=>?_,λb Y e=>?_⟩,⟨λb o e _ g=>(q.2 b g).trans e,λ_ e=>.inl e,λ_ e=>e,λb e g=>?_⟩,rfl,rfl⟩
 ·exact eA (R.base b o e) λB J=>⟨(q.2 b (by clear q U;rintro rfl;rw [V] at e;cases e)).trans B,J⟩
 ·exact (R.objs b Y e).mono tup λo O=>(q.2 b (by clear q V;rintro rfl;rw [U] at e;cases e)).trans O
 ·rw[(q.2 b g)];exact e
theorem b3w {x:f7} (a:Acc .list G w H s.heap D acc) (R:c6U H s.heap) (k:j6 G s.heap x u) (hz:acc.length<=2 * n8)
  (q:∀ U,Acc .list G w H U.heap D (acc++[x])->c64 (·=D) H s H U->Q .none U):wpAny c6W A (call (.builtin "list.append") [.ref D,u]) Q A7 s:=by
 refine J9 a λl j d Y Z=>?_;clear a;subst j;refine u6 d λB z O r=>?_;clear d;have h:acc.length=B.size:=by rw[r.length];rw[c5V];rfl
 refine call_meets PySem.F.slot_list_append (a96 O) PySem.F.entry_list_append (PySem.F.args_list_append_2 _ _) (list_append D B z u (by refine u7 h ?_;rw[sizeLine_eq];unfold n8 at hz;exact c5r hz (c5o rfl))) ⟨O,?_⟩
 have J:=IsL.update O (λx=>x.push u);have c:Heap.SameBut D s.heap (s.heap.update D (Obj.mapSeq λx=>x.push u)):=c5m ..;have tup:∀ b B,IsTup s.heap b B->IsTup (s.heap.update D (Obj.mapSeq λx=>x.push u)) b B:=λb B f=>by
  refine K8 f λo e V n g=>?_;clear f;refine ⟨o,(c.2 b ?_).trans e,V,n,g⟩
  clear c J Z Y q;rintro rfl
  rw [O] at e;have i:=B8 e;clear e g;subst i;simp at V
 exact q _ ⟨_,rfl,⟨B.push u,_,J,by rw[Array.toList_push];exact (r.mono tup).append (.cons (k.mono tup) .nil)⟩,Y,Z⟩ (b3x (t:=s.toks) R Y Z c tup)
structure Cl (G:Gi) (w:World) (cenv:Env) (wr:List Addr) (D:Addr):Prop where
 dw:D∉wr
 dj:∀ b∈wr,¬ FX cenv b
 dd:¬ FX cenv D
noncomputable def CX (cenv:Env) (wr:List Addr) (D:Addr):Addr->Prop:=λa=>a∈wr\/a=D\/a=cenv.locals
structure Inv (lc:Program) (w:World) (G:Gi) (c':Cx) (cenv:Env) (r0:En) (D:Addr) (H:Hp) (s:Shared) (acc:List f7):Prop where
 rel:y5 G w H s.heap
 frm:Q3 G w cenv c' r0 H s.heap
 acc:Acc .list G w H s.heap D acc
noncomputable def YX (cenv:Env) (D:Addr):Addr->Prop:=λa=>a=D\/a=cenv.locals
abbrev c7b:=Inv lc w G
theorem a9a {H B:Hp} {s O:Shared} (st:c64 X H s B O) (own:∀ b∈wr,H b=none/\G.base b=none) (there:∀ b∈wr,∃ o,s.heap.get? b=some o/\B9 o) (J:∀ b∈wr,¬ X b):∀ b∈wr,B b=none/\G.base b=none:=λb q=>by
 exact i9 (there b q) λo e _=>⟨st.ext.none (own b q).1 (by rw[e];rfl) (J b q),(own b q).2⟩
theorem a4z {src:Src} {tup:Bool} {St:Nat->Heap->Prop} {i:Nat} {H J:Hp} {s B:Shared} (U:c67 I wr src tup St) (R:c6U H s.heap) (h:St i s.heap) (st:c64 X H s J B) (own:∀ b∈wr,H b=none/\G.base b=none) (O:∀ b∈wr,¬ X b) (nt:Q7 X s.heap):St i B.heap :=
 U.frame i _ _ h (λb q o e=>st.ext.keep b o e (own b q).1 (O b q)) λa V t=>st.ext.tup R nt t
theorem Inv.noTup {O:Cx} (I:c7b O cenv r D H s acc):Q7 (YX cenv D) s.heap:=λa o c n V B U J=>by
 rcases V with rfl | rfl
 ·exact I.acc.nt _ _ _ _ rfl B U J
 ·refine j8 I.frm.loc λ_ b q Y _=>?_;rw [B] at q;have Z:=B8 q;clear q;subst Z;exact Y _ _ J
theorem a5g {src:Src} {tup:Bool} {St:Nat->Heap->Prop} {i:Nat} (V:c67 I wr src tup St) (st:St i h):Q7 (·∈wr) h:=λa o b n U B _ J=>by
 refine i9 (V.nons _ _ st a U) λZ q O=>?_;rw [B] at q;have Y:=B8 q;clear q;subst Y;exact O _ _ J
theorem Inv.back {r B:En} {q:Cx} (I:c7b q cenv r D H s acc) (h:∀ y v,B y=some v->r y=some v):c7b q cenv B D H s acc:=⟨I.rel,I.frm.sub h,I.acc⟩
theorem a53 {B O:En} (q:∀ y∈t,B y=none) (V:a0F t one v B O) (y:Nm) (U:f7) (e:B y=some U):O y=some U:=by
 by_cases J:y∈t
 ·rw [q y J] at e;cases e
 ·rw[(a52 V J)];exact e
noncomputable def b0Z (lc:Program) (w:World) (A:Around) (c0:Code) (I:Addr) (tg:c6S) (cenv:Env) (rest:Sem Fin):Prop :=
 ∀ (s:Shared) (Q:Fin->Shared->Prop),wpAny (model lc w) A (pyNext (.ref I)) (λo s1=>match o with
   | none=>Q (.done .next) s1
   | some u=>wpAny (model lc w) A (letOwnedTupleGo tg (.ref I) u) (λ_ s2=>wpAny (model lc w) A (assign tg cenv u) (λ_ s3=>wpAny (model lc w) A rest Q A7 s3) A7 s2) A7 s1) A7 s ->
  wpAny (model lc w) (A.under c0) ((model lc w).den c0) Q (λ_ _=>False) s
theorem a3E {m:Cx} {c0:Code} {src:Src} {tup:Bool} {St:Nat->Heap->Prop} {rest:Sem Fin} {X:En} {R:Result->Shared->Prop}
  {c:f7->Hp->(List f7->Hp->Prop)->Prop} {body:En->Hp->(List f7->Hp->Prop)->Prop} (g:Gk G) (hh:A.handled=none) (hq:c0.quiet=true) (hT:b0Z lc w A c0 I tg cenv rest) (F:c67 I wr src tup St) (d:Cl G w cenv wr D)
  (a5:a0X tg=some (t,one)) (N:W7 (X8 m) tg=true) (S:tup=true->a7k tg=true) (z:∀ v H P,c v H P->∃ l,a0F t one v X l/\body l H P) {pre:List f7} (a9:pre.length<=n8)
  (C:∀ (s:Shared) (H:Hp) (l:En) (v:f7) (acc:List f7) (P:List f7->Hp->Prop),c7b m cenv l D H s acc->acc.length<=pre.length+n8->a0F t one v X l->body l H P ->
   wpAny c6W A rest (λk Y=>k=.again c0/\∃ xs j,c7b m cenv X D j Y (acc++xs)/\c64 (YX cenv D) H s j Y/\P xs j) A7 s) :
  ∀ (nf i:Nat) (acc:List f7) (s:Shared) (H:Hp) (Q:List f7->Hp->Prop),c7b m cenv X D H s (pre++acc)->St i s.heap->(∀ b∈wr,H b=none/\G.base b=none)->a01 c src nf i acc H Q ->
   (∀ U j Y,c7b m cenv X D j Y (pre++U)->c64 (CX cenv wr D) H s j Y->Q U j->R (.ok .next) Y)->codeAny c6W A c0 R s:=by
 intro nf;induction nf with
 | zero=>intro _ _ _ _ _ _ _ _ q _;exact q.elim
 | succ nf ih =>
  intro i acc s H Q J st V q hR;refine p9 q λo hn q1 q2=>?_;clear q;refine codeAny_of_tree (c5d (hT s (λk Y=>match k with | .done f=>R (.ok f) Y | .again c1=>c1.quiet=true/\codeAny c6W A c1 R Y) ?_) (λ_ _ h=>h) λ_ _ e=>e.elim)
  cases o with
  | none =>
   refine c5d (F.next A i s H none hh J.rel st V hn) (λo s1 L=>?_) λ_ _ e=>e;refine eA L λq4 B=>?_;clear L;subst q4;have nt:=a5g F st;exact hR acc H s1 ⟨B.rel,J.frm.extX J.rel B.ext nt d.dj,J.acc.ext J.rel B.ext nt d.dw⟩ (B.weaken λa h=>.inl h) (q1 rfl)
  | some v =>
   refine eA (q2 v rfl) λhz q=>c5d (F.next A i s H (some v) hh J.rel st V hn) (λo s1 L=>?_) λ_ _ e=>e;refine a23 L λu q6 ru B _ a6 a4=>?_;clear L;subst q6;have nt:=a5g F st;refine a4 tg _ S λs2 O a0=>i9 (z v H _ q) λl y q=>?_;have f1:=J.frm.extX J.rel B.ext nt d.dj;have a1:=J.acc.ext J.rel B.ext nt d.dw;have E:Q7 (·∈wr) s1.heap:=λa o vs n hX e1 _ e2=>by
    refine i9 (a6 a hX) λo' e3 e4=>?_;rw [e1] at e3;have q3:=B8 e3;clear e3;subst q3;exact e4 _ _ e2
   have f2:=f1.extX B.rel O.ext E d.dj;have a2:=a1.ext B.rel O.ext E d.dw;have a7:=O.ext.vrep B.rel E ru;refine b5S true g hh a5 N y O.rel f2 a7 λs3 f3 Z=>?_;have nw:∀ b∈wr,¬ XS cenv m true b:=λb y e=>d.dj b y (XS.fx e);have nD:¬ XS cenv m true D:=λe=>d.dd (XS.fx e);have a3:=a2.ext O.rel Z.ext (a7w f2) nD;have b0:=V;have p:St (i+1) s3.heap:=a4z F O.rel a0 Z V nw (a7w f2)
   have r:c7b m cenv l D H s3 (pre++acc):=⟨Z.rel,f3,a3⟩;refine c5d (C s3 H l v (pre++acc) _ r (by rw[c50];exact Nat.add_le_add_iff_left.mpr hz) y q) (λk s4 h4=>?_) λ_ _ e=>e
   refine b8Y h4 λq5 xs H4 x K q4=>?_;clear h4;subst q5;have T:∀ b∈wr,¬ YX cenv D b:=λb y e=>by
    rcases e with rfl | rfl
    ·exact d.dw y
    ·exact d.dj _ y (.inl rfl)
   have M:St (i+1) s4.heap:=a4z F Z.rel p K V T r.noTup;have W:=a9a K V (F.nons _ _ p) T;rw [List.append_assoc] at x;refine ⟨hq,ih (i+1) (acc++xs) s4 H4 Q x M W q4 λU j Y i5 a8 q5=>?_⟩;refine hR U j Y i5 ?_ q5;refine (B.weaken λa h=>.inl h).trans ((O.weaken λa h=>.inl h).trans ((Z.weaken λa h=>.inr (.inr h)).trans ((K.weaken λa h=>.inr h).trans a8)))
variable {p:Pos}{elt iter:c6S}
noncomputable def a9f (ifs:List c6S) (elt:c6S) (cenv:Env) (D:Addr) (c0:Code):Sem Fin :=
 (forIn ifs true λc r=>if r=true then do let ok<-isTrue c cenv (eval c cenv);pure (ForInStep.yield ok) else pure (ForInStep.yield r))>>=λok =>
  if ok=true then (eval elt cenv>>=λx=>call (.builtin "list.append") [.ref D,x]>>=λ_=>pure ())>>=λ_=>again c0 else again c0
theorem b0P :
  b0Z lc w A (.compLoop (.ListComp elt [⟨tg,iter,ifs,0⟩] sc pos) 0 (.ref I) (.ref D) cenv) I tg cenv (a9f ifs elt cenv D (.compLoop (.ListComp elt [⟨tg,iter,ifs,0⟩] sc pos) 0 (.ref I) (.ref D) cenv)):=by
 intro s Q h;show wpAny _ A ((compTurn (.ListComp elt [⟨tg,iter,ifs,0⟩] sc pos) 0 (.ref I) (.ref D) cenv).onRaise (λx=>do noteFrame x cenv;theTreesLotGoes x)) _ _ s
 refine wpAny_noted ?_;rw[(compTurn_list ..)];refine c5b (c5g (c5b (c5d h (λo U B=>?_) λ_ _ e=>e.elim)));cases o with
 | none=>exact c5c B
 | some u =>
  refine c5b (c5d B (λ_ V J=>c5b (c5d J (λ_ Y O=>?_) λ_ _ e=>e.elim)) λ_ _ e=>e.elim);exact c5d O (λ_ _ q=>q) λ_ _ e=>e.elim
theorem a6x {V:Cx} {l:List Cv} {p:Code} (K:∀ e x,trC k V e=some x->c60 m V e x) (L:c6T m V elt x) (M:C9 (trC k V) ifs=some l) (o:AOk n m A)
  (G:¬ FX cenv D) (s:Shared) (H:Hp) (Z t:En) (acc:List f7) (P:List f7->Hp->Prop) (J:c7b V cenv Z D H s acc) (hz:acc.length<=2 * n8) (Y:∀ y v,t y=some v->Z y=some v)
  (q:a2g x (a1G l) c61 Z H P) :
  wpAny c6W A (a9f ifs elt cenv D p) (λf w=>f=.again p/\∃ xs c,c7b V cenv t D c w (acc++xs)/\c64 (YX cenv D) H s c w/\P xs c) A7 s:=by
 refine c5b (c5d (b5Q K ifs l M s H _ o J.rel J.frm q) (λb R C=>?_) λ_ _ e=>e);refine i9 C λg B r=>?_;clear C;have d:=J.frm.step J.rel B;have i:=J.acc.ext J.rel B.ext .no (λz=>z);cases b with
 | false =>
  rw[(c57 c5F)];refine c5c ⟨rfl,[],g,⟨B.rel,d.sub Y,by rw[(c6o ..)];exact i⟩,B.no,r.2 rfl⟩
 | true =>
  rw[(c58 rfl)];refine c5b (c5b (l7 (L A R g Z cenv _ o B.rel d (r.1 rfl)) (λy u E S Q O N=>?_)));have I:=d.step B.rel O;have j:=i.ext B.rel O.ext .no (λz=>z);refine c5b (b3w j O.rel Q hz λT F U=>c5c (c5c ⟨rfl,[y],E,⟨U.rel,Q3.sub ?_ Y,F⟩,?_,N⟩))
  ·exact I.extX O.rel U.ext j.nt (λa h=>by rw[(show a=D from h)];exact G)
  ·exact (B.no).trans ((O.no).trans (U.weaken λa h=>.inl h))
variable {it:It}
noncomputable def a5H (G:Gi) (w:World) (ld:Env) (c:Cx) (H:Hp) (s:Shared) (P:En->Hp->Prop) (s':Shared):Prop:=∃ r' H',m6 G w (FX ld) H s H' s'/\Q3 G w ld c r' H' s'.heap/\P r' H'
theorem b0q {m:Str->Option Value} (x:h.Ns a m):∃ o,h.get? a=some o/\B9 o:=by
 refine a1O x λo O J B q _=>?_;clear x;exact ⟨o,B,λU n e=>by rw [q] at e;cases e⟩
theorem y5.but0 {h h':Heap} (R:c6U H h) (e:h.get? a=some o) (V:B9 o) (f:H a=none) (b:G.base a=none) (x:X a) (s:Heap.SameBut a h h') :
  c6U H h'/\Ext X H h H h':=by
 have tup:∀ b B,IsTup h b B->IsTup h' b B:=λb B t=>by
  refine K8 t λY q c n d=>?_;clear t;exact ⟨Y,(s.2 b (by clear s x f;rintro rfl;rw [e] at q;have Z:=B8 q;clear q c;subst Z;exact V _ _ d)).trans q,c,n,d⟩
 refine ⟨⟨λc o q=>?_,λc U q=>?_⟩,⟨λc o q g y=>?_,λc q=>.inl q,λc q=>q,λc q y=>?_⟩⟩
 ·exact eA (R.base c o q) λJ O=>⟨(s.2 c (by clear s x f e;rintro rfl;rw [b] at q;cases q)).trans J,O⟩
 ·exact (R.objs c U q).mono tup λo e=>(s.2 c (by clear s x e;rintro rfl;rw [f] at q;cases q)).trans e
 ·exact (s.2 c (by clear s f e;rintro rfl;exact y x)).trans q
 ·rw[(s.2 c (by clear s f e;rintro rfl;exact y x))];exact q
theorem a5y {H B:Hp} {s q:Shared} {C:Addr} {m:Str->Option Value} {h':Heap} (st:c64 X H s B q) (e:q.heap.Ns C m) (U:B C=none) (V:G.base C=none) (O:s.heap.get? C=none) (d:Heap.SameBut C q.heap h') :
  c64 X H s B {q with heap:=h'}/\c64 (·=C) B q B {q with heap:=h'}:=by
 refine i9 (b0q e) λo c no=>?_;have b:=st.rel.but0 (X:=(·=C)) c no U V rfl d;have J:c64 (·=C) B q B {q with heap:=h'}:=⟨b.1,b.2,rfl,rfl⟩
 refine ⟨?_,J⟩;have t:=(st.weaken (Y:=λa=>X a\/a=C) λ_=>.inl).trans (J.weaken λ_=>.inr);exact ⟨t.rel,t.ext.compress λa Z=>Z.imp id λe=>by rw[e];exact O,t.gens,t.os⟩
noncomputable def a6Q:AK->Obj
 | .list=>{cls:=.type "list",data:=.seq #[]}
 | .dict _=>{cls:=.type "dict",data:=.dict #[]}
noncomputable def b8M:AK->N2
 | .list=>.list []
 | .dict _=>.dict [] 0
theorem a6P (q:AK):b3v q [] (b8M q):=by
 cases q with
 | list=>rfl
 | dict=>exact ⟨[],0,rfl,λp B=>by simp at B,rfl⟩
theorem a20 (q:AK) (e:h.get? a=some (a6Q q)):a2B G w h a (b8M q):=by
 cases q with
 | list=>exact ⟨#[],0,e,.nil⟩
 | dict=>exact ⟨c6r,⟨λp B=>by simp at B,λp B=>by simp at B⟩,#[],e,rfl⟩
noncomputable def b3q (lc:Program) (w:World) (G:Gi) (A:Around) (e:c6S) (tup:Bool) (c':Cx) (r0:En) (turnM:f7->Hp->(List f7->Hp->Prop)->Prop) (Qc:List f7->Hp->Prop):Prop :=
 ∀ (I:Addr) (wr:List Addr) (src:Src) (St:Nat->Heap->Prop) (cenv:Env) (D:Addr) (nf:Nat) (s:Shared) (H:Hp) (Rr:Result->Shared->Prop),U3 lc w G I wr src tup St->Cl G w cenv wr D->Inv lc w G c' cenv r0 D H s []->St 0 s.heap ->
  (∀ b∈wr,H b=none/\G.base b=none)->a01 turnM src nf 0 [] H Qc->(∀ acc' H' s',Inv lc w G c' cenv r0 D H' s' acc'->m6 G w (CX cenv wr D) H s H' s'->Qc acc' H'->Rr (.ok .next) s') ->
  codeAny (model lc w) A (.compLoop e 0 (.ref I) (.ref D) cenv) Rr s
theorem a4M {O:Sem Value} {g:PySem.Comprehension} {gs:List PySem.Comprehension} {use:Option (Value->Sem Unit)}
  {E:f7->Hp->(List f7->Hp->Prop)->Prop} {Qc:List f7->Hp->Prop} {Qm:f7->Hp->Prop}
  (d1:clausesOf e=g :: gs) (c0:a1i c sc must=true) (e5:SIt lc w G n m c g.iter it) (al:AOk n m A) (R:c6U H s.heap) (F:c6V ld c r H s.heap)
  (q:it.iv (j3 G.F n) r H λsrc H1=>∃ nf,a01 E src nf 0 [] H1 Qc) (d0:∀ xs K mo,Qc xs K->b3v .list xs mo->alloc mo K Qm)
  (b8:∀ (s:Shared) (Q:Value->Shared->Prop),Q (.ref s.heap.objs.size) {s with heap:=s.heap.push (a6Q .list)}->wpAny c6W A O Q A7 s)
  (T:∀ (I D:Addr) (cenv:Env) (s:Shared) (Rr:Result->Shared->Prop),(∀ Q:Value->Shared->Prop,Q (.ref I) s->wpAny c6W A (pyIter (.ref I)) Q A7 s)->codeAny c6W A (.compLoop e 0 (.ref I) (.ref D) cenv) Rr s->codeAny c6W A (.compStart e 0 (.ref I) (.ref D) cenv) Rr s)
  (b0:b3q lc w G A e it.tup (sub c sc) (S5 must r) E Qc)
  (b1:use=none->∀ D H' X,c64 O1 H s H' X->Qm (.ref D) H'->Q (.ref D) X)
  (b2:∀ u,use=some u->∃ P,(∀ D H' X,c64 O1 H s H' X->Qm (.ref D) H'->wpAny c6W A (u (.ref D)) (λ_ e0=>a5H G w ld c H' X P e0) A7 X)/\∀ X,a5H G w ld c H s P X->Q .none X) :
  wpAny c6W A (comprehension e sc ld pos O false (eval g.iter ld) use) Q A7 s:=by
 refine eAA (a1j c0) λc1 b4 f1=>eA (e5 A s H r ld _ al R F q) λs1 s2=>?_;have f:∀ p∈sc.names,p.2=.free->(ld.cells.lookup p.1).isSome=true:=λp hp e=>by
  refine u6 (F.cel p.1 ((b4 p hp).2.1 e)) λa u h1 _=>?_;rw[h1];rfl
 refine wpAny_comprehension_free d1 s1 (a9R f) c1 (λp hp e=>(b4 p hp).2.2 e) (c5d s2 (λx t1 h1=>c5d h1 (λv t2 h2=>?_) λ_ _ e=>e) λ_ _ e=>e);refine a1n h2 λI wr src St H1 q4 ok h0 fr a0 nf q=>?_;clear h2;subst q4;refine b8 t2 _ (wpAny_newFunctionEnv (λx hx=>(b4 x hx).1) (by intro y hy;simp at hy) (λh3 S i=>?_) c1)
 dsimp only at S i ⊢;generalize hP:t2.heap.push (a6Q .list)=HP at S i ⊢;have R2:=a0.rel;have RP:c6U H1 HP:=by refine u7 hP ?_;exact R2.push _
 have Z:HP.objs.size=t2.heap.objs.size+1:=by refine u7 hP ?_;rw[(Heap.size_push ..)];rfl
 generalize hD:t2.heap.objs.size=D at Z;generalize hC:HP.objs.size=C at S i Z;have a8:D≠C:=by rw[Z];exact c5Q (c5J _)
 refine eAA (B5 (k:=D) R2 (c5K hD)) λa7 c4 c5=>eAA (B5 (k:=C) R2 (by rw[Z];refine u7 hD ?_;exact Nat.le_succ _)) λM b5 N=>?_
 refine eAA (B5 (k:=C) RP (c5K hC)) λe8 _ _=>?_;have old:∀ b o,t2.heap.get? b=some o->h3.get? b=some o:=λb o e=>by
  have hb:=c5n e;refine (i.extBut b o (by rw[Z];refine u7 hD ?_;exact c5Q (c6y hb)) (c5i _ ?_))
  refine u7 hP ?_;exact c5i _ e
 have c7:h3.get? D=some (a6Q .list):=by
  refine i.extBut _ _ a8 (c5i _ ?_);refine u7 hP ?_;refine u7 hD ?_;exact c5j _ rfl
 have tup:∀ b vs,IsTup t2.heap b vs->IsTup h3 b vs:=λb vs z1=>by refine i9 z1 λo e r=>?_;clear z1;exact ⟨o,old b o e,r⟩
 have c2:∀ t:Nat,c64 O1 H1 t2 H1 {t2 with heap:=h3,toks:=t}:=λt=>by
  refine ⟨⟨λb o e=>⟨old b o (R2.base b o e).1,(R2.base b o e).2⟩,λb mo e=>(R2.objs b mo e).mono tup λo ho=>old b o ho⟩,⟨λb o e _ _=>old b o e,λ_ e=>.inl e,λ_ e=>e,λb e _=>?_⟩,rfl,rfl⟩;refine eE (c6J e) λo eo=>?_;rw[(old b o eo)];rfl
 have a6:=a0.trans (c2 (t2.toks+([]:List (Str×Value)).length));have B:∀ a,t2.heap.get? a=none->s.heap.get? a=none:=λa e=>by
  cases q:s.heap.get? a with
  | none=>rfl
  | some o =>
   have:=a0.ext.there a (by rw[q];rfl) (λz=>z)
   rw [e] at this;exact nomatch this
 have e9:H C=none:=by
  cases q:H C with
  | none=>rfl
  | some mo=>have:=a0.ext.grow C (by rw[q];rfl);rw [b5] at this;exact nomatch this
 have F3:c6V (compEnvC sc (Q8 ld sc.names []) C ld) (sub c sc) (S5 must r) H1 h3:=by
  refine b3P F R c0 (a6.ext) (B C M) ?_ b5 N;have:(λx=>List.lookup x ([]:List (Str×Value)).reverse)=λ_=>(none:Option Value):=rfl;refine u7 this ?_;exact S
 have L:∀ x a,(Q8 ld sc.names []).lookup x=some a->ld.cells.lookup x=some a:=a35 (ld:=ld) sc.names [] f (λx a e=>by cases e)
 have c6:∀ a,FX (compEnvC sc (Q8 ld sc.names []) C ld) a->a=C\/∃ o,s.heap.get? a=some o:=λa h=>by
  rcases h with rfl | ⟨x,e⟩
  ·exact .inl rfl
  ·exact S0 (F.own.2.2 x a (L x a e)) λ_ _ _ u o V _=>.inr ⟨o,V⟩
 have j:∀ a,s.heap.get? a=none->a≠C->¬ FX (compEnvC sc (Q8 ld sc.names []) C ld) a:=λa e d2 h=>by
  rcases c6 a h with rfl | ⟨o,V⟩
  ·exact d2 rfl
  ·rw [e] at V;cases V
 have c3:∀ b∈wr,∃ o,t2.heap.get? b=some o:=λb hb=>by refine i9 (ok.nons _ _ h0 b hb) λo e _=>?_;exact ⟨o,e⟩
 have cl:Cl G w (compEnvC sc (Q8 ld sc.names []) C ld) wr D:=by
  refine ⟨λhm=>?_,λb hb=>?_,j D (B D a7) a8⟩
  ·refine eE (c3 D hm) λo e=>?_;rw [a7] at e;cases e
  ·refine j b (fr b hb).1 ?_
   clear j c6 F3 e9 e8 N b5 a8 Z i S hC;rintro rfl
   refine eE (c3 _ hb) λo e=>?_;rw [M] at e;cases e
 have d4:c7b (sub c sc) (compEnvC sc (Q8 ld sc.names []) C ld) (S5 must r) D H1 {t2 with heap:=h3,toks:=t2.toks+([]:List (Str×Value)).length} [] :=
  ⟨(c2 _).rel,F3,b8M .list,a6P .list,a20 .list c7,c4,c5⟩
 have b7:St 0 h3:=ok.frame 0 _ _ h0 (λb _ o e=>old b o e) tup;refine T I D _ _ _ (λQ' c9=>ok.self A 0 _ _ b7 c9) (b0 I wr src St (compEnvC sc (Q8 ld sc.names []) C ld) D nf _ H1 _ ok cl d4 b7 (λb hb=>(fr b hb).2) q λxs K s5 J e6 q5=>J9 J.acc λmo a1 a2 a3 a4=>?_);have hm:=d0 xs K mo q5 a1 D a3;have r6:c6U (K.set D mo) s5.heap:=by
  refine ⟨λa o e=>⟨(J.rel.base a o e).1,?_⟩,λa d5 e=>?_⟩
  ·unfold Hp.set;rw[(c57 (by clear hm a3 a2 e6 J d4 cl c7 c5 c4 a7 a8 Z hD;rintro rfl;rw [a4] at e;cases e))]
   exact (J.rel.base a o e).2
  ·unfold Hp.set at e
   split at e
   ·rename_i h;clear hm a4 a3 e6 J d4 cl c7 c5 c4 a7 a8 Z hD;subst h;have q1:=B8 e;clear e;subst q1;exact a2
   ·exact J.rel.objs a d5 e
 have e7:c64 (·=D) K s5 (K.set D mo) s5:=by
  refine ⟨r6,⟨λa o e _ _=>e,λa e=>?_,λa e=>?_,λa e _=>e⟩,rfl,rfl⟩
  ·unfold Hp.set at e
   split at e
   ·rename_i h;exact .inr (.inr h)
   ·exact .inl e
  ·unfold Hp.set
   split
   ·rfl
   ·exact e
 have a5:c64 O1 H s (K.set D mo) s5:=by
  have t:=(a6.no (Y:=CX (compEnvC sc (Q8 ld sc.names []) C ld) wr D)).trans (e6.trans (e7.weaken λa h=>.inr (.inl h)));refine ⟨t.rel,t.ext.compress λa ha=>.inr ?_,t.gens,t.os⟩;rcases ha with ha | rfl | rfl
  ·exact (fr a ha).1
  ·exact B _ a7
  ·exact B _ M
 have sC:s.heap.get? C=none:=B C M;obtain ⟨mm,oC,d3,f0,W,_⟩:∃ mm oC,s5.heap.get? C=some oC/\B9 oC/\s5.heap.Ns C mm/\True:=by
  exact G2 J.frm.loc λmm oC a b d _=>⟨mm,oC,a,b,d,trivial⟩
 have a9:(K.set D mo) C=none:=by
  unfold Hp.set;rw[(c57 a8.symm)];exact J.frm.own.1
 have b3:¬ FX ld C:=λh=>by
  rcases h with e | ⟨x,e⟩
  ·refine u6 F.loc λ_ o ho _=>?_;rw [<- e,sC] at ho;cases ho
  ·refine S0 (F.own.2.2 x C e) λ_ _ _ u o V _=>?_;rw [sC] at V;cases V
 cases use with
 | none =>
  refine ⟨mm,W,λh' sb=>?_⟩;exact b1 rfl D _ _ (a5y a5 W a9 N sC sb).1 hm
 | some u =>
  refine i9 (b2 u rfl) λP hu c8=>c5d (hu D _ _ a5 hm) (λ_ s8 h8=>?_) λ_ _ e=>e;refine j8 h8 λr' H8 l F8 p8=>?_;clear h8;have U:s8.heap.Ns C mm:=by
   refine a36 W λo' es ep e rest=>?_;clear W;exact ⟨o',es,ep,l.ext.keep _ _ e a9 b3,rest⟩
  have b6:H8 C=none:=l.ext.none a9 (by rw[d3];rfl) b3
  refine ⟨mm,U,λh' sb=>c8 _ ⟨r',H8,(a5y (a5.no.trans l) U b6 N sC sb).1,?_,p8⟩⟩;have b:=a5y (a5.no.trans l) U b6 N sC sb;refine F8.extX l.rel b.2.ext (λa o vs n hX V ec e2=>?_) λa h=>by rw[(show a=C from h)];exact b3
  refine i9 (b0q U) λo' e3 e4=>?_;rw [show a=C from hX,e3] at V;have q3:=B8 V;clear V ec;subst q3;exact e4 _ _ e2
theorem a3b {y:Nm} (h:y∉must.map nm):S5 must r y=r y:=by unfold S5;rw[(c57 h)];rfl
theorem a7f {y:Nm} (h:y∈must.map nm):S5 must r y=none:=by unfold S5;rw[(c58 h)];rfl
theorem a3Q {r B:En} (q:a0X tg=some (t,one)) (h:a0F t one v r B):a0F t one v (S5 (a0t tg) r) B :=
 a8a h λy J=>a3b (by rw[(R7 q)];exact J)
theorem a7T (q:a0X tg=some (t,one)) (h:a2S it one=true):it.tup=true->a7k tg=true:=λB=>by
 unfold a2S at h;rw [B] at h;cases tg with
 | Name x p=>refine i9 (n5 q) λ_ _ e=>?_;clear q;cases e;exact nomatch h
 | Tuple _ _ _=>rfl
 | _=>exact x9 q
theorem b0d {l:List Cv} {a:List f7->Hp->Prop} (g:Gk G) (b:AOk n m A)
  (j:∀ e x,trC k (sub c sc) e=some x->c60 m (sub c sc) e x) (o:c6T m (sub c sc) elt x) (u:C9 (trC k (sub c sc)) ifs=some l)
  (B:a0X tg=some (t,one)) (O:W7 (X8 (sub c sc)) tg=true) (V:a2S it one=true) :
  b3q lc w G A (.ListComp elt [⟨tg,iter,ifs,0⟩] sc pos) it.tup (sub c sc) (S5 (a0t tg) r) (a3z t one r (a2g x (a1G l) c61)) a:=by
 intro I L src St cenv D C s H K E d J F Y q p;refine a3E (pre:=[]) g b.h rfl b0P E d B O (a7T B V) (λv H P i=>by refine i9 i λZ U q=>?_;clear i;exact ⟨Z,a3Q B U,q⟩) (c5B _) (λs H Z v acc P J f U q=>?_) C 0 [] s H a J F Y q p
 exact a6x j o u b d.dd s H Z _ acc P J (by simp only [List.length_nil] at f;exact c1s f) (a53 (λy z=>a7f (by rw[(R7 B)];exact z)) U) q
theorem Gok.sub (g:Gok G c):Gok G (Mine.Internal.sub c sc):={g with cl:=g.cl,at_:=g.at_,me:=g.me,fn:=g.fn,cls:=g.cls,fun_:=λq name B h=>by refine p9 (g.fun_ q name B h) λf a b d=>?_;exact ⟨f,a,b.cx,d⟩,keepf:=g.keepf,nolim:=g.nolim,blt:=g.blt}
noncomputable def SU (lc:Program) (w:World) (G:Gi) (n m:Nat) (c:Cx) (e:c6S) (x:Ev):Prop :=
 ∀ (A:Around) (s:Shared) (H:Hp) (r:En) (ld:Env) (Qm:f7->Hp->Prop) (P:En->Hp->Prop) (u:Value->Sem Unit),AOk n m A->y5 G w H s.heap->Q3 G w ld c r H s.heap->x (j3 G.F n) r H Qm ->
  (∀ D H' s',m6 G w O1 H s H' s'->Qm (.ref D) H'->wpAny (model lc w) A (u (.ref D)) (λ_ s''=>a5H G w ld c H' s' P s'') A7 s')->wpAny (model lc w) A (evalThenUse e ld u) (λ_ s'=>a5H G w ld c H s P s') A7 s
abbrev c7g:=SU lc w G n
theorem b4E {l:List Cv} (g:Gok G c)
  (p:∀ e x,trC k (sub c sc) e=some x->c60 m (sub c sc) e x) (v:c6T m (sub c sc) elt x) (y:C9 (trC k (sub c sc)) ifs=some l) (i:c69 m c iter it)
  (b:a1i c sc (a0t tg)=true) (d:a0X tg=some (t,one)) (Y:W7 (X8 (sub c sc)) tg=true) (a:a2S it one=true) :
  c6T m c (.ListComp elt [⟨tg,iter,ifs,0⟩] sc pos) (t8 x t one it (a1G l))/\c7g m c (.ListComp elt [⟨tg,iter,ifs,0⟩] sc pos) (t8 x t one it (a1G l)):=by
 have Z:∀ (A:Around) (s:Shared) (H:Hp) (r:En) (J:Env) (U:f7->Hp->Prop) (use:Option (Value->Sem Unit)) (Q:Value->Shared->Prop),AOk n m A->c6U H s.heap->c6V J c r H s.heap->(t8 x t one it (a1G l)) c61 r H U ->
   (use=none->∀ D O B,c64 O1 H s O B->U (.ref D) O->Q (.ref D) B) ->
   (∀ u,use=some u->∃ P,(∀ D O B,c64 O1 H s O B->U (.ref D) O->wpAny c6W A (u (.ref D)) (λ_ f=>a5H G w J c O B P f) A7 B)/\∀ B,a5H G w J c H s P B->Q .none B) ->
   wpAny c6W A (comprehension (.ListComp elt [⟨tg,iter,ifs,0⟩] sc pos) sc J (firstIterPos [⟨tg,iter,ifs,0⟩] pos) (PySem.newList []) false (eval iter J) use) Q A7 s:=by
  intro A s H r J U use Q V R F q j o;refine a4M (g:=⟨tg,iter,ifs,0⟩) (gs:=[]) rfl b i V R F q (λM N E h e=>?_) (λs Q h=>c5h h) (λI D cenv s S z h=>codeAny_compStart_list h (c5d (z _ h) (λ_ _ h=>h) λ_ _ e=>e.elim)) (b0d g.toGk V p v y d Y a) j o;rw[(show E=.list M from e)];exact h
 refine ⟨λA s H r J Q V R F q=>?_,λA s H r J U P u V R F q C=>?_⟩
 ·exact Z A s H r J Q none (Got G w (j6 G) H s Q) V R F q (λ_ D O B L q=>⟨.ref D,O,.ref,L,q⟩) λu e=>nomatch e
 ·exact c5b (Z A s H r J U (some u) (λ_ B=>wpAny c6W A (pure ()) (λ_ B=>a5H G w J c H s P B) A7 B) V R F q (λe=>nomatch e) λT e=>by have K:=B8 e;clear e;subst K;exact ⟨P,C,λB h=>c5c h⟩)
variable {tg2 iter2:c6S}
noncomputable def b5k (e:c6S) (iter2:c6S) (cenv:Env) (D:Addr) (c0:Code):Sem Fin :=
 (eval iter2 cenv>>=λx=>standAt iter2.pos>>=λ_=>foldedSetIterable iter2 cenv x>>=λx=>holding [x] (pyIter x)>>=λi=>runOwn (.compStart e 1 i (.ref D) cenv) cenv>>=λ_=>again c0)
theorem a6U (elt J iter B q:c6S) (ifs:List c6S) (U:Scope) (pos:Pos) (O:Value) (D:Addr) (ld:Env) :
  compTurn (.ListComp elt [⟨J,iter,[],0⟩,⟨B,q,ifs,0⟩] U pos) 0 O (.ref D) ld=(standAt iter.pos>>=λ_=>pyNext O>>=λr=>match r with
   | none=>pure (.done .next)
   | some v=>letOwnedTupleGo J O v>>=λ_=>assign J ld v>>=λ_ =>
     b5k (.ListComp elt [⟨J,iter,[],0⟩,⟨B,q,ifs,0⟩] U pos) q ld D (.compLoop (.ListComp elt [⟨J,iter,[],0⟩,⟨B,q,ifs,0⟩] U pos) 0 O (.ref D) ld)):=by rfl
theorem a8f (elt U iter B q:c6S) (ifs:List c6S) (O:Scope) (pos:Pos) (J:Value) (D:Addr) (ld:Env) :
  compTurn (.ListComp elt [⟨U,iter,[],0⟩,⟨B,q,ifs,0⟩] O pos) 1 J (.ref D) ld=(standAt q.pos>>=λ_=>pyNext J>>=λr=>match r with
   | none=>pure (.done .next)
   | some v=>letOwnedTupleGo B J v>>=λ_=>assign B ld v>>=λ_ =>
     a9f ifs elt ld D (.compLoop (.ListComp elt [⟨U,iter,[],0⟩,⟨B,q,ifs,0⟩] O pos) 1 J (.ref D) ld)):=by rfl
theorem b3f :
  b0Z lc w A (.compLoop (.ListComp elt [⟨tg,iter,[],0⟩,⟨tg2,iter2,ifs,0⟩] sc pos) 0 (.ref I) (.ref D) cenv) I tg cenv
   (b5k (.ListComp elt [⟨tg,iter,[],0⟩,⟨tg2,iter2,ifs,0⟩] sc pos) iter2 cenv D (.compLoop (.ListComp elt [⟨tg,iter,[],0⟩,⟨tg2,iter2,ifs,0⟩] sc pos) 0 (.ref I) (.ref D) cenv)):=by
 intro s Q h;show wpAny _ A ((compTurn (.ListComp elt [⟨tg,iter,[],0⟩,⟨tg2,iter2,ifs,0⟩] sc pos) 0 (.ref I) (.ref D) cenv).onRaise (λx=>do noteFrame x cenv;theTreesLotGoes x)) _ _ s
 refine wpAny_noted ?_;rw[(a6U ..)];refine c5b (c5g (c5b (c5d h (λo U B=>?_) λ_ _ e=>e.elim)));cases o with
 | none=>exact c5c B
 | some u =>
  refine c5b (c5d B (λ_ V J=>c5b (c5d J (λ_ Y O=>?_) λ_ _ e=>e.elim)) λ_ _ e=>e.elim);exact c5d O (λ_ _ q=>q) λ_ _ e=>e.elim
theorem b5Z :
  b0Z lc w A (.compLoop (.ListComp elt [⟨tg,iter,[],0⟩,⟨tg2,iter2,ifs,0⟩] sc pos) 1 (.ref I) (.ref D) cenv) I tg2 cenv
   (a9f ifs elt cenv D (.compLoop (.ListComp elt [⟨tg,iter,[],0⟩,⟨tg2,iter2,ifs,0⟩] sc pos) 1 (.ref I) (.ref D) cenv)):=by
 intro s Q h;show wpAny _ A ((compTurn (.ListComp elt [⟨tg,iter,[],0⟩,⟨tg2,iter2,ifs,0⟩] sc pos) 1 (.ref I) (.ref D) cenv).onRaise (λx=>do noteFrame x cenv;theTreesLotGoes x)) _ _ s
 refine wpAny_noted ?_;rw[(a8f ..)];refine c5b (c5g (c5b (c5d h (λo U B=>?_) λ_ _ e=>e.elim)));cases o with
 | none=>exact c5c B
 | some u =>
  refine c5b (c5d B (λ_ V J=>c5b (c5d J (λ_ Y O=>?_) λ_ _ e=>e.elim)) λ_ _ e=>e.elim);exact c5d O (λ_ _ q=>q) λ_ _ e=>e.elim
theorem b5H {O:Result->Shared->Prop} (U:∀ Q:Value->Shared->Prop,Q (.ref I) s->wpAny c6W A (pyIter (.ref I)) Q A7 s)
  (h:codeAny c6W A (.compLoop (.ListComp elt [⟨tg,iter,[],0⟩,⟨tg2,iter2,ifs,0⟩] sc pos) 1 (.ref I) (.ref D) cenv) O s):codeAny c6W A (.compStart (.ListComp elt [⟨tg,iter,[],0⟩,⟨tg2,iter2,ifs,0⟩] sc pos) 1 (.ref I) (.ref D) cenv) O s:=by
 refine codeAny_of_tree ?_;show wpAny _ _ ((compStart (.ListComp elt [⟨tg,iter,[],0⟩,⟨tg2,iter2,ifs,0⟩] sc pos) 1 (.ref I) (.ref D) cenv).onRaise (λx=>do noteFrame x cenv;standAt theWindowsPlace)) _ _ s
 refine wpAny_notedAt (c5b (wpAny_askSetting (wpAny_ite ?_)));have B:wpAny c6W A (pyIter (.ref I)) (λq J=>codeAny c6W A (.compLoop (.ListComp elt [⟨tg,iter,[],0⟩,⟨tg2,iter2,ifs,0⟩] sc pos) 1 q (.ref D) cenv) O J) (notedBy c6W A cenv λx J=>O (.error x) J) s:=c5d (U _ h) (λ_ _ h=>h) λ_ _ e=>e.elim
 split
 ·first
   | exact c5b (c5c (c5c (And.intro rfl h)))
   | exact c5c (And.intro rfl h)
 ·first
   | exact c5b (wpAny_rule (c5b (c5g (c5b (c5d B (λq J B=>c5c (And.intro rfl B)) λ_ _ x=>x)))))
   | (refine c5b (wpAny_rule ?_);show wpAny _ _ (standAt iter2.pos>>=_) _ _ s;exact c5b (c5g (c5b (c5d B (λq J B=>c5c (And.intro rfl B)) λ_ _ x=>x))))
theorem b2E (A:Around):A.mark none=A:=rfl
variable {one2:Bool}
theorem b5l {J:Cx} {l:List Cv} {N:Code} {t2:List Nm} {c:It} (g:Gk G)
  (hC:∀ e x,trC k J e=some x->c60 m J e x) (hE:c6T m J elt x) (hl:C9 (trC k J) ifs=some l) (K:c69 m J iter2 c) (p:AOk n m A)
  (O:a0X tg2=some (t2,one2)) (i:W7 (X8 J) tg2=true) (E:a2S c one2=true)
  (dd:¬ FX cenv D) (s:Shared) (H:Hp) (U r0:En) (acc:List f7) (P:List f7->Hp->Prop) (B:c7b J cenv U D H s acc) (hz:acc.length<=n8) (C:∀ y v,r0 y=some v->(S5 (a0t tg2) U) y=some v)
  (q:b1P x t2 one2 c (a1G l) c61 U H P) :
  wpAny c6W A (b5k (.ListComp elt [⟨tg,iter,[],0⟩,⟨tg2,iter2,ifs,0⟩] sc pos) iter2 cenv D N) (λr F=>r=.again N/\∃ xs d,c7b J cenv r0 D d F (acc++xs)/\c64 (YX cenv D) H s d F/\P xs d) A7 s:=by
 refine eA (K A s H U cenv _ p B.rel B.frm q) λs1 s2=>c5b (c5d s2 (λxv t1 h1=>c5b (c5g (c5b (wpAny_of_eq (s1 xv) (c5b (c5e (c5d h1 (λv t2 W=>?_) λ_ _ e=>e))))))) λ_ _ e=>e);refine a1n W λI wr src St M q1 ok T f V nf q=>?_;clear W;subst q1;have f1:=B.frm.step B.rel V;have a1:=B.acc.ext B.rel V.ext .no (λz=>z)
 have j:c7b J cenv (S5 (a0t tg2) U) D M t2 (acc++[]):=⟨V.rel,f1.sub λy v e=>by
  unfold S5 at e
  split at e
  ·cases e
  ·exact e,by rw[(c6o ..)];exact a1⟩
 have R:Cl G w cenv wr D:=by
  refine ⟨λhm=>?_,λb Z h=>?_,dd⟩
  ·refine p9 B.acc λmo _ a2 _=>i9 a2.at_ λo e _=>?_;rw [(f D hm).1] at e;cases e
  ·rcases h with e | ⟨x,e⟩
   ·refine u6 B.frm.loc λ_ o X _=>?_;rw [<- e,(f b Z).1] at X;cases X
   ·refine S0 (B.frm.own.2.2 x b e) λ_ _ _ u o S _=>?_;rw [(f b Z).1] at S;cases S
 refine c5b (wpAny_runOwn ?_);rw[(b2E ..)];refine b5H (λQ hQ=>ok.self A 0 _ _ T hQ) (a3E (pre:=acc) (rest:=a9f ifs elt cenv D _) (body:=a2g x (a1G l) c61) g p.h rfl b5Z ok R O i (a7T O E) (λv H P z1=>by refine i9 z1 λU Z q=>?_;clear z1;exact ⟨U,a3Q O Z,q⟩) hz (λs H U v acc P B hz Z q=>?_) nf 0 [] t2 M P j T (λb Z=>(f b Z).2) q λxs d F i5 L q5=>?_)
 ·exact a6x hC hE hl p R.dd s H U _ acc P B (c2w ‹_› hz) (a53 (λy hy=>a7f (by rw[(R7 O)];exact hy)) Z) q
 ·refine c5c ⟨rfl,xs,d,i5.back C,?_,q5⟩;have t:=(V.no (Y:=CX cenv wr D)).trans L;refine ⟨t.rel,t.ext.compress λa ha=>?_,t.gens,t.os⟩;rcases ha with ha | ha
  ·exact .inr (f a ha).1
  ·exact .inl ha
theorem b2C {l:List Cv} {t t2:List Nm} {F V:It} {u:List f7->Hp->Prop} (g:Gk G) (z:AOk n m A)
  (L:∀ e x,trC k (sub c sc) e=some x->c60 m (sub c sc) e x) (M:c6T m (sub c sc) elt x) (Q:C9 (trC k (sub c sc)) ifs=some l)
  (p:c69 m (sub c sc) iter2 V) (J:a0X tg2=some (t2,one2)) (O:W7 (X8 (sub c sc)) tg2=true) (a:a2S V one2=true)
  (B:a0X tg=some (t,one)) (b:W7 (X8 (sub c sc)) tg=true) (i:a2S F one=true) (Z:∀ y∈t2,y∉t->r y=none) :
  b3q lc w G A (.ListComp elt [⟨tg,iter,[],0⟩,⟨tg2,iter2,ifs,0⟩] sc pos) F.tup (sub c sc) (S5 (a0t tg) r) (a3z t one r (b1P x t2 one2 V (a1G l) c61)) u:=by
 intro I X src St cenv D R s H W S C U T j q N;refine a3E (pre:=[]) g z.h rfl b3f S C B b (a7T B i) (λv H P K=>by refine i9 K λo f q=>?_;clear K;exact ⟨o,a3Q B f,q⟩) (c5B _) (λs H o v acc P U E f q=>?_) R 0 [] s H u U T j q N
 refine b5l g L M Q p z J O a C.dd s H o _ acc P U (by simp only [List.length_nil] at E;exact c1t E) (λy v e=>?_) q
 have Y:y∉t:=λY=>by rw [a7f (by rw[(R7 B)];exact Y)] at e;cases e
 rw [a3b (by rw[(R7 B)];exact Y)] at e
 have d:y∉t2:=λd=>by rw [Z y d Y] at e;cases e
 refine b9 (a3b (by rw[(R7 J)];exact d)) ?_;rw[(a52 f Y)];refine b9 (a3b (by rw[(R7 B)];exact Y)) ?_
 exact e
variable {xs:Array Nat}
theorem b2G:∀ {es:List c6S} {t:List Nm},a3y es=some t->(es.all λe=>((W8 e).map (X8 c)).getD false)=true->∀ y∈t,∃ x,y=nm x/\A1 x=true/\c.names.lookup x=some .local:=by
 intro es;induction es with
 | nil=>intro t h _ y hy;have Y:=B8 h;clear h;subst Y;exact nomatch hy
 | cons e es V =>
  intro t h J y hy;refine j8 (y6 h) λa b B U f=>?_;subst f;refine i9 (g9 B) λx q B=>eE (a0E q) λp d=>?_;clear q;subst d;refine eA (A5 B) λq Z=>?_;clear h B;subst Z;refine eA (c6F J) λJ O=>?_;rcases c6K hy with rfl | hy
  ·exact ⟨x,rfl,q,a3c J⟩
  ·exact V U O y hy
theorem b5R (h:a0X tg=some (t,one)) (B:W7 (X8 c) tg=true):∀ y∈t,∃ x,y=nm x/\A1 x=true/\c.names.lookup x=some .local:=by
 cases tg with
 | Name x p =>
  intro y U;refine i9 (n5 h) λa O e=>?_;cases e;refine eA (A5 O) λJ V=>?_;clear h O;subst V;exact ⟨x,c6I U,J,a3c B⟩
 | Tuple Y k p =>
  refine i9 (n5 h) λZ q e=>?_;clear h;cases e;exact b2G q B
 | _=>exact x9 h
theorem b6O {t t2:List Nm} (F:c6V ld c r H h) (J:a1i c sc (a0t tg)=true) (O:a0X tg=some (t,one)) (q:a0X tg2=some (t2,one2)) (b:W7 (X8 (sub c sc)) tg2=true) :
  ∀ y∈t2,y∉t->r y=none:=λy e d=>by
 refine p9 (b5R q b y e) λx f Y Z=>?_;clear e;subst f;refine a02 (a1A Z) λU i V g B=>?_
 split at B
 ·cases B
 ·clear g;subst B;rcases (a1j J).2.2 (x,.local) (List.mem_filter.mpr ⟨V,by simpa using U⟩) rfl with a | a
  ·exact c59 (by refine u7 (R7 O) ?_;exact List.mem_map_of_mem (List.contains_iff_mem.mp a)) d
  ·exact F.dom x Y a
theorem b4F {l:List Cv} {t t2:List Nm} {j O:It} (g:Gok G c)
  (K:∀ e x,trC k (sub c sc) e=some x->c60 m (sub c sc) e x) (L:c6T m (sub c sc) elt x) (M:C9 (trC k (sub c sc)) ifs=some l) (z:c69 m c iter j)
  (p:c69 m (sub c sc) iter2 O) (Y:a0X tg2=some (t2,one2)) (J:W7 (X8 (sub c sc)) tg2=true) (b:a2S O one2=true)
  (f:a1i c sc (a0t tg)=true) (i:a0X tg=some (t,one)) (d:W7 (X8 (sub c sc)) tg=true) (v:a2S j one=true) :
  c6T m c (.ListComp elt [⟨tg,iter,[],0⟩,⟨tg2,iter2,ifs,0⟩] sc pos) (a3J x t one j t2 one2 O (a1G l))/\c7g m c (.ListComp elt [⟨tg,iter,[],0⟩,⟨tg2,iter2,ifs,0⟩] sc pos) (a3J x t one j t2 one2 O (a1G l)):=by
 have o:∀ (A:Around) (s:Shared) (H:Hp) (r:En) (U:Env) (Z:f7->Hp->Prop) (use:Option (Value->Sem Unit)) (Q:Value->Shared->Prop),AOk n m A->c6U H s.heap->c6V U c r H s.heap->(a3J x t one j t2 one2 O (a1G l)) c61 r H Z ->
   (use=none->∀ D V B,c64 O1 H s V B->Z (.ref D) V->Q (.ref D) B) ->
   (∀ u,use=some u->∃ P,(∀ D V B,c64 O1 H s V B->Z (.ref D) V->wpAny c6W A (u (.ref D)) (λ_ y=>a5H G w U c V B P y) A7 B)/\∀ B,a5H G w U c H s P B->Q .none B) ->
   wpAny c6W A (comprehension (.ListComp elt [⟨tg,iter,[],0⟩,⟨tg2,iter2,ifs,0⟩] sc pos) sc U (firstIterPos [⟨tg,iter,[],0⟩,⟨tg2,iter2,ifs,0⟩] pos) (PySem.newList []) false (eval iter U) use) Q A7 s:=by
  intro A s H r U Z use Q a R F q C E;refine a4M (g:=⟨tg,iter,[],0⟩) (gs:=[⟨tg2,iter2,ifs,0⟩]) rfl f z a R F q (λxs H5 T h e=>?_) (λs Q h=>c5h h) (λI D cenv s Rr N h=>codeAny_compStart_list h (c5d (N _ h) (λ_ _ h=>h) λ_ _ e=>e.elim)) (b2C g.toGk a K L M p Y J b i d v (b6O F f i Y J)) C E;rw[(show T=.list xs from e)];exact h
 refine ⟨λA s H r U Q a R F q=>?_,λA s H r U Z P u a R F q S=>?_⟩
 ·exact o A s H r U Q none (Got G w (j6 G) H s Q) a R F q (λ_ D V B X q=>⟨.ref D,V,.ref,X,q⟩) λu e=>nomatch e
 ·exact c5b (o A s H r U Z (some u) (λ_ B=>wpAny c6W A (pure ()) (λ_ B=>a5H G w U c H s P B) A7 B) a R F q (λe=>nomatch e) λu' e=>by have W:=B8 e;clear e;subst W;exact ⟨P,S,λB h=>c5c h⟩)
variable {t:c6S}{i j:Nat}
theorem a6u:∀ {l m:List (f7×f7)},l.map a0q=m.map a0q->l=m:=by
 intro l;induction l with
 | nil =>
  intro U;cases U with
  | nil =>
   intro _;exact rfl
  | cons _ _ =>
   intro h;exact nomatch h
 | cons q l O =>
  intro B;cases B with
  | nil =>
   intro h;obtain ⟨a,b⟩:=q;exact nomatch h
  | cons J m =>
   intro h;obtain ⟨a,b⟩:=q;obtain ⟨V,Y⟩:=J;injection h with h1 h2
   injection h1 with h1
   injection h1 with h1 h3
   injection h3 with h3
   cases h1;cases h3;rw[(O h2)];rfl
theorem b3X {k v:f7} {p:f7×f7} (h:p∈J2 es k v):p.1=k\/∃ q∈es,q.1=p.1:=by
 unfold J2 at h
 split at h
 ·refine i9 (c6D h) λq B e=>.inr ⟨q,B,?_⟩
  split at e <;> (clear h;subst e;first | rfl | assumption | simp_all)
 ·rcases c6H h with h | h
  ·exact .inr ⟨p,h,rfl⟩
  ·simp only [List.mem_singleton] at h;exact .inl (by rw[h];rfl)
theorem a8p {k v:f7}:(J2 es k v).length<=es.length+1:=by
 unfold J2
 split <;> simp
theorem a5M {l:List (f7×f7)} {k v:f7}:A9 (l++[(k,v)])=J2 (A9 l) k v:=by
 unfold A9;rw[List.foldl_append];rfl
theorem a4P {κ:Nat}:∀ (l:List (f7×f7)) (es:List (f7×f7)),(∀ p∈l,D7 7 p.1=true/\G8 p.1=κ)->(∀ p∈es,D7 7 p.1=true/\G8 p.1=κ)->∀ p∈l.foldl (λes p=>J2 es p.1 p.2) es,D7 7 p.1=true/\G8 p.1=κ:=by
 intro l;induction l with
 | nil=>intro es _ h p B;exact h p B
 | cons q l U=>intro es J h p B;exact U _ (λp B=>J p (c5t _ B)) (λp B=>by
  rcases b3X B with e | ⟨z,O,e⟩
  ·rw[e];exact J q c5u
  ·refine u7 e ?_;exact h z O) p B
theorem a4j:∀ (l:List (f7×f7)) (es:List (f7×f7)),(l.foldl (λes p=>J2 es p.1 p.2) es).length<=es.length+l.length:=by
 intro l;induction l with
 | nil=>intro es;simp
 | cons q l J =>
  intro es;have:=J (J2 es q.1 q.2);have B:=a8p (es:=es) (k:=q.1) (v:=q.2);simp only [List.foldl_cons,List.length_cons];exact c3l this B
theorem y5.own {mo:N2} (R:c6U H h) (O:H D=none) (B:G.base D=none) (r:a2B G w h D mo):c6U (H.set D mo) h:=by
 refine ⟨λa o e=>⟨(R.base a o e).1,?_⟩,λa q e=>?_⟩
 ·unfold Hp.set;rw[(c57 (by clear r O;rintro rfl;rw [B] at e;cases e))]
  exact (R.base a o e).2
 ·unfold Hp.set at e
  split at e
  ·rename_i h;clear B O;subst h;have J:=B8 e;clear e;subst J;exact r
  ·exact R.objs a q e
theorem y5.disown {mo:N2} (R:c6U (H.set D mo) h) (U:H D=none) (J:G.base D=none):c6U H h/\a2B G w h D mo:=by
 refine ⟨⟨λa o e=>?_,λa B e=>?_⟩,R.objs D mo (by unfold Hp.set;rw[(c58 rfl)];rfl)⟩
 ·refine eA (R.base a o e) λO q=>⟨O,?_⟩;unfold Hp.set at q
  split at q
  ·cases q
  ·exact q
 ·refine R.objs a B ?_;unfold Hp.set;rw[(c57 (by clear J R;rintro rfl;rw [U] at e;cases e))]
  exact e
theorem b00 {κ:Nat} {x y:f7} {j u:Value} {Q:Unit->Shared->Prop} (v:A.units+64 < cLine) (a:Acc (.dict κ) G w H s.heap D acc) (R:c6U H s.heap) (c:D7 7 x=true/\G8 x=κ) (F:j6 G s.heap x j) (I:j6 G s.heap y u) (hz:acc.length<=n8)
  (q:∀ U,Acc (.dict κ) G w H U.heap D (acc++[a0q (x,y)])->c64 (·=D) H s H U->Q () U):wpAny c6W A (dictSet D j u) Q A7 s:=by
 refine J9 a λK m r Y Z=>?_;clear a;refine j8 m λl V B i C=>?_;clear m;subst C;have n:=R.own Y Z r;have d:∀ p∈A9 l,D7 7 p.1=true/\G8 p.1=κ:=a4P l [] i (λp B=>(c5P B).elim);refine a57 (H:=H.set D (.dict (A9 l) V)) v n (by unfold Hp.set;rw[(c58 rfl)];rfl) (k:=x) ⟨c.1,λp B=>(d p B).2.trans c.2.symm⟩ F I ?_ λU J=>?_
 ·have:=a4j l [];rw [B,List.length_map] at hz;unfold A9;simp only [List.length_nil] at this;exact c2v hz this
 ·have O:(H.set D (.dict (A9 l) V)).set D (.dict (J2 (A9 l) x y) (dep (A9 l) x V))=H.set D (.dict (J2 (A9 l) x y) (dep (A9 l) x V)):=by
   funext b
   unfold Hp.set
   split <;> rfl
  rw [O] at J;refine eA (J.rel.disown Y Z) λt E=>q U ⟨_,⟨l++[(x,y)],_,by rw[B];rw[c54];rfl,λp B=>?_,by rw[a5M];rfl⟩,E,Y,Z⟩ ⟨t,⟨λb o e f g=>?_,λ_ e=>.inl e,λ_ e=>e,λb e g=>?_⟩,J.gens,J.os⟩
  ·rcases c6H B with h | h
   ·exact i p h
   ·simp only [List.mem_singleton] at h;rw[h];exact c
  ·refine J.ext.keep b o e ?_ (λz=>z);unfold Hp.set;rw[(c57 g)];exact f
  ·exact J.ext.there b e λz=>z
end
end Mine.Internal
namespace Mine.Internal
variable {k:Nat}{t:c6S}{x:Ev}{X:Addr->Prop}{H:Hp}{o:Obj}{v:f7}{u:Value}{h:Heap}{a:Addr}{vs:Array Value}{p:Pos}{xs:Array Nat}{l:List Int}{es:List c6S}{A:Around}{s:Shared}{Q:Value->Shared->Prop}{y:Ev}{E:Value->Shared->Prop}{I d:Addr}{ep:Nat}{e:c6S}{ents:Array DictEntry}{r:En}{D:Addr}{i m j:Nat}{c:Cx}
theorem m6.kept {h':Heap} {tk:Nat} {d:Drawn} (R:c6U H s.heap) (q:∀ b o,s.heap.get? b=some o->h'.get? b=some o):c64 O1 H s H {s with heap:=h',toks:=tk,drawn:=d}:=by
 have tup:∀ b J,IsTup s.heap b J->IsTup h' b J:=λb J O=>by refine i9 O λo B r=>?_;clear O;exact ⟨o,q b o B,r⟩
 refine ⟨⟨λa o e=>⟨q a o (R.base a o e).1,(R.base a o e).2⟩,λa U e=>(R.objs a U e).mono tup λo B=>q a o B⟩,⟨λa o e _ _=>q a o e,λ_ e=>.inl e,λ_ e=>e,λa e _=>?_⟩,rfl,rfl⟩;refine eE (c6J e) λo e=>?_;rw[(q a o e)];rfl
theorem m6.give {H B:Hp} {s J:Shared} {mo:N2} (st:c64 O1 H s B J) (V:s.heap.get? a=none) (O:B a=none) (U:G.base a=none) (r:a2B G w J.heap a mo):c64 O1 H s (B.set a mo) J:=by
 refine ⟨st.rel.own O U r,⟨λb o e f g=>st.ext.keep b o e f g,λb e=>?_,λb e=>?_,st.ext.there⟩,st.gens,st.os⟩
 ·unfold Hp.set at e
  split at e
  ·rename_i q;clear r U O;subst q;exact .inr (.inl V)
  ·exact st.ext.fresh b e
 ·unfold Hp.set
  split
  ·rfl
  ·exact st.ext.grow b e
noncomputable def b3A (b:BI):Value:=match b with
 | .len=>.builtin "len" | .sum=>.builtin "sum" | .max=>.builtin "max" | .min=>.builtin "min" | .sorted=>.builtin "sorted"
 | .list=>.type "list" | .tuple=>.type "tuple" | .dict=>.type "dict" | .int=>.type "int" | .str=>.type "str"
noncomputable def a2Y (lc:Program) (w:World) (G:Gi) (n m:Nat) (b:BI):Prop:=∀ (A:Around) (s:Shared) (H:Hp) (vs:List f7) (us:List Value) (Q:f7->Hp->Prop),AOk n m A->y5 G w H s.heap->m5 G s.heap vs us->biW b vs H Q ->
 wpAny (model lc w) A (call (b3A b) us) (Got G w (j6 G) H s Q) A7 s
abbrev c7h:=a2Y lc w G n
theorem a0Y {us:List Value} (r:m5 G h [v] us):∃ u,us=[u]/\j6 G h v u:=by
 replace r:=B6 r;revert r;intro q;refine j8 q λu O B r J=>?_;clear q;subst B;subst J;exact ⟨u,rfl,r⟩
theorem a8T (h:k<=n8):k<=sizeLine:=by rw[sizeLine_eq];unfold n8 at h;exact c5r h (c5o rfl)
theorem a7o (h:k<=n8):((k:Int) < 2 ^ 63):=by unfold n8 at h;exact c4t h
theorem b5b:∀ {es:List (f7×f7)} {ents:List DictEntry} {l:List Int},K6 G w h es ents->es.map (·.1)=l.map f7.int ->
  ∃ kvs:List (Int×Value),kvs.map (·.1)=l/\Pairs (PySem.intKind lc w) ents kvs/\∀ e∈ents,∃ k,(PySem.intKind lc w).is k e.key=true/\e.hash=(PySem.intKind lc w).hash k:=by
 intro es;induction es with
 | nil =>
  intro ents l r e;cases b2d r;exact ⟨[],(List.map_eq_nil_iff.mp e.symm).symm,.nil,λ_ h=>nomatch h⟩
 | cons p es Y =>
  intro ents l r e;refine B0 (a25 r) λx t J q _ O c=>?_;clear r;subst J;cases l with
  | nil=>exact nomatch e
  | cons i l =>
   refine eA (List.cons.inj e) λB U=>p9 (Y c U) λkvs Z a b=>?_;have B:p.1=.int i:=B;rw [B] at q O;refine eE (J8 q) λd q=>?_;have is:(PySem.intKind lc w).is i x.key=true:=by rw[q];exact c6m i
   exact ⟨(i,x.val) :: kvs,c5z (i :: ·) Z,.cons is rfl a,λy V=>(c6K V).elim (λe=>e▸⟨i,is,O⟩) (b y)⟩
theorem a6W {a:Nat} (R:c6U H s.heap) (e:a8i H a l):∃ (kvs:List (Int×Value)) (ep:Nat),kvs.map (·.1)=l/\s.heap.DictAt (PySem.intKind lc w) a kvs ep:=by
 revert e;intro O;refine u6 O λb ep e q=>?_;clear O;refine V7 (R.objs _ _ e) λJ _ ents V U=>p9 (b5b U q) λkvs B Y Z=>⟨kvs,ep,B,_,ents,V,⟨rfl,rfl,rfl⟩,rfl,λe h=>Z e (Array.mem_toList_iff.mpr h),Y,?_⟩;rw[B];rw [q] at J;exact (List.pairwise_map.mp J).imp λh e=>h (c5z f7.int e)
theorem b8Q (g:Gk G):c7h m .len:=λA s H y us Q p R o h=>by
 revert h;intro J;refine G2 J λv i V j O h=>?_;clear J;subst V;refine i9 (a0Y o) λu U b=>?_;subst U;rcases j with (rfl | ⟨a,rfl,e⟩) | ⟨a,l,rfl,e,rfl⟩
 ·refine j8 (U0 b) λa c Y t r=>?_;clear o b;subst Y;have q:(i.length:Int)=(c.toArray.size:Int):=by rw[r.length];rw[c6w];rfl
  rw [q] at h;exact PyProof.Rows.len_tuple t (by refine u7 q ?_;exact a7o O) ⟨_,H,.int,.toks R,h⟩
 ·clear o;cases P7 b;refine u6 (R.objs _ _ e) λc k n r=>?_;have q:(i.length:Int)=(c.size:Int):=by rw[r.length];rw[c5V];rfl
  rw [q] at h;exact call_len_list ⟨_,n,rfl,_,rfl⟩ (by refine u7 q ?_;exact a7o O) ⟨_,H,.int,.toks R,h⟩
 ·clear o;cases P7 b;refine u6 (a6W R e) λB w Z d=>?_;subst Z;have q:((B.map (·.1)).map f7.int).length=B.length:=by rw[(c5q ..)];rw[(c5q ..)];rfl
  rw [q] at h O;revert e;intro f;refine u6 f λx _ e _=>?_;clear f;exact call_len_dict (R.sysm g e) d.dictOf (a7o O) ⟨_,H,.int,.toks R,h⟩
theorem a41 {q:Array Value} (B:IntsAre q.toList l):∃ xs:Array (Int×Tok),q=intItems xs/\xs.size=l.length/\∀ i,i < l.length->numAt xs i=l.getD i 0:=by
 obtain ⟨q⟩:=q;have:∀ (q:List Value) (l:List Int),IntsAre q l->∃ xs:List (Int×Tok),q=xs.map (λp=>Value.int p.1 p.2)/\xs.map (·.1)=l:=by
  intro q l h;induction h with
  | nil=>exact ⟨[],rfl,rfl⟩
  | cons i t _ U=>refine i9 U λxs J O=>?_;clear U;exact ⟨(i,t) :: xs,by rw[c6a];rw[J];rfl,by rw[c6a];rw[O];rfl⟩
 refine i9 (this q l B) λxs J O=>?_;clear B;subst O;refine ⟨xs.toArray,by show _=intItems _;unfold intItems;rw[List.map_toArray];rw[J];rfl,by simp,λi B=>?_⟩
 unfold numAt;simp only [List.length_map] at B;simp [B]
theorem a9b (l:List Int) (f:Nat->Int) (h:∀ i,i < l.length->f i=l.getD i 0):preSum f l.length=l.sum:=by
 have:∀ k,k<=l.length->preSum f k=(l.take k).sum:=by
  intro k;induction k with
  | zero=>intro _;simp [preSum]
  | succ k B =>
   intro q;show preSum f k+f k=_;rw[(B (by exact Nat.le_of_succ_le q))];rw[(h k (by exact Nat.lt_of_succ_le q))];rw[c6k];rw[List.sum_append]
   simp [List.getD_eq_getElem?_getD,List.getElem?_eq_getElem (show k < l.length by exact Nat.lt_of_succ_le q)]
 rw[(this _ (c5w _))];rw[c6n];rfl
theorem b8U:c7h m .sum:=λA s H j us Q U R d h=>by
 revert h;intro q;refine j8 q λa l B e h=>?_;clear q;subst B;refine i9 (a0Y d) λu J c=>?_;subst J;clear d;cases P7 c;refine u6 (R.objs _ _ e) λn k Z r=>p9 (a41 r.toInts) λo O b Y=>?_;clear r;subst O;refine sum_intListG U.h ⟨_,Z,rfl,_,rfl⟩ λf i g V=>?_;rw[b];rw[(a9b l _ Y)];exact ⟨_,H,.int,.kept R V,h⟩
theorem b2g (l:List Int):∀ x,x<=l.foldl max x/\(∀ y∈l,y<=l.foldl max x)/\(l.foldl max x=x\/l.foldl max x∈l):=by
 induction l with
 | nil=>intro x;exact ⟨Int.le_refl _,λy hy=>(c5P hy).elim,.inl rfl⟩
 | cons a l J =>
  intro x;refine eAA (J (max x a)) λq B h3=>⟨c6l (Int.le_max_left _ _) q,λy hy=>?_,?_⟩
  ·rcases c6K hy with rfl | hy
   ·exact c6l (Int.le_max_right _ _) q
   ·exact B y hy
  ·rcases h3 with h3 | h3
   ·show List.foldl max (max x a) l=x\/_;rewrite [h3];rcases Int.le_total x a with h | h
    ·right;rw[List.foldl_cons];rw[h3];rw[(Int.max_eq_right h)];exact c5u
    ·left;exact Int.max_eq_left h
   ·exact .inr (c5t _ h3)
theorem b2h (l:List Int):∀ x,l.foldl min x<=x/\(∀ y∈l,l.foldl min x<=y)/\(l.foldl min x=x\/l.foldl min x∈l):=by
 induction l with
 | nil=>intro x;exact ⟨Int.le_refl _,λy hy=>(c5P hy).elim,.inl rfl⟩
 | cons a l J =>
  intro x;refine eAA (J (min x a)) λq B h3=>⟨c6l q (Int.min_le_left _ _),λy hy=>?_,?_⟩
  ·rcases c6K hy with rfl | hy
   ·exact c6l q (Int.min_le_right _ _)
   ·exact B y hy
  ·rcases h3 with h3 | h3
   ·show List.foldl min (min x a) l=x\/_;rewrite [h3];rcases Int.le_total x a with h | h
    ·left;exact Int.min_eq_left h
    ·right;rw[List.foldl_cons];rw[h3];rw[(Int.min_eq_right h)];exact c5u
   ·exact .inr (c5t _ h3)
theorem b4M (h:l≠[]):b0c l∈l/\∀ y∈l,y<=b0c l:=by
 cases l with
 | nil=>exact c59 rfl h
 | cons x r =>
  exact eAA (b2g r x) λq B J=>⟨J.elim (λe=>List.mem_cons.mpr (.inl e)) (c5t _),λy O=>(c6K O).elim (λe=>e▸q) (B y)⟩
theorem b4O (h:l≠[]):b4N l∈l/\∀ y∈l,b4N l<=y:=by
 cases l with
 | nil=>exact c59 rfl h
 | cons x r =>
  exact eAA (b2h r x) λq B J=>⟨J.elim (λe=>List.mem_cons.mpr (.inl e)) (c5t _),λy O=>(c6K O).elim (λe=>e▸q) (B y)⟩
theorem a8H (h:i < l.length):l.getD i 0∈l:=by
 rw[c5H];rw[(c5s h)];exact List.getElem_mem h
theorem a84 {y:Int} (h:y∈l):∃ i,i < l.length/\l.getD i 0=y:=by
 obtain ⟨i,q,e⟩:=List.mem_iff_getElem.mp h;exact ⟨i,q,by rw[c5H];rw[(c5s q)];exact e⟩
theorem b8R:c7h m .max:=λA s H K us Q g R F h=>by
 revert h;intro J;refine G2 J λa l Y e B h=>?_;clear J;subst Y;refine i9 (a0Y F) λu U E=>?_;subst U;clear F;cases P7 E;refine u6 (R.objs _ _ e) λL k y r=>p9 (a41 r.toInts) λq Z O f=>?_;clear r;subst Z;have d:0 < l.length:=List.length_pos_iff.mpr B;refine max_intList g.h ⟨_,y,rfl,_,rfl⟩ (c1o O d) λv G I z x=>eA (argBest_gt (numAt q) (q.size - 1)) λp w=>?_
 refine eE (intItems_at z) λt V=>?_;clear z;subst V;have b:argBest (λi j=>decide (numAt q i > numAt q j)) (q.size - 1) < l.length:=by exact c2t O d p
 have n:numAt q (argBest (λi j=>decide (numAt q i > numAt q j)) (q.size - 1))=b0c l:=by
  refine eA (b4M B) λC D=>i9 (a84 C) λi c o=>Int.le_antisymm ?_ ?_
  ·rw[(f _ b)];exact D _ (a8H b)
  ·refine u7 o ?_;refine u7 (f i c) ?_;exact w i (by exact Nat.le_sub_one_of_lt (Nat.lt_of_lt_of_eq c O.symm))
 rw[n];exact ⟨_,H,.int,.kept R x,h⟩
theorem b8S (g:Gk G):c7h m .min:=λA s H vs us Q C R T h=>by
 revert h;intro B;refine G2 B λa l Z e q h=>?_;clear B;subst Z;refine i9 (a0Y T) λu Y S=>?_;subst Y;clear T;cases P7 S;refine u6 (a6W R e) λkvs ep c d=>?_;subst c;revert e;intro r;refine u6 r λes _ e _=>?_;clear r;have n:0 < kvs.length:=List.length_pos_iff.mpr λz=>q (by rw[z];rfl)
 have p:(kvs.map (·.1)).length=kvs.length:=c5q ..;have K:=kdl_dict (knd:=PySem.intKind lc w) (d:=a) (kvs:=kvs) (ep:=ep) (R.sysm g e);have val:∀ i v,(∃ k x,kvs[i]?=some (k,x)/\(PySem.intKind lc w).is k v=true)->∃ t,v=.int ((kvs.map (·.1)).getD i 0) t:=λi v y=>by
  refine u6 y λk x J O=>?_;clear y;refine eE (Value.isInt_shape O) λt f=>?_;clear O;subst f;exact ⟨t,by rw[c5H];rw[c5x];rw[J];rfl⟩
 refine call_min_walk (j8 (K.iter A.in1 s C.h d) λoI St U W X=>U _ _ ⟨s.heap.objs.size,_,_,_,_,St,_,rfl,W,X,λb hb=>?_,n,CmpOf.ints_lt _ val,λv h' tk M L=>?_⟩)
 ·rw[(size_push' ..)];rcases c6K hb with e | hb
  ·rw[e];exact c5J _
  ·rw[(c6I hb)];exact c6y (K.there _ d).2
 ·refine eA (argBest_lt (λi=>(kvs.map (·.1)).getD i 0) (kvs.length - 1)) λJ O=>eE (val _ _ M) λt V=>?_;clear M;subst V;refine eA (b4O q) λN P=>i9 (a84 N) λi I E=>?_;have D:=Int.le_antisymm (E▸O i (by exact Nat.le_sub_one_of_lt (c5G I (c5K p)))) (P _ (a8H (l:=kvs.map (·.1)) (by rw[p];exact c5v J (Nat.sub_lt n Nat.one_pos))))
  rw[D];exact ⟨_,H,.int,.kept R λb o j=>L b o (λF=>c59 (c5n j) (by rw[(c6I F)];exact c5U _)) (c5i _ j),h⟩
theorem b8P:c7h m .int:=λA s H Z us Q Y R V h=>by
 revert h;intro B;refine i9 B λi J h=>?_;clear B;subst J;refine i9 (a0Y V) λu q U=>?_;subst q;refine eE (J8 U) λt O=>?_;clear V U;subst O;exact call_int_int ⟨_,H,.int,.refl R,h⟩
theorem b8L {i:Int} {n:Nat} (h:-(n:Int) < i/\i < n):i.natAbs < n:=by omega
theorem b8T:c7h m .str:=λA s H d us Q c R b h=>by
 revert h;intro J;refine p9 J λi Z V h=>?_;clear J;subst Z;refine i9 (a0Y b) λu q a=>?_;subst q;refine eE (J8 a) λt Y=>?_;clear b a;subst Y;refine PySem.P.str_of_int ?_ ⟨_,H,.str,.toks R,h⟩;have O:((2 ^ 60:Nat):Int)=2 ^ 60:=by decide
 have U:i.natAbs < 2 ^ 60:=b8L (by rw[O];exact V)
 by_cases B:i.natAbs=0
 ·rw[B];decide
 ·have:=(Nat.log2_lt B).mpr U;exact c5r this (c5o rfl)
theorem b6x:c7h m .list:=λA s H n us Q l R j h=>by
 revert h;intro B;refine j8 B λa Z O e h=>?_;clear B;subst O;refine i9 (a0Y j) λu U i=>?_;subst U;clear j;cases P7 i;refine u6 (R.objs _ _ e) λY k g r=>?_;have c:Z.length=Y.size:=by rw[r.length];rw[c5V];rfl
 refine call_list_seq a (.inl rfl) g rfl rfl (λd b f q=>?_) (by refine u7 c ?_;exact a8T h.1)
 have V:c64 O1 H s H {s with heap:=d}:=m6.kept (tk:=s.toks) R f
 have J:=B5 R (c5w s.heap.objs.size);exact ⟨.ref _,_,.ref,V.give (mo:=.list Z) J.1 J.2.1 J.2.2 ⟨Y,b,q,V.vreps R r⟩,h.2 _ J.2.1⟩
theorem b3B:c7h m .tuple:=λA s H n us Q l R i h=>by
 revert h;intro B;refine G2 B λv j V J g h=>?_;clear B;subst V;refine i9 (a0Y i) λu U q=>?_;subst U;rcases J with rfl | ⟨a,rfl,e⟩
 ·have Y:=q;replace q:=U0 q;refine j8 q λa c O t r=>?_;clear q i;subst O;exact call_tuple_tup t ⟨_,H,Y,.refl R,h⟩
 ·clear i;cases P7 q;refine u6 (R.objs _ _ e) λc k f r=>?_;have d:j.length=c.size:=by rw[r.length];rw[c5V];rfl
  refine call_tuple_list ⟨_,f,rfl,_,rfl⟩ (λb J=>?_) (by refine u7 d ?_;exact a8T g)
  have Z:c64 O1 H s H {s with heap:=b}:=m6.kept (tk:=s.toks) R J
  exact (a7d (s:={s with heap:=b}) (t:=s.toks) (Q:=Q) Z.rel (Z.vreps R r) h).after Z
variable {ld:Env}{pos:Pos}{tg:c6S}
theorem a1J.after {H J:Hp} {s U O:Shared} {Q:En->Hp->Prop} {u:Unit} (st:c64 (FX ld) H s J U) (x:a1J G w ld c J U Q u O):a1J G w ld c H s Q u O :=
 by refine j8 x λY V F B q=>?_;clear x;exact ⟨Y,V,F,st.trans B,q⟩
noncomputable def ST (lc:Program) (w:World) (G:Gi) (n m:Nat) (c:Cx) (tg:c6S) (t:Tv):Prop :=
 ∀ (A:Around) (s:Shared) (H:Hp) (r:En) (ld:Env) (v:f7) (u:Value) (Q:En->Hp->Prop),AOk n m A->y5 G w H s.heap->Q3 G w ld c r H s.heap->j6 G s.heap v u ->
  t (j3 G.F n) v r H Q->wpAny (model lc w) A (assign tg ld u) (a1J G w ld c H s Q) A7 s
theorem a5o {l k:List Value} {Q:Unit->Shared->Prop} (h:Q () s):wpAny c6W A (release l k) Q E s:=λΓ p _=>by rw[(Sem.wp_release ..)];exact h
theorem b4G {B:Array Value} {z:Nat} {k:Int} {t:Tok} {y:Value} {Q:Unit->Shared->Prop} (V:s.heap.get? a=some {cls:=.type "list",data:=.seq B z}) (h0:0<=k) (q:k < 2 ^ 63) (O:k < B.size)
  (Z:Q () {s with heap:=s.heap.update a (Obj.mapSeq (·.setIfInBounds k.toNat y))}):wpAny c6W A (setItem (.ref a) (.int k t) y) Q E s:=by
 have U:s.heap.IsList a B:=⟨_,V,rfl,z,rfl⟩;unfold setItem
 try with_reducible refine c5e ?_
 first | refine c5b (c5c ?_) | skip
 refine c5b (wpAny_sequenceKey U.typeIs (by decide) ?_)
 refine c5b (wpAny_callSpecial?_slot (name:=Str.ofString "__setitem__") U.typeIs slot_list_setitem (c5f slot_list_setitem U.typeIs entry_list_setitem ?_ (args_list_setitem _ _ _)));show wpAny _ _ (Builtin.List.listSubscript? (.int k t)>>=_) _ _ s;refine c5b (wpAny_listSubscript_int (fitsIndex_of h0 q) ?_);clear q;refine eE (Int.eq_ofNat_of_zero_le h0) λj Y=>?_;clear h0;subst Y
 have O:j < B.size:=by exact Int.ofNat_lt.mp O
 have J:B[j]?=some B[j]:=c5X O;refine c5b (c5b (wpAny_seqItemAt V rfl (c5c ?_)));rw[J];refine c5b (wpAny_setSeqItemAt V rfl ?_)
 first
  | exact c5b (c5c (c5c ⟨.none,rfl,c5c Z⟩))
  | exact c5c ⟨.none,rfl,c5c Z⟩
theorem b0F {p q x:f7} {v u y:Value} {Q:Hp->Prop} (i:AOk n m A) (R:c6U H s.heap) (Y:j6 G s.heap p v) (Z:j6 G s.heap q u) (b:j6 G s.heap x y) (h:c02 p q x H Q) :
  wpAny c6W A (setItem v u y) (λ_ c=>∃ O,c64 O1 H s O c/\Q O) A7 s:=by
 have o:A.units+65 < cLine:=by have:=i.units;exact zo9 this
 rcases h with ⟨a,g,k,rfl,e,rfl,j,U,B,h⟩ | ⟨a,F,E,rfl,e,l,B,h⟩
 ·cases P7 Y;refine eE (J8 Z) λt J=>?_;clear Z;subst J;refine u6 (R.objs _ _ e) λf z V r=>?_;have C:g.length=f.size:=by rw[r.length];rw[c5V];rfl
  refine b4G V j (by unfold n8 at B;exact c33 U B) (by exact lt_of_lt_of_eq U (c5z Nat.cast C)) ?_
  have d:=R.update (h':=s.heap.update a (Obj.mapSeq λw=>w.setIfInBounds k.toNat y)) (mo':=.list (g.set k.toNat x)) e (c5m ..) λtup=>⟨f.setIfInBounds k.toNat y,_,IsL.update V _,by
   rw[Array.toList_setIfInBounds];exact (r.mono tup).set _ (b.mono tup)⟩
  exact ⟨_,⟨d.1,d.2,rfl,rfl⟩,h⟩
 ·cases P7 Y;exact b25 o R e l Z b B λc D=>⟨_,D,h⟩
theorem b7H {x:Str} {a:Nm} (h:a1e x=some a) (k:c.var x=true):ST lc w G n m c (.Name x pos) (l5 a):=λA s H r Z v u Q Y R F U q=>by
 refine eA (A5 h) λO B=>?_;clear h;subst B;rw[(arm_assign_Name ..)];exact c5b (c5g (a3v false R F k O U λb J V=>⟨_,H,J,V.weaken λ_ z=>z,q⟩))
theorem b9K {o i:c6S} {a b:Ev} (ha:c6T m c o a) (h:c6T m c i b):ST lc w G n m c (.Subscript o i pos) (a0W a b):=λA s H r d v u Q U R F y q=>by
 rw[(arm_assign_Subscript ..)];refine c5b (c5e (l7 (ha A s H r d _ U R F q) λp E f z t B j=>?_));refine c5b (c5e (l7 (h A z f r d _ U B.rel (F.step R B) j) λI D C K x J k=>?_));have V:=B.trans J;refine c5b (c5g (c5b (c5e (c5d (b0F U V.rel (J.vrep B.rel t) x (V.vrep R y) k) (λ_ L Z=>?_) λ_ _ e=>e))))
 refine i9 Z λg Y l=>?_;clear Z;have O:=V.trans Y;exact a5o ⟨r,g,F.step R O,O.no,l⟩
theorem b7G {o:c6S} {a:Ev} {x:Str} {y:Nm} (g:Gok G c) (ha:c6T m c o a) (d:a1e x=some y) (b:c.attrs.contains x=true):ST lc w G n m c (.Attribute o x pos) (R6 a y):=λA s H r h v u Q Z R F l q=>by
 refine eA (A5 d) λf O=>?_;clear d;subst O;rw[(arm_assign_Attribute ..)];refine c5b (c5e (l7 (ha A s H r h _ Z R F q) λp z t C k B i=>?_));refine c5b (c5g (c5b (c5e (c5d (b0D g B.rel f b k (B.vrep R l) i) (λ_ D V=>?_) λ_ _ e=>e))));refine i9 V λY U j=>?_;clear V;have J:=B.trans U;exact a5o ⟨r,Y,F.step R J,J.no,j⟩
theorem b5G {t:Tv} (g:Gok G c) (O:∀ e x,P6 k c e=some x->c6T m c e x) (h:a9w k c tg=some t):ST lc w G n m c tg t:=by
 cases tg with
 | Name x p =>
  refine eA (t3 h) λB h=>i9 (n5 h) λa q U=>?_;subst U;exact b7H q B
 | Subscript o i p =>
  refine eA (t3 h) λB h=>i9 (g9 h) λa q h=>i9 (g9 h) λb J h=>?_;have V:=B8 h;clear h;subst V;exact b9K (O _ _ q) (O _ _ J)
 | Attribute o x p =>
  refine eA (t3 h) λB h=>i9 (g9 h) λa q h=>i9 (g9 h) λb J h=>?_;have Y:=B8 h;clear h;subst Y;exact b7G g (O _ _ q) J B
 | _=>exact x9 h
theorem a2w {t:Tv} (h:a9w k c (.Starred e p)=some t):False:=x9 h
theorem P8 (h:∀ q p,e≠.Starred q p):assignEach (e :: es) ld=(false,assign e ld) :: assignEach es ld:=by
 cases e <;> first | rfl | exact c59 rfl (h _ _)
theorem b2b:∀ {es:List c6S} {q:List Tv},C9 (a9w k c) es=some q->(assignEach es ld).findIdx? (·.1)=none/\(assignEach es ld).length=q.length:=by
 intro es;induction es with
 | nil=>intro q h;have d:=B8 h;clear h;subst d;exact ⟨rfl,rfl⟩
 | cons e es Z =>
  intro q h;refine j8 (y6 h) λa b U V B=>?_;subst B;refine eA (Z V) λJ O=>?_;rw[(P8 λf p Y=>by clear h;subst Y;exact a2w U)];refine b9 List.findIdx?_cons ?_
  exact ⟨by rw[J];rfl,c5z (·+1) O⟩
theorem b8N (g:Gok G c) (D:∀ e x,P6 k c e=some x->c6T m c e x) (z:AOk n m A):∀ (es:List c6S) (V:List Tv) (vs:List f7) (us:List Value) (s:Shared) (H:Hp) (r:En) (Q:En->Hp->Prop),C9 (a9w k c) es=some V ->
  c6U H s.heap->c6V ld c r H s.heap->m5 G s.heap vs us->b7K c61 V vs r H Q->wpAny c6W A (assignInOrder ((assignEach es ld).map (·.2)) us) (a1J G w ld c H s Q) A7 s:=by
 intro es;induction es with
 | nil =>
  intro V vs us s H r Q h R F B q;have K:=B8 h;clear h;subst K;revert q;intro l;refine eA l λL q=>?_;clear l;subst L;replace B:=a0D B;subst B;exact c5c ⟨r,H,F,.refl R,q⟩
 | cons e es E =>
  intro V vs us s H r Q h R F B q;refine j8 (y6 h) λt d j Y b=>?_;subst b;revert q;intro O;refine u6 O λv S Z q=>?_;clear O;subst Z;replace B:=B6 B;revert B;intro U;refine j8 U λu f a N B=>?_;clear U;subst a;rw[(P8 λT p C=>by clear h;subst C;exact a2w j)]
  refine c5b (c5e (c5d (b5G g D j A s H r ld v u _ z R F N q) (λ_ P i=>?_) λ_ _ e=>e));refine j8 i λM y o J I=>?_;clear i;exact c5d (E d S f P y M Q Y J.rel o (J.ext.vreps R (a3i F) B) I) (λ_ _ x=>a1J.after J x) λ_ _ e=>e
theorem c06 {t:Tv} (g:Gok G c) (Z:∀ e x,P6 k c e=some x->c6T m c e x) (h:trT k c tg=some t):ST lc w G n m c tg t:=by
 cases B:a4I tg with
 | none=>unfold trT at h;rw [B] at h;exact b5G g Z h
 | some D =>
  unfold trT at h;rw [B] at h;refine i9 (n5 h) λz J U=>?_;subst U;cases tg with
  | Tuple a E p =>
   have j:=B8 B;clear B h;subst j;intro A s H r ld v u Q Y R F o q;revert q;intro O;refine p9 O λC i f q=>?_;clear O;rw[(arm_assign_Tuple ..)];refine eA (b2b (ld:=ld) J) λb d=>c5b (c5g ?_);unfold unpack;rw[b];rw[d];refine c5b (c5e (a0v g.toGk Y.h R o i f λus y l V=>?_));exact c5d (b8N g Z Y _ z C us y H r Q J V.rel (F.step R V) l q) (λ_ _ x=>a1J.after V.no x) λ_ _ e=>e
  | _=>exact x9 B
noncomputable def c3B (G:Gi) (h:Heap) (f:Fl) (x:Flow):Prop:=match f with
 | .next=>x=.next
 | .ret v=>∃ u,x=.ret u/\j6 G h v u
noncomputable def a4f (G:Gi) (w:World) (ld:Env) (c:Cx) (H:Hp) (s:Shared) (Q:A2) (x:Flow) (s':Shared):Prop :=
 ∃ f r' H',c3B G s'.heap f x/\m6 G w (FX ld) H s H' s'/\Q3 G w ld c r' H' s'.heap/\Q f r' H'
theorem a4f.after {H q:Hp} {s J B:Shared} {Q:A2} {x:Flow} (st:c64 (FX ld) H s q J) (g:a4f G w ld c q J Q x B):a4f G w ld c H s Q x B :=
 by refine Y1 g λf U O a b d e=>?_;clear g;exact ⟨f,U,O,a,st.trans b,d,e⟩
noncomputable def SS (lc:Program) (w:World) (G:Gi) (n m:Nat) (c:Cx) (st:Stmt) (x:Bv):Prop :=
 ∀ (A:Around) (s:Shared) (H:Hp) (r:En) (ld:Env) (Q:A2),AOk n m A->y5 G w H s.heap->Q3 G w ld c r H s.heap ->
  x (j3 G.F n) r H Q->wpAny (model lc w) A (exec st ld) (a4f G w ld c H s Q) A7 s
noncomputable def SB (lc:Program) (w:World) (G:Gi) (n m:Nat) (c:Cx) (l:List Stmt) (x:Bv):Prop :=
 ∀ (A:Around) (s:Shared) (H:Hp) (r:En) (ld:Env) (Q:A2),AOk n m A->y5 G w H s.heap->Q3 G w ld c r H s.heap ->
  x (j3 G.F n) r H Q->wpAny (model lc w) A (execs l ld) (a4f G w ld c H s Q) A7 s
abbrev c7l:=SB lc w G n
theorem b9l:c7l m c [] (toB []):=λA s H r B Q _ R F q=>wpAny_execs_nil ⟨.next,r,H,rfl,.refl R,F,q⟩
abbrev c7m:=SS lc w G n
theorem b7n {st:Stmt} {x:Bv} {l:List Stmt} {b:Bv} (h:c7m m c st x) (i:c7l m c l b):c7l m c (st :: l) (d9 x b):=λA s H r Y Q V R F q=>by
 refine wpAny_execs_cons (c5d (h A s H r Y _ V R F q) (λf n g=>?_) λ_ _ e=>e);refine Y1 g λd a U J B O Z=>?_;clear g;cases d with
 | next =>
  cases (show f=.next from J);exact c5d (i A n U a Y Q V B.rel O Z) (λ_ _ g=>g.after B) λ_ _ e=>e
 | ret v =>
  refine i9 J λu j k=>?_;clear J;subst j;exact ⟨.ret v,a,U,⟨u,rfl,k⟩,B,O,Z⟩
theorem a9i {q:Cx->Stmt->Option Bv} (Z:∀ st x,q c st=some x->c7m m c st x):∀ {l:List Stmt} {b:Bv},a5Z q c l=some b->c7l m c l b:=by
 intro l b h;refine i9 (n5 h) λe B J=>?_;subst J;clear h;induction l generalizing e with
 | nil=>have d:=B8 B;clear B;subst d;exact b9l
 | cons st l a =>
  refine j8 (y6 B) λx U V Y O=>?_;clear B;subst O;exact b7n (Z st x V) (a U Y)
theorem a9W:∀ (k:Nat) (l:List Str),l.length<=k->l.eraseDups.length<=l.length/\(l.eraseDups.length=l.length->l.Nodup):=by
 intro k;induction k with
 | zero =>
  intro l h;cases l with
  | nil=>exact ⟨c5w _,λ_=>c6r⟩
  | cons _ _=>exact c59 h (Nat.not_succ_le_zero _)
 | succ k Z =>
  intro B;cases B with
  | nil =>
   intro _;exact ⟨c5w _,λ_=>c6r⟩
  | cons a l =>
   intro h;rw[List.eraseDups_cons];have q:=List.length_filter_le (λb=>!b==a) l;simp only [List.length_cons] at h ⊢;refine eA (Z (l.filter λb=>!b==a) (c2n h q)) λU V=>⟨by exact c2x q U,λe=>?_⟩
   have J:(l.filter λb=>!b==a).length=l.length:=by exact c2f q U e
   have O:l.filter (λb=>!b==a)=l:=List.filter_eq_self.mpr (List.length_filter_eq_length_iff.mp J);rw [O] at V;refine List.nodup_cons.mpr ⟨λY=>?_,V (by rw [O] at e;exact Nat.add_right_cancel e)⟩
   have:=List.length_filter_eq_length_iff.mp J a Y;simp at this
theorem b5x {x y:Nm} {v u:f7} (h:x≠y):(r.set x v).set y u=(r.set y u).set x v:=by
 funext z
 by_cases q:z=x
 ·subst q;rw[(O7 h)];rw[T9];rw[T9];rfl
 ·by_cases B:z=y
  ·clear h;subst B;rw[T9];rw[(O7 q)];rw[T9];rfl
  ·rw[(O7 B)];rw[(O7 q)];rw[(O7 q)];rw[(O7 B)];rfl
theorem a9A {xs:List Nm}:∀ {vs:List f7} {x:Nm} {v u:f7},xs.Nodup->(x,v)∈xs.zip vs->(x,u)∈xs.zip vs->v=u:=by
 induction xs with
 | nil=>intro vs x v u _ h _;simp at h
 | cons a xs Y =>
  intro vs x v u O B J;cases vs with
  | nil=>simp at B
  | cons b vs =>
   refine eA (List.nodup_cons.mp O) λV O=>?_;rw [List.zip_cons_cons] at B J;rcases c6K B with U | h1'
   ·rcases c6K J with q | h2'
    ·exact (c5z (·.2) U).trans (c5z (·.2) q).symm
    ·clear J B;cases U;exact c59 (List.of_mem_zip h2').1 V
   ·rcases c6K J with q | h2'
    ·clear J B;cases q;exact c59 (List.of_mem_zip h1').1 V
    ·exact Y O h1' h2'
theorem a5J {xs:List Nm} {vs:List f7} (V:xs.Nodup) (U:xs.length=vs.length):bindL xs.reverse vs.reverse r=bindL xs vs r:=by
 unfold bindL;have e:xs.reverse.zip vs.reverse=(xs.zip vs).reverse:=(List.reverse_zipWith U).symm;rw[e];refine List.Perm.foldl_eq' (List.reverse_perm _) (λp J q O z=>?_) r;obtain ⟨x,v⟩:=p;obtain ⟨y,u⟩:=q;have J:=List.mem_reverse.mp J;have O:=List.mem_reverse.mp O;by_cases B:x=y
 ·subst B;rw[(a9A V J O)];rfl
 ·exact b5x B
theorem m5.reverse:∀ {l:List f7} {us:List Value},m5 G h l us->m5 G h l.reverse us.reverse:=by
 intro l;induction l with
 | nil=>intro us r;replace r:=a0D r;subst r;exact .nil
 | cons v l B =>
  intro us r;replace r:=B6 r;revert r;intro q;refine j8 q λu U J O r=>?_;clear q;subst J;rw[List.reverse_cons];rw[List.reverse_cons];exact (B r).append (.cons O .nil)
theorem b45 {xs:List Str} (h:xs.Nodup) (ha:∀ x∈xs,A1 x=true):(xs.map nm).Nodup:=by
 induction xs with
 | nil=>exact c6r
 | cons x xs U =>
  refine eA (List.nodup_cons.mp h) λB J=>List.nodup_cons.mpr ⟨λO=>?_,U J λy q=>ha y (c5t _ q)⟩;exact i9 (c6D O) λy q e=>B (O6 (ha y (c5t _ q)) (ha x c5u) e▸q)
theorem b3C:∀ (xs:List Str) (l:List f7) (us:List Value) (s:Shared) (H:Hp) (r:En) (Q:Unit->Shared->Prop),(∀ x∈xs,A1 x=true/\c.var x=true)->l.length=xs.length->c6U H s.heap->c6V ld c r H s.heap->m5 G s.heap l us ->
  (∀ Y,c6V ld c (bindL (xs.map nm) l r) H Y.heap->c64 (FX ld) H s H Y->Q () Y)->wpAny c6W A (assignInOrder (xs.map λn=>bindName ld n) us) Q A7 s:=by
 intro xs;induction xs with
 | nil =>
  intro l us s H r Q _ U R F J q;cases l with
  | cons _ _=>exact nomatch U
  | nil =>
   replace J:=a0D J;subst J;exact c5c (q s F (.refl R))
 | cons x xs j =>
  intro l us s H r Q b U R F J q;cases l with
  | nil=>exact nomatch U
  | cons v l =>
   replace J:=B6 J;revert J;intro O;refine j8 O λu a V k J=>?_;clear O;subst V;refine eA (b x c5u) λg h=>c5b (c5e (a3v false R F h g k λd e B=>?_));have B:c64 (FX ld) H s H d:=B.weaken λ_ z=>z;exact j l a d H _ Q (λy i=>b y (c5t _ i)) (Nat.succ.inj U) B.rel e (B.ext.vreps R (a3i F) J) λm f Z=>q m f (B.trans Z)
noncomputable def X4 (ld:Env) (line:Nat) (e:c6S):Option Str:=swappedStores.match_8 (λ_=>Option Str) e (λid pos=>if ld.kindOf id==some .local&&pos.line==line then some id else none) λ_=>none
theorem b2P {q:Nat} {x:Str} (h:X4 ld q e=some x):∃ p,e=.Name x p:=by
 cases e with
 | Name id p =>
  unfold X4 at h;dsimp only at h
  split at h
  ·have B:=B8 h;clear h;subst B;exact ⟨p,rfl⟩
  ·cases h
 | _=>exact x9 h
theorem b2Q {q:Nat}:∀ {B:List c6S},(B.filterMap (X4 ld q)).length=B.length->∀ e∈B,∃ x,X4 ld q e=some x:=by
 intro B;induction B with
 | nil=>intro _ e he;exact (c5P he).elim
 | cons t B U =>
  intro h e he;have O:=List.length_filterMap_le (X4 ld q) B;cases J:X4 ld q t with
  | none=>rw [List.filterMap_cons_none J,List.length_cons] at h;exact (c1n h O).elim
  | some x =>
   rw [List.filterMap_cons_some J,List.length_cons,List.length_cons] at h;rcases c6K he with rfl | he
   ·exact ⟨x,J⟩
   ·exact U (Nat.succ.inj h) e he
theorem b0L {B k:Nat} {K:Calls}:∀ {O:List c6S} {J:List Tv} {vs:List f7} {r:En} {H:Hp} {Q:En->Hp->Prop},(∀ e∈O,∃ x,X4 ld B e=some x)->C9 (a9w k c) O=some J->vs.length=J.length->b7K K J vs r H Q ->
  (∀ x∈O.filterMap (X4 ld B),A1 x=true/\c.var x=true)/\(O.filterMap (X4 ld B)).length=vs.length/\Q (bindL ((O.filterMap (X4 ld B)).map nm) vs r) H:=by
 intro O;induction O with
 | nil =>
  intro J vs r H Q _ h _ q;have C:=B8 h;clear h;subst C;revert q;intro g;refine eA g λD q=>?_;clear g;subst D;exact ⟨λx U=>(c5P U).elim,rfl,q⟩
 | cons e O A =>
  intro J vs r H Q f h s q;refine j8 (y6 h) λt j V Y d=>?_;subst d;revert q;intro i;refine u6 i λv G E q=>?_;clear i;subst E;refine eE (f e c5u) λx U=>eE (b2P U) λp F=>?_;subst F;refine eA (t3 V) λl V=>i9 (n5 V) λa n b=>?_;subst b;refine eA (A5 n) λm Z=>?_;subst Z;refine eAA (A (λe o=>f e (c5t _ o)) Y (Nat.succ.inj s) q) λu w z=>?_
  rw[(List.filterMap_cons_some U)];refine ⟨λy hy=>?_,c5z (·+1) w,z⟩;rcases c6K hy with rfl | hy
  ·exact ⟨m,l⟩
  ·exact u y hy
theorem b5N {q vs:List c6S} {k Y:Nat} {p Z:Pos} (a:vs.all (constantsAlone 8)=false):swappedStores [.Tuple q k p] (.Tuple vs Y Z) ld=pure none \/
  ∃ B,swappedStores [.Tuple q k p] (.Tuple vs Y Z) ld=pure (some (q.filterMap (X4 ld B)))/\(q.filterMap (X4 ld B)).length=q.length/\(q.filterMap (X4 ld B)).Nodup:=by
 by_cases O:(!(q.length==2||q.length==3)||vs.length != q.length||ld.blockKind != .function)=true
 ·exact .inl (c58 O)
 by_cases U:(vs.any λx=>swappedStores.match_5 (λ_=>Bool) x (λ_ _=>true) λ_=>false)=true
 ·exact .inl ((c57 O).trans (c58 U))
 by_cases J:((q.filterMap (X4 ld ((q.head?.map (·.pos.line)).getD 0))).length != q.length||(q.filterMap (X4 ld ((q.head?.map (·.pos.line)).getD 0))).eraseDups.length != (q.filterMap (X4 ld ((q.head?.map (·.pos.line)).getD 0))).length)=true
 ·exact .inl ((c57 O).trans ((c57 U).trans (c58 J)))
 by_cases V:vs.all (foldedForSure 8)=true
 ·exact .inl ((c57 O).trans ((c57 U).trans ((c57 J).trans (c58 V))))
 refine .inr ⟨_,(c57 O).trans ((c57 U).trans ((c57 J).trans ((c57 V).trans (c57 (by rw[a];exact c5F))))),?_⟩
 rw [Bool.not_eq_true,Bool.or_eq_false_iff,bne_eq_false_iff_eq,bne_eq_false_iff_eq] at J;exact ⟨J.1,(a9W _ _ (c5w _)).2 J.2⟩
inductive b76 (ld:Env):c6S->c6S->Prop
 | mk:∀ ts k p vs k' p' line,swappedStores [.Tuple ts k p] (.Tuple vs k' p') ld=pure (some (ts.filterMap (X4 ld line)))->(ts.filterMap (X4 ld line)).length=ts.length->(ts.filterMap (X4 ld line)).Nodup->b76 ld (.Tuple ts k p) (.Tuple vs k' p')
theorem a5Y (q:a2k t e=false):swappedStores [t] e ld=pure none\/b76 ld t e:=by
 cases t with
 | List J p=>exact nomatch (show true=false from q)
 | Tuple J k p =>
  cases e with
  | Tuple V O U=>exact (b5N q).imp_right λB=>by refine p9 B λ_ a b c=>?_;clear B;exact ⟨_,_,_,_,_,_,_,a,b,c⟩
  | _=>exact .inl rfl
 | _=>exact .inl rfl
variable {one:Bool}{iter:c6S}{it:It}
theorem Q3.plain (F:c6V ld c r H h):interactive ld=false:=by
 unfold interactive;rw[F.kind];rfl
theorem b7F (V:c6T m c e x) (U:a0I e=false):c7m m c (.Expr e pos) (y8 x):=λA s H r Y Q O R F q =>
 wpAny_Expr_any (l7 (V A s H r Y _ O R F q) λp v J b a B Z=>⟨.next,r,J,rfl,B.no,F.step R B,Z⟩) F.plain (by clear V;cases e <;> first | rfl | exact nomatch U)
theorem b9J (U:c6T m c e x):c7m m c (.Return (some e) pos) (z5 x):=λA s H r V Q O R F q =>
 wpAny_Return_some (l7 (U A s H r V _ O R F q) λp v J a Z B Y=>⟨.ret p,r,J,⟨v,rfl,Z⟩,B.no,F.step R B,Y⟩)
theorem c05 {z:Cv} {a b:List Stmt} {x y:Bv} (d:c60 m c t z) (ha:c7l m c a x) (Z:c7l m c b y):c7m m c (.If t a b pos) (G6 z x y):=λA s H r O Q J R F q=>by
 refine wpAny_If (l7 (d A s H r O _ J R F q) λp v U Y f B V=>?_);cases (show p=v from f);cases p with
 | true=>exact c5d (ha A Y U r O Q J B.rel (F.step R B) (V.1 rfl)) (λ_ _ g=>g.after B.no) λ_ _ e=>e
 | false=>exact c5d (Z A Y U r O Q J B.rel (F.step R B) (V.2 rfl)) (λ_ _ g=>g.after B.no) λ_ _ e=>e
theorem a8b {f:Flow} {J:Shared} {P:En->Hp->Prop} {V:f7->En->Hp->Prop} {X:Flow->Prop} (g:a4f G w ld c H s (λf q B=>a2D f (P q B) λv=>V v q B) f J)
  (d:∀ q B,c64 (FX ld) H s B J->c6V ld c q B J.heap->P q B->X .next)
  (e:∀ v u q B,c64 (FX ld) H s B J->c6V ld c q B J.heap->j6 G J.heap v u->V v q B->X (.ret u)):X f:=by
 refine Y1 g λb q Z U O Y a=>?_;clear g;cases b with
 | next=>cases (show f=.next from U);exact d q Z O Y a
 | ret v=>refine i9 U λu h i=>?_;clear U;subst h;exact e v u q Z O Y i a
theorem b5F {z:Cv} {a:List Stmt} {x:Bv} (M:c60 m c t z) (ha:c7l m c a x):c7m m c (.While t a [] pos) (a5q z x):=λA s H r U Q K R F q=>by
 revert q;intro Y;refine eE Y λk q=>?_;clear Y;refine wpAny_While (codeAny_whileLoop (λk d=>∃ J B,c64 (FX U) H s B d/\c6V U c J B d.heap/\b6a (z c61) (x c61) k J B Q) (λk d I=>?_) k ⟨r,H,.refl R,F,q⟩);refine j8 I λJ B i C q=>?_;clear I;cases k with
 | zero=>exact q.elim
 | succ k =>
  refine c5d (M A d B J U _ K i.rel C q) (λb P L=>?_) λ_ _ e=>e.elim;refine j8 L λp E y O Y=>?_;clear L;have y:p=b:=y;subst y;have D:=C.step i.rel O;cases p with
  | false =>
   rw[(c57 c5F)];exact wpAny_execs_nil ⟨.next,J,E,rfl,i.trans O.no,D,Y.2 rfl⟩
  | true =>
   rw[(c58 rfl)];refine c5d (ha A P E J U _ K O.rel D (Y.1 rfl)) (λf h g=>?_) λ_ _ e=>e.elim;have Z:=i.trans O.no;refine a8b (X:=λf=>match f with
      | .next | .cont=>∃ m,m < k+1/\∃ J B,c64 (FX U) H s B h/\c6V U c J B h.heap/\b6a (z c61) (x c61) m J B Q
      | .brk=>a4f G w U c H s Q .next h
      | .ret v=>a4f G w U c H s Q (.ret v) h) g (λo l V j n=>?_) λv u o l V j N n=>?_
   ·exact ⟨k,c5J k,o,l,Z.trans V,j,n⟩
   ·exact ⟨.ret v,o,l,⟨u,rfl,N⟩,Z.trans V,j,n⟩
theorem b9I {k:Nat} {a:List Stmt} {x:Bv} {t:List Nm} (g:Gok G c) (a7:SIt lc w G n m c iter it) (ha:SB lc w G n m c a x) (W:a0X tg=some (t,one)) (hk:W7 c.var tg=true) (a3:a2S it one=true) :
  SS lc w G n m c (.For tg iter a [] pos) (Q6 t one it x):=λA s H r J Q al R F q=>by
 refine eA (a7 A s H r J _ al R F q) λL s2=>wpAny_For (c5d s2 (λxv t1 h1=>c5d h1 (λv t2 D=>?_) λ_ _ e=>e) λ_ _ e=>e) L;refine a1n D λI Z src St H1 q6 ok h0 fr a1 nf q=>?_;clear D;subst q6;have a5k:∀ b∈Z,H1 b=none/\G.base b=none:=λb N=>(fr b N).2;have dj:∀ b∈Z,¬ FX J b:=λb N h=>by
  rcases h with e | ⟨x,e⟩
  ·refine u6 F.loc λ_ o ho _=>?_;rw [<- e,(fr b N).1] at ho;cases ho
  ·refine S0 (F.own.2.2 x b e) λ_ _ _ u o e1 _=>?_;rw [(fr b N).1] at e1;cases e1
 have C:∀ a,a∈Z->¬ FX J a:=dj;refine codeAny_forLoop_any (λk L=>∃ i K B,c64 (λa=>a∈Z\/FX J a) H s B L/\c6V J c K B L.heap/\St i L.heap/\(∀ b∈Z,B b=none/\G.base b=none)/\a5T t one (x (j3 G.F n)) src k i K B Q) (λk L I'=>?_) nf ⟨0,r,H1,a1.no,F.step R a1,h0,a5k,q⟩;refine a8r I' λi K l st F1 T j q=>?_;clear I';have S:∀ {s':Shared} {H':Hp},c64 (λa=>a∈Z\/FX J a) H s H' s'->c64 (FX J) H s H' s':=λx=>⟨x.rel,x.ext.compress λa ha=>ha.elim (λh=>.inr (fr a h).1) .inl,x.gens,x.os⟩
 cases k with
 | zero=>exact q.elim
 | succ k =>
  refine p9 q λo hn q1 q2=>?_;clear q;refine c5d (ok.next A i L l o al.h st.rel T j hn) (λo' s2 D=>?_) λ_ _ e=>e.elim;have nt:=a5g ok T;cases o with
  | none =>
   refine eA D λq3 O=>?_;clear D;subst q3;have M:=st.trans (O.weaken (Y:=λa=>a∈Z\/FX J a) λ_ h=>.inl h);exact wpAny_execs_nil ⟨.next,K,l,rfl,S M,F1.extX st.rel O.ext nt C,q1 rfl⟩
  | some v =>
   refine i9 (q2 v rfl) λr2 N q=>a23 D λu q5 ru O _ a4 a2=>?_;clear D;subst q5;refine c5d (a2 tg (λ_ s3=>c64 (·∈Z) l s2 l s3/\St (i+1) s3.heap) (a7T W a3) λs3 U E=>⟨U,E⟩) (λ_ s3 h3=>?_) λ_ _ e=>e.elim;refine eA h3 λU E=>?_;clear h3;have F2:=F1.extX st.rel O.ext nt C;have a0:Q7 (·∈Z) s2.heap:=λa o vs n hX e1 _ e2=>by
    refine i9 (a4 a hX) λo' e3 e4=>?_;rw [e1] at e3;have q1:=B8 e3;clear e3;subst q1;exact e4 _ _ e2
   have F3:=F2.extX O.rel U.ext a0 C;have a5:=U.ext.vrep O.rel a0 ru;have M:=st.trans ((O.trans U).weaken (Y:=λa=>a∈Z\/FX J a) λ_ h=>.inl h);refine c5d (b5S false g.toGk al.h W hk N U.rel F3 a5 (Q:=λ_ P=>c6V J c r2 l P.heap/\c64 (FX J) l s3 l P) λP F4 V=>⟨F4,V.weaken λ_ z=>z⟩) (λ_ P h4=>?_) λ_ _ e=>e.elim;refine eA h4 λF4 V=>?_;clear h4
   have nw:∀ b∈Z,¬ FX J b:=dj;have p:St (i+1) P.heap:=a4z ok U.rel E V j nw (a3i F3);have y:=M.trans (V.weaken λ_ h=>.inr h);refine c5d (ha A P l r2 J _ al V.rel F4 q) (λf s5 gg=>?_) λ_ _ e=>e.elim;refine a8b (X:=λf=>match f with
      | .next | .cont=>∃ m,m < k+1/\∃ i K B,c64 (λa=>a∈Z\/FX J a) H s B s5/\c6V J c K B s5.heap/\St i s5.heap/\(∀ b∈Z,B b=none/\G.base b=none)/\a5T t one (x (j3 G.F n)) src m i K B Q
      | .brk=>a4f G w J c H s Q .next s5
      | .ret v=>a4f G w J c H s Q (.ret v) s5) gg (λr5 H5 d F5 q5=>?_) λv u r5 H5 d F5 a6 q5=>?_
   ·exact ⟨k,c5J k,i+1,r5,H5,y.trans (d.weaken λ_ h=>.inr h),F5,a4z ok V.rel p d j nw (a3i F4),a9a d j (ok.nons _ _ p) nw,q5⟩
   ·exact ⟨.ret v,r5,H5,⟨u,rfl,a6⟩,S (y.trans (d.weaken λ_ h=>.inr h)),F5,q5⟩
variable {acc:List f7}
theorem b7s:c6T m c (.Dict [] [] pos) a0e:=λA s H r J Q B R F q =>
 wpAny_Dict_empty ⟨.ref _,_,.ref,.alloc (t:=s.toks) R (a20 (.dict 0) (c5j _ rfl)),q _ R.fresh⟩
noncomputable def KVs (G:Gi) (h:Heap):List String->List f7->List (Value×Value)->Prop
 | [],xs,ps=>xs=[]/\ps=[]
 | k :: ks,xs,ps=>∃ x xs' p ps',xs=x :: xs'/\ps=p :: ps'/\j6 G h (.str k) p.1/\j6 G h x p.2/\KVs G h ks xs' ps'
theorem KVs.mono {h h':Heap} (k:∀ a vs,IsTup h a vs->IsTup h' a vs):∀ {ks:List String} {xs:List f7} {O:List (Value×Value)},KVs G h ks xs O->KVs G h' ks xs O:=by
 intro Z;induction Z with
 | nil =>
  intro _ _ e;exact e
 | cons _ _ Y =>
  intro _ _ J;obtain ⟨x,B,p,q,U,V,a,b,d⟩:=J;exact ⟨x,B,p,q,U,V,a.mono k,b.mono k,Y d⟩
theorem b5c (N:∀ e x,P6 k c e=some x->c6T m c e x) (z:AOk n m A):∀ (ks:List (Option c6S)) (es:List c6S) (O:List String) (l:List Ev) (s:Shared) (H:Hp) (Q:List f7->Hp->Prop),
  C9 a44 ks=some O->C9 (P6 k c) es=some l->ks.length=es.length->c6U H s.heap->c6V ld c r H s.heap->(a1B l) c61 r H Q ->
  wpAny c6W A (evalPairs (pairTrees ks es ld pos)) (λh g=>∃ xs Y,KVs G g.heap O xs h/\c64 O1 H s Y g/\Q xs Y) A7 s:=by
 intro ks;induction ks with
 | nil =>
  intro es O l s H Q a b d R F q;cases es with
  | cons _ _=>exact nomatch d
  | nil=>have f:=B8 a;clear a;subst f;have o:=B8 b;clear b;subst o;exact evalPairs_nil ⟨[],H,⟨rfl,rfl⟩,.refl R,q⟩
 | cons ke ks S =>
  intro es O l s H Q a b d R F q;cases es with
  | nil=>exact nomatch d
  | cons e es =>
   refine j8 (y6 a) λkk V K L j=>?_;subst j;refine j8 (y6 b) λx W Z M q9=>?_;clear b;subst q9;refine a36 (a4a K) λy T p i P=>?_;clear a K;subst i;refine evalPairs_cons (l7 (b5v (m:=m) (c:=c) (k:=T) (pos:=p) P A s H r ld (λv D=>v=.str kk/\D=H) z R F ⟨rfl,rfl⟩) λC ku E g rk J f=>?_);refine eA f λt X=>?_;clear f;subst t;subst X;have w:=F.step R J;refine c5b (l7 (N e x Z A g E r ld _ z J.rel w q) λv u Y s2 rv B o=>c5b (c5g (c5c ?_)))
   refine c5d (S es V W s2 Y _ L M (Nat.succ.inj d) B.rel (w.step J.rel B) o) (λh s3 Z=>?_) λ_ _ e=>e;refine j8 Z λxs I C U t=>?_;clear Z;exact ⟨v :: xs,I,⟨v,xs,_,h,rfl,rfl,U.vrep B.rel (B.vrep J.rel rk),U.vrep B.rel rv,C⟩,J.trans (B.trans U),t⟩
theorem b3a (h:AOk n m A):∀ (ks:List String) (xs:List f7) (O:List (Value×Value)) (acc:List f7) (s:Shared) (H:Hp) (Q:PUnit->Shared->Prop),KVs G s.heap ks xs O->Acc (.dict 1) G w H s.heap D acc->c6U H s.heap->acc.length+ks.length<=n8 ->
  (∀ Y,Acc (.dict 1) G w H Y.heap D (acc++((ks.map f7.str).zip xs).map a0q)->c64 (·=D) H s H Y->Q ⟨⟩ Y) ->
  wpAny c6W A (PySem.storeAll D O) Q A7 s:=by
 intro ks;induction ks with
 | nil =>
  intro xs O acc s H Q J a R _ q;refine eA J λj l=>?_;clear J;subst j;subst l;unfold PySem.storeAll;rw[List.forIn_nil];exact c5c (q s (by rw[(show acc++(((([]:List String).map f7.str).zip ([]:List f7)).map a0q)=acc from c6o _)];exact a) (.refl R))
 | cons k ks i =>
  intro xs O acc s H Q J a R U q;obtain ⟨x,d,p,V,rfl,rfl,o,r,J⟩:=J;rw [List.length_cons] at U;unfold PySem.storeAll;rw[(List.forIn_cons ..)];refine c5b (c5b (b00 (by have:=h.units;exact c5v (c5I (c5o rfl) _) this) a R ⟨rfl,rfl⟩ o r (by exact Nat.le_of_add_right_le U) λf g B=>c5c ?_))
  have tup:∀ b c,IsTup s.heap b c->IsTup f.heap b c:=λb c t=>B.ext.tup R a.nt t;refine i d V _ f H Q (J.mono tup) g B.rel (by rw[c50];simp only [List.length_cons,List.length_nil];exact c1U U) λu e Z=>?_
  refine q u ?_ (B.trans Z);rw [List.append_assoc] at e;exact e
theorem b2v:∀ {ks:List (Option c6S)} {q:List String},C9 a44 ks=some q->ks.all (·.isSome)=true:=by
 intro ks;induction ks with
 | nil=>intro _ _;exact rfl
 | cons k ks O =>
  intro q h;refine j8 (y6 h) λa b B J U=>?_;subst U;refine a36 (a4a B) λ_ _ _ V _=>?_;clear h B;subst V;show (true&&ks.all (·.isSome))=true;rw[(O J)];rfl
theorem b7r {ks:List (Option c6S)} {B:List String} {l:List Ev} (I:∀ e x,P6 k c e=some x->c6T m c e x) (b:C9 a44 ks=some B) (E:C9 (P6 k c) es=some l)
  (hz:ks.length<=15) (j:ks.length=es.length) (h0:ks≠[]):c6T m c (.Dict ks es pos) (a8q B (a1B l)):=λA s H r X Q i R F q=>by
 refine wpAny_Dict_any (b2v b) j h0 hz ?_;have st0:c64 O1 H s H {s with heap:=s.heap.push {cls:=.type "dict",data:=.dict #[]}}:=.push (t:=s.toks) R
 have C:(s.heap.push {cls:=.type "dict",data:=.dict #[]}).get? s.heap.objs.size=some {cls:=.type "dict",data:=.dict #[]}:=c5j _ rfl;have Y:=B5 R (c5w s.heap.objs.size);refine c5d (b5c I i ks es B l _ H _ b E j st0.rel (F.step R st0) q) (λL P O=>?_) λ_ _ e=>e;refine G2 O λT Z K J n M=>?_;clear O;have d:B.length<=15:=by refine u7 (a12 b) ?_;exact hz
 have p:Acc (.dict 1) G w H {s with heap:=s.heap.push {cls:=.type "dict",data:=.dict #[]}}.heap s.heap.objs.size []:=⟨_,a6P (.dict 1),a20 (.dict 1) C,Y.2.1,Y.2.2⟩
 have u:=p.ext st0.rel J.ext .no (λz=>z);refine b3a i B T L [] P Z _ K u J.rel (by simp only [List.length_nil];unfold n8;exact c5r (c5I d _) (c5o rfl)) λo h g=>?_
 refine J9 h λmo U N O y=>?_;clear h;refine j8 U λW v V _ f=>?_;clear U;subst f;rw [List.nil_append] at V;have V:=a6u V;subst V;have S:c64 O1 H s Z o:=by
  have x:c64 (·=s.heap.objs.size) H s Z o:=(st0.trans J).no.trans g;exact ⟨x.rel,x.ext.compress λa D=>.inr (by rw[(show a=s.heap.objs.size from D)];exact Y.1),x.gens,x.os⟩
 exact ⟨.ref _,_,.ref,S.give Y.1 O y N,M v _ O⟩
variable {k:f7}{v:Value}
noncomputable def a6O (lc:Program) (w:World) (G:Gi) (n m:Nat):Prop:=∀ (A:Around) (s:Shared) (H:Hp) (v:f7) (u:Value) (Q:l8),AOk n m A->y5 G w H s.heap->j6 G s.heap v u->(b0E v H λys=>alloc (.list ys) H Q)\/b0G v H (λys=>alloc (.list ys) H Q) ->
 wpAny (model lc w) A (call (.type "set") [u]) (λx s1=>m6 G w O1 H s H s1/\wpAny (model lc w) A (call (.builtin "sorted") [x]) (Got G w (j6 G) H s Q) A7 s1) A7 s
noncomputable def a6K (lc:Program) (w:World) (G:Gi) (n m:Nat):Prop:=∀ (A:Around) (s:Shared) (H:Hp) (v:f7) (u:Value) (Q:l8),AOk n m A->y5 G w H s.heap->j6 G s.heap v u->(b0E v H λys=>Q (.int ys.length) H)\/b0G v H (λys=>Q (.int ys.length) H) ->
 wpAny (model lc w) A (call (.type "set") [u]) (λx s1=>m6 G w O1 H s H s1/\wpAny (model lc w) A (call (.builtin "len") [x]) (Got G w (j6 G) H s Q) A7 s1) A7 s
theorem a6R {f:Str} {b:BI} (h:b6v.lookup f=some b):a1h.lookup f=some (b3A b):=by
 have:=N7 h;simp only [b6v,List.mem_cons,Prod.mk.injEq,List.not_mem_nil,or_false] at this;clear h;rcases this with ⟨rfl,rfl⟩ | ⟨rfl,rfl⟩ | ⟨rfl,rfl⟩ | ⟨rfl,rfl⟩ | ⟨rfl,rfl⟩ | ⟨rfl,rfl⟩ | ⟨rfl,rfl⟩ | ⟨rfl,rfl⟩ | ⟨rfl,rfl⟩ | ⟨rfl,rfl⟩ <;> rfl
theorem a2i (b:BI) (a:Addr):b3A b≠.ref a:=by cases b <;> exact λe=>nomatch e
theorem a4L {f:Str} {q:Value} (g:Gok G c) (R:c6U H s.heap) (F:c6V ld c r H s.heap) (d:v0 c f f=true) (Y:(f==("__debug__":Str))=false)
  (e:a1h.lookup f=some q) (i:∀ a,q≠.ref a) (b:(backTo pos (starEach es ld)).any (·.1)=false)
  (h:wpAny c6W A (spliced (backTo pos (starEach es ld))) (λus B=>G.K.In B.heap/\wpAny c6W A (call q us) Q A7 B) A7 s):wpAny c6W A (eval (.Call (.Name f p) es [] pos) ld) Q A7 s:=by
 exact b3Y (K0 d) λ_ Z U V=>eA (g.blt f q e U V) λJ O=>wpAny_Call_NameR (wpAny_Name (a47 g R F Z J O (N3 (P:=G.K.In) b (λh _=>a04 i h) h)) Y)
theorem c01 {f:Str} {b:BI} {l:List Ev} {k:Nat} (g:Gok G c) (h:c7h m b) (a:∀ e x,P6 k c e=some x->c6T m c e x) (O:C9 (P6 k c) es=some l) (Z:v0 c f f=true) (Y:(f==("__debug__":Str))=false) (V:b6v.lookup f=some b) :
  c6T m c (.Call (.Name f p) es [] pos) (O3 b (a1B l)):=λA s H r d Q J R F q =>
 a4L g R F Z Y (a6R V) (a2i b) (Q5 O) (l7 (a2d a es l O A s H r d pos _ J R F q) λo us U n j B i=>⟨B.rel.In g,v9 B (h A n U o us Q J B.rel j.1 i)⟩)
theorem a7i {f J:Str} {Z B:Value} {p pos L U:Pos} {P:f7->Hp->Prop} (g:Gok G c) (o:AOk n m A) (R:c6U H s.heap) (F:c6V ld c r H s.heap)
  (D:c6T m c e x) (O:∀ t p,e≠.Starred t p) (C:v0 c f f=true) (z:(f==("__debug__":Str))=false) (E:a1h.lookup f=some Z) (I:∀ a,Z≠.ref a)
  (d:v0 c J J=true) (b:(J==("__debug__":Str))=false) (i:a1h.lookup J=some B) (j:∀ a,B≠.ref a) (q:x c61 r H P)
  (h:∀ v u Y V,j6 G V.heap v u->c64 O1 H s Y V->P v Y->wpAny c6W A (call B [u]) (λy k=>G.K.In k.heap/\wpAny c6W A (call Z [y]) Q A7 k) A7 V) :
  wpAny c6W A (eval (.Call (.Name f p) [.Call (.Name J L) [e] [] U] [] pos) ld) Q A7 s:=by
 refine a4L g R F C z E I rfl (wpAny_items_cons (a4L g R F d b i j (by rw[(M5 O)];rfl) ?_))
 refine wpAny_items_cons (l7 (D A s H r ld _ o R F q) λv u Y V N l M=>wpAny_items_nil ⟨l.rel.In g,c5d (h v u Y V N l M) (λy k w=>wpAny_items_nil w) λ_ _ e=>e⟩) (M5 O)
theorem b1G:a1h.lookup a2N=some (.type "set"):=rfl
theorem b7x {p pos j B:Pos} {k:Nat} (g:Gok G c) (i:a6O lc w G n m) (Z:P6 k c e=some x) (f:c6T m c e x) (d:v0 c a0r a0r=true) (J:v0 c a2N a2N=true) :
  c6T m c (.Call (.Name a0r p) [.Call (.Name a2N j) [e] [] B] [] pos) (D3 x):=λA s H r C Q O R F q =>
 a7i g O R F f (λz p h=>by clear f;subst h;exact a0u Z) d (by decide +kernel) (a6R (b:=.sorted) rfl) (a2i .sorted) J (by decide +kernel) b1G (λa h=>nomatch h) q λv u Y t o V l =>
  c5d (i A t Y v u Q O V.rel o l) (λy D U=>⟨U.1.rel.In g,v9 V U.2⟩) λ_ _ e=>e
theorem b7t {p pos j B:Pos} {k:Nat} (g:Gok G c) (i:a6K lc w G n m) (Z:P6 k c e=some x) (f:c6T m c e x) (d:v0 c a5s a5s=true) (J:v0 c a2N a2N=true) :
  c6T m c (.Call (.Name a5s p) [.Call (.Name a2N j) [e] [] B] [] pos) (a4t x):=λA s H r C Q O R F q =>
 a7i g O R F f (λz p h=>by clear f;subst h;exact a0u Z) d (by decide +kernel) (a6R (b:=.len) rfl) (a2i .len) J (by decide +kernel) b1G (λa h=>nomatch h) q λv u Y t o V l =>
  c5d (i A t Y v u Q O V.rel o l) (λy D U=>⟨U.1.rel.In g,v9 V U.2⟩) λ_ _ e=>e
theorem a98 {acc:Array Value} {k:Nat} (J:ItemsOf (λi v=>∃ t,v=Value.int (0+i * 1) t) acc k) (a:(k:Int)=(((k:Int) - 0).toNat:Int)):m5 G h (C7 0 k) acc.toList:=by
 have B:∀ (l:List Value) (j:Nat),(∀ i v,l[i]?=some v->∃ t,v=Value.int ((j+i:Nat):Int) t)->m5 G h ((List.range' j l.length).map λ(i:Nat)=>f7.int (0+(i:Nat))) l:=by
  intro l;induction l with
  | nil=>intro j _;exact .nil
  | cons v l U =>
   intro j q;rw[c6d];rw[List.range'_succ];rw[c6a];refine eE (q 0 v rfl) λt V=>?_;subst V;refine .cons (by rw[(Int.zero_add ..)];exact .int) (U (j+1) λi u O=>?_)
   refine eE (q (i+1) u O) λt Z=>?_;clear O;subst Z;exact ⟨t,by rw[(show j+(i+1)=j+1+i by exact b99)];rfl⟩
 have:=B acc.toList 0 λi v q=>by
  rw [Array.getElem?_toList] at q;refine eE (J.2 i v q) λt Y=>?_;clear q;subst Y;exact ⟨t,by congr 1;exact c4f⟩
 rw [Array.length_toList,J.1] at this;unfold C7;rw[(show ((k:Int) - 0).toNat=k by exact c4e)];rw[List.range_eq_range']
 exact this
theorem b20 {p pos S d:Pos} {k:Nat} (g:Gok G c) (L:P6 k c e=some x) (P:c6T m c e x) (N:v0 c a2U a2U=true) (n:v0 c V3 V3=true) :
  c6T m c (.Call (.Name a2U p) [.Call (.Name V3 S) [e] [] d] [] pos) (a6Y x):=λA s H r ld Q y R F q =>
 a7i g y R F P (λe' p h=>by clear P;subst h;exact a0u L) N (by decide +kernel) (a6R (b:=.list) rfl) (a2i .list) n (by decide +kernel) (show a1h.lookup V3=some (.type "range") from rfl) (λa h=>nomatch h) q λv u i B W C f=>by
  revert f;intro z;refine J9 z λO T K l f=>?_;clear z;subst T;refine eE (J8 W) λt f=>?_;clear W;subst f;have Z:(n8:Int) < 2 ^ 62:=by decide
  refine call_range_1 ?_;have J:c64 O1 i B i {B with heap:=B.heap.push {cls:=.type "range",data:=.fields #[.int 0 B.toks,.int O t,.int 1 (B.toks+1)]},toks:=B.toks+1+1}:=.push C.rel
  refine ⟨J.rel.In g,?_⟩;have o:Builtin.Range.rangeSize 0 O 1=((O.toNat:Nat):Int):=(a5m 0 O).trans (by rw[(Int.sub_zero ..)];rfl)
  refine call_list_range y.h (IsRange.new ..) (small_one (by decide) (by decide) (by exact c6l (Int.neg_le_neg (Int.le_of_lt Z)) K) (by exact Int.lt_of_le_of_lt l Z)) o (by unfold n8 at l;exact c4b l) λI X U D M Y V=>?_
  have j:=B5 J.rel (c5w _);have w:c64 O1 i {B with heap:=B.heap.push {cls:=.type "range",data:=.fields #[.int 0 B.toks,.int O t,.int 1 (B.toks+1)]},toks:=B.toks+1+1} i {B with heap:=I,toks:=X}:=.kept J.rel M
  have E:C7 0 O=C7 0 ((O.toNat:Nat):Int):=by unfold C7;congr 2;exact c37
  refine ⟨.ref _,_,.ref,(C.trans J).trans (w.give (mo:=.list (C7 0 O)) j.1 j.2.1 j.2.2 ⟨U,D,Y,?_⟩),f _ j.2.1⟩;rw[E];exact a98 V (by exact Int.ofNat_inj.mpr rfl)
structure a51 (lc:Program) (w:World) (G:Gi) (n m:Nat):Prop where
 calls:G5 lc w G n
 bi:∀ b,a2Y lc w G n m b
 ss:a6O lc w G n m
 ls:a6K lc w G n m
noncomputable def b0X (lc:Program) (w:World) (G:Gi) (n m k:Nat):Prop:=∀ (c:Cx) (e:c6S) (x:Ev),Gok G c->P6 k c e=some x->SE lc w G n m c e x/\(a0I e=true->SU lc w G n m c e x)
noncomputable def b3m (lc:Program) (w:World) (G:Gi) (n m k:Nat):Prop:=∀ (c:Cx) (e:c6S) (x:Cv),Gok G c->trC k c e=some x->SC lc w G n m c e x
abbrev c7p:=a51 lc w G n
theorem mark (op:CmpOp) (e:c6S) (q:a6f e=false):behindInMarks op e=false:=by cases e <;> first | rfl | exact nomatch q
theorem b04 {q:c6S->Option Ev} {l:c6S} {op:CmpOp} {rs:List c6S} {x:Cv} (h:b9T q l op rs=some x) :
  ∃ r o a b,rs=[r]/\a2f op=some o/\q l=some a/\q r=some b/\behindInMarks op r=false/\x=o7 o a b:=by
 refine i9 (g9 h) λr Y h=>eA (t3 h) λJ h=>i9 (g9 h) λa O h=>i9 (g9 h) λb U h=>i9 (n5 h) λo V B=>?_;clear h;subst B;exact ⟨r,o,a,b,one?_some Y,V,O,U,mark op r (Bool.not_eq_true' _▸J),rfl⟩
section
variable {k:Nat} {c:Cx} (g:Gok G c) (hE:b0X lc w G n m k) (hC:b3m lc w G n m k)
include g hE hC
theorem c0y {x:Cv} (h:c08 (P6 k c) (trC k c) e=some x):c60 m c e x:=by
 have val:∀ {e:c6S} {x:Cv},(P6 k c e).map a2C=some x->(∀ M B,isTrue e M B=(do let v<-B;standAt e.pos;holding [v] (truthy v)))->c60 m c e x:=λ{e x} h F=>by
  refine i9 (n5 h) λy I i=>?_;subst i;exact b9q (hE c e y g I).1 F
 have q:=λe x h=>hC c e x g h;cases e with
 | UnaryOp o y p =>
  cases o with
  | Not =>
   refine i9 (n5 h) λz O j=>?_;subst j;exact b9p (q y z O)
  | _=>exact val h λ_ _=>rfl
 | BoolOp o vs p =>
  refine eA (t3 h) λV h=>i9 (n5 h) λl A n=>?_;subst n;cases o with
  | And=>exact b9m q _ _ A
  | Or=>exact c00 q _ _ A
 | Compare l U rs p =>
  replace h:b5W (P6 k c) l U rs=some x:=h;unfold b5W at h;have J:=λe x h=>(hE c e x g h).1;cases d:one? U with
  | some op =>
   rw [d] at h;cases one?_some d;obtain ⟨r,o,a,b,rfl,E,Y,Z,G,rfl⟩:=b04 h;exact b9n (a9S g.toGk) E (J l a Y) (J r b Z) G
  | none =>
   rw [d] at h;refine i9 (g9 h) λw f h=>?_;obtain ⟨X,N⟩:=w;refine i9 (g9 h) λu H h=>?_;obtain ⟨Q,C⟩:=u;refine eA (t3 h) λV h=>i9 (g9 h) λa Y h=>i9 (g9 h) λb Z h=>i9 (g9 h) λz O h=>i9 (g9 h) λT K h=>i9 (n5 h) λW L s=>?_;subst s;cases two?_some f;cases two?_some H;exact b5t (a9S g.toGk) K L (J l a Y) (J Q b Z) (J C z O) (mark N C (Bool.not_eq_true' _▸V))
 | IfExp t a b p =>
  refine i9 (g9 h) λz O h=>i9 (g9 h) λR V h=>i9 (g9 h) λS D h=>?_;have P:=B8 h;clear h;subst P;exact b9o (q t z O) (q a R V) (q b S D)
 | _=>exact val h λ_ _=>rfl
end
variable {elt:c6S}{ifs:List c6S}{sc:Scope}
section
variable {k:Nat} {c:Cx} (g:Gok G c) (hE:b0X lc w G n m k) (hC:b3m lc w G n m k)
include g hE
theorem b3I (J:c7p m) {f:Str} {args:List c6S} (h:b1N (P6 k c) c f args=some x):c6T m c (.Call (.Name f p) args [] pos) x:=by
 have Y:=λe x h=>(hE c e x g h).1;refine eA (t3 h) λv h=>eA (c6F v) λ_ d=>?_;have d:(f==("__debug__":Str))=false:=a8j▸(Bool.not_eq_true' _▸d:(f==a3q)=false);cases F:c.var f with
 | true =>
  rw [F] at h;refine i9 (g9 h) λy B h=>i9 (n5 h) λl Z N=>?_;subst N;refine eA (A5 B) λs I=>?_;subst I;exact b5u g J.calls Y Z (a5B F) s d
 | false =>
 rw [F] at h;refine eA (t3 h) λu h=>?_;have u:=a3P u;cases D:c.fns.contains f with
 | true =>
  rw [D] at h;refine i9 (g9 h) λy B h=>i9 (n5 h) λl Z P=>?_;subst P;refine eA (A5 B) λs K=>?_;subst K;exact b7q g J.calls Y Z u s D d
 | false =>
  rw [D] at h;cases C:c.clss.contains f with
  | true =>
   rw [C] at h;refine i9 (g9 h) λy B h=>i9 (n5 h) λl Z Q=>?_;subst Q;refine eA (A5 B) λs L=>?_;subst L;exact b9A g J.calls Y Z u s C d
  | false =>
   rw [C] at h;replace h:b5U (P6 k c) c f args=some x:=h;have t:b9R (P6 k c) c f args=some x->c6T m c (.Call (.Name f p) args [] pos) x:=λh=>by
    refine eA (t3 h) λv h=>i9 (g9 h) λb hb h=>i9 (g9 h) λl Z h=>?_;have q2:=B8 h;clear h;subst q2;exact c01 g (J.bi b) Y Z (c6F v).1 d hb
   unfold b5U at h;cases j:(one? args).bind a3D with
   | none=>rw [j] at h;exact t h
   | some q =>
    rw [j] at h;refine i9 (g9 j) λa1 w z=>?_;obtain ⟨f2,as⟩:=q;refine eEE (a34 z) λp2 a0 X=>?_;subst X;cases one?_some w;dsimp only at h;cases r:v0 c f2 a2N with
    | true =>
     rw [r] at h;refine i9 (g9 h) λa A i=>i9 (g9 i) λy B O=>?_;clear h i j z w t;cases one?_some A;refine eA (K0 r) λM _=>?_;subst M;cases V:v0 c f a0r with
     | true =>
      rw [V] at O;have G:=B8 O;clear O;subst G;refine eA (K0 V) λR _=>?_;subst R;exact b7x g J.ss B (Y a y B) V r
     | false =>
      rw [V] at O;cases U:v0 c f a5s with
      | true =>
       rw [U] at O;have H:=B8 O;clear O;subst H;refine eA (K0 U) λS _=>?_;subst S;exact b7t g J.ls B (Y a y B) U r
      | false=>rw [U] at O;exact x9 O
    | false =>
     rw [r] at h;cases E:v0 c f2 V3&&v0 c f a2U with
     | true =>
      rw [E] at h;refine eA (c6F E) λn o=>i9 (g9 h) λa A i=>i9 (n5 i) λy B O=>?_;clear h i j z w t;subst O;cases one?_some A;refine eA (K0 n) λT _=>?_;subst T;refine eA (K0 o) λW _=>?_;subst W;exact b20 g B (Y a y B) o n
     | false=>rw [E] at h;exact t h
theorem b6z (U:c7p m) {f:c6S} {args:List c6S} {q:List Keyword} (h:b5V (P6 k c) c f args q pos=some x):c6T m c (.Call f args q pos) x:=by
 refine eA (t3 h) λZ O=>?_;clear h;cases q with
 | cons _ _=>exact nomatch Z
 | nil =>
  cases f with
  | Attribute Y j B =>
   replace O:b5Y (P6 k c) Y j B args pos=some x:=O;refine eA (t3 O) λJ h=>eA (c6F J) λJ a=>eA (c6F J) λJ b=>i9 (g9 h) λo d h=>i9 (g9 h) λy i h=>i9 (g9 h) λl V h=>?_;have n:=B8 h;clear h;subst n;exact b7u g U.calls (hE c Y o g d).1 (λe x h=>(hE c e x g h).1) V i (by refine u7 (a12 V) ?_;exact c5y J) b a
  | Name f p=>exact b3I g hE U O
  | _=>exact x9 O
theorem b9L {v i:c6S} (h:b8v (P6 k c) v i=some x):c6T m c (.Subscript v i pos) x:=by
 have q:=λe x h=>(hE c e x g h).1;have V:∀ {i:c6S},((P6 k c v).bind λa=>(P6 k c i).bind λb=>some (m9 a b))=some x->a3d i=false->c6T m c (.Subscript v i pos) x:=λ{i} h f=>by
  refine i9 (g9 h) λa B h=>i9 (g9 h) λb J h=>?_;have j:=B8 h;clear h;subst j;exact b9v f (q v a B) (q i b J)
 cases i with
 | Slice Y d o p =>
  refine eA (t3 h) λr O=>?_;clear h;cases o with
  | some _=>exact nomatch r
  | none =>
   cases Y with
   | some Y =>
    refine eA (t3 O) λs h=>?_;cases d with
    | some _=>exact nomatch s
    | none =>
     refine i9 (g9 h) λa B h=>i9 (g9 h) λb J h=>?_;have l:=B8 h;clear h;subst l;exact b21 g.toGk (q v a B) (q Y b J)
   | none =>
    refine i9 (g9 O) λU Z h=>?_;clear O;cases Z;refine i9 (g9 h) λa B h=>i9 (g9 h) λb J h=>?_;have n:=B8 h;clear h;subst n;exact b7w g.toGk (q v a B) (q U b J)
 | _=>exact V h rfl
include hC
theorem c0T {B:Comprehension} (h:b9U (P6 k) (trC k) c elt B sc=some x):c6T m c (.ListComp elt [B] sc pos) x/\c7g m c (.ListComp elt [B] sc pos) x:=by
 obtain ⟨l,iter,i,a⟩:=B;refine eA (t3 h) λq h=>eA (c6F q) λq U=>eA (c6F q) λq O=>?_;cases (show a=0 from c6u q);refine i9 (g9 h) λJ b h=>?_;obtain ⟨t,one⟩:=J;refine i9 (g9 h) λj Z h=>i9 (g9 h) λifs Y h=>i9 (g9 h) λy d h=>eA (t3 h) λV h=>?_;have f:=B8 h;clear h;subst f
 exact b4E g (λe x h=>hC _ e x g.sub h) (hE _ elt y g.sub d).1 Y (a7O g (λe x h=>(hE c e x g h).1) Z) O b U V
theorem c0U {q B:Comprehension} (h:b9V (P6 k) (trC k) c elt q B sc=some x):c6T m c (.ListComp elt [q,B] sc pos) x/\c7g m c (.ListComp elt [q,B] sc pos) x:=by
 obtain ⟨L,iter,o,a⟩:=q;obtain ⟨I,V,p,n⟩:=B;refine eA (t3 h) λd h=>eA (c6F d) λf z=>eA (c6F f) λi w=>eA (c6F i) λj v=>eA (c6F j) λl u=>eA (c6F l) λr s=>?_;clear d f i j l;cases (show a=0 from c6u r)
 cases (show n=0 from c6u s);cases List.isEmpty_iff.mp (show o.isEmpty=true from u);refine i9 (g9 h) λY E h=>?_;obtain ⟨t,one⟩:=Y;refine i9 (g9 h) λK D h=>i9 (g9 h) λZ U h=>?_;obtain ⟨t2,b⟩:=Z;refine i9 (g9 h) λG O h=>i9 (g9 h) λifs C h=>i9 (g9 h) λy F h=>eA (t3 h) λJ h=>eA (c6F J) λJ A=>?_
 have H:=B8 h;clear h;subst H;exact b4F g (λe x h=>hC _ e x g.sub h) (hE _ elt y g.sub F).1 C (a7O g (λe x h=>(hE c e x g h).1) D) (a7O g.sub (λe x h=>(hE _ e x g.sub h).1) O) U z A v E w J
theorem c0F (K:c7p m) (h:c09 c (P6 k) (trC k) e=some x):c6T m c e x/\(a0I e=true->c7g m c e x):=by
 have V:=λe x h=>(hE c e x g h).1;have D:=λe x h=>hC c e x g h;cases e with
 | Constant v kk p =>
  refine ⟨?_,λh=>nomatch h⟩
  refine i9 (n5 h) λy O X=>?_;subst X;cases v with
  | none=>have S:=B8 O;clear O;subst S;exact b7v
  | bool b=>have T:=B8 O;clear O;subst T;exact b7p
  | int i=>have W:=B8 O;clear O;subst W;exact b9w
  | str s=>refine i9 (n5 O) λt ht a7=>?_;subst a7;exact b5v ht
  | _=>exact x9 O
 | Name y p =>
  refine ⟨?_,λh=>nomatch h⟩
  refine eA (t3 h) λB h=>?_;have hd:(y==("__debug__":Str))=false:=a8j▸(Bool.not_eq_true' _▸B:(y==a3q)=false);cases G:c.var y with
  | true =>
   rw [G] at h;refine i9 (n5 h) λa Y a0=>?_;subst a0;exact b9C Y (a5B G) hd
  | false =>
   rw [G] at h;refine eA (t3 h) λhk h=>i9 (n5 h) λa Y a1=>?_;subst a1;exact eA (c6F hk) λB J=>b9u g Y (a3P B) J hd
 | Tuple E kk p =>
  refine ⟨?_,λh=>nomatch h⟩
  refine eA (t3 h) λB h=>i9 (n5 h) λl F a2=>?_;subst a2;exact b9B (a2d V E l F) (c5y B)
 | List E p =>
  refine ⟨?_,λh=>nomatch h⟩
  refine eA (t3 h) λB h=>i9 (n5 h) λl F a3=>?_;subst a3;exact b9y (a2d V E l F) (c5y B)
 | Dict I w p =>
  refine ⟨?_,λh=>nomatch h⟩
  replace h:b0N (P6 k c) I w=some x:=h;unfold b0N at h;cases U:I.isEmpty&&w.isEmpty with
  | true =>
   rw [U] at h;have q9:=B8 h;clear h;subst q9;refine eA (c6F U) λB J=>?_;cases I with
   | cons _ _=>exact nomatch B
   | nil =>
    cases w with
    | cons _ _=>exact nomatch J
    | nil=>exact b7s
  | false =>
   rw [U] at h;refine eA (t3 h) λB h=>eA (c6F B) λB J=>i9 (g9 h) λa Y h=>i9 (g9 h) λb j h=>?_;have L:=B8 h;clear h;subst L;have J:=c6u J;refine b7r V Y j (c5y B) J λe=>?_;subst e;cases w with
   | nil=>exact nomatch U
   | cons _ _=>exact nomatch J
 | BinOp a o b p =>
  refine ⟨?_,λh=>nomatch h⟩
  refine i9 (g9 h) λo' n h=>i9 (g9 h) λy O h=>i9 (g9 h) λz U h=>?_;have M:=B8 h;clear h;subst M;exact b9s (V a y O) (V b z U) λA s H v u p q Q al R r1 r2 j=>b8V o o' n A s H v u p q Q al R r1 r2 j
 | UnaryOp o y p =>
  refine ⟨?_,λh=>nomatch h⟩
  cases o with
  | USub =>
   refine i9 (n5 h) λz U a4=>?_;subst a4;exact b9z (V y z U)
  | Not=>exact x9 h
  | _=>exact x9 h
 | BoolOp o w p =>
  refine ⟨?_,λh=>nomatch h⟩
  refine eA (t3 h) λB h=>i9 (g9 h) λa8 J h=>?_;obtain ⟨a,b⟩:=a8;refine i9 (g9 h) λy O h=>i9 (n5 h) λz U a5=>?_;subst a5;cases two?_some J;cases o with
  | And=>exact b9r (V a y O) (V b z U)
  | Or=>exact nomatch B
 | Compare l os rs p =>
  refine ⟨?_,λh=>nomatch h⟩
  refine i9 (g9 h) λop B h=>i9 (n5 h) λy O a6=>?_;subst a6;cases one?_some B;obtain ⟨r,o,a,b,rfl,hc,Y,j,hm,rfl⟩:=b04 O;exact b9t (a9S g.toGk) hc (V l a Y) (V r b j) hm
 | IfExp t a b p =>
  refine ⟨?_,λh=>nomatch h⟩
  refine i9 (g9 h) λz U h=>i9 (g9 h) λy1 B h=>i9 (g9 h) λy2 J h=>?_;have N:=B8 h;clear h;subst N;exact b9x (D t z U) (V a y1 B) (V b y2 J)
 | Attribute v a p =>
  refine ⟨?_,λh=>nomatch h⟩
  refine eA (t3 h) λB h=>eA (c6F B) λB J=>i9 (g9 h) λy O h=>i9 (g9 h) λz U h=>?_;have P:=B8 h;clear h;subst P;exact b7o g (V v y O) U B J
 | Subscript v i p=>exact ⟨b9L g hE h,λh=>nomatch h⟩
 | Call f args b0 p=>exact ⟨b6z g hE K h,λh=>nomatch h⟩
 | ListComp elt d C p =>
  have Z:c6T m c (.ListComp elt d C p) x/\c7g m c (.ListComp elt d C p) x:=by
   replace h:(match one? d with | some g=>b9U (P6 k) (trC k) c elt g C | none=>(two? d).bind λg=>b9V (P6 k) (trC k) c elt g.1 g.2 C)=some x:=h
   cases n:one? d with
   | some gg =>
    rw [n] at h;cases one?_some n;exact c0T g hE hC h
   | none =>
    rw [n] at h;refine i9 (g9 h) λa9 J h=>?_;obtain ⟨g1,g2⟩:=a9;cases two?_some J;exact c0U g hE hC h
  exact ⟨Z.1,λ_=>Z.2⟩
 | _=>exact x9 h
end
theorem c1a (q:c7p m):∀ k,b0X lc w G n m k/\b3m lc w G n m k:=by
 intro k;induction k with
 | zero=>exact ⟨λ_ _ _ _ h=>x9 h,λ_ _ _ _ h=>x9 h⟩
 | succ k O =>
  refine eA O λJ B=>?_;clear O;exact ⟨λc e x g h=>c0F g J B q h,λc e x g h=>c0y g J B h⟩
theorem b39 {α β:Type} {f g:α->Option β}:∀ {l:List α},(∀ a∈l,f a=g a)->l.filterMap f=l.filterMap g:=by
 intro l;induction l with
 | nil=>intro _;exact rfl
 | cons a l q =>
  intro h;have q:=q λb B=>h b (c5t _ B);rw[List.filterMap_cons];rw[List.filterMap_cons];rw[(h a c5u)];rw[q];rfl
theorem b0V {α:Type}:∀ (xs:List Str) (us:List α),us.length=xs.length->xs.Nodup->(∀ x∈xs,((xs.zip us).lookup x).isSome=true)/\xs.filterMap (λn=>((xs.zip us).lookup n).map (n,·))=xs.zip us:=by
 intro xs;induction xs with
 | nil =>
  intro _ _ _;exact ⟨λx O=>(c5P O).elim,rfl⟩
 | cons x xs Z =>
  intro U;cases U with
  | nil =>
   intro h _;exact nomatch h
  | cons u us =>
   intro h J;refine eA (List.nodup_cons.mp J) λO J=>eA (Z us (Nat.succ.inj h) J) λV Y=>?_;have B:∀ y∈xs,((x :: xs).zip (u :: us)).lookup y=(xs.zip us).lookup y:=λy hy=>by
    rw[List.zip_cons_cons];rw[c6c];have:(y==x)=false:=by
     cases e:y==x with
     | false=>rfl
     | true=>exact c59 (c6u e▸hy) O
    rw[this];rfl
   have q:((x :: xs).zip (u :: us)).lookup x=some u:=by rw[List.zip_cons_cons];rw[c6c];rw[(c6m ..)];rfl
   refine ⟨λy hy=>?_,?_⟩
   ·rcases c6K hy with rfl | hy
    ·rw[q];rfl
    ·rw[(B y hy)];exact V y hy
   ·refine b9 (List.filterMap_cons_some (b:=(x,u)) (by rw[q];rfl)) ?_
    show _=(x,u) :: xs.zip us;refine u7 Y ?_;exact c5z _ (b39 λy hy=>by rw[(B y hy)];rfl)
theorem a9M {name B:Str} {body:List Stmt} {q:Scope} {g O i J Z:Value} {Y:Option Addr} {args:List PySem.Arg} {h:List (Option c6S)} {us:List Value} (V:us.length=(args.map (·.arg)).length) (f:(args.map (·.arg)).Nodup) :
  bindArgs (fnOf name B ⟨[],args,none,[],h,none,[]⟩ body q .none g O i Y J Z) ⟨us,[]⟩=pure ((args.map (·.arg)).zip us):=by
 refine eA (b0V _ us V f) λa b=>?_;have j:seqItems? (Value.none)=pure none:=rfl;have d:((args.map (·.arg)).filter λn=>(((args.map (·.arg)).zip us).lookup n).isNone)=[]:=by
  refine D5 (List.filter_eq_nil_iff ..) ?_;intro x U;have:=a x U;cases e:((args.map (·.arg)).zip us).lookup x with
  | none=>rw [e] at this;exact nomatch this
  | some _=>exact c5F
 have c:(decide (us.length > (args.map (·.arg)).length)&&(none:Option PySem.Arg).isNone)=false:=by
  rw[V];rw[(c5Y (c5U _))];rfl
 refine Eq.trans (show bindArgs _ _=if (decide (us.length > ((args.map (·.arg)).length))&&(none:Option PySem.Arg).isNone)=true then _ else _ from rfl) ?_
 refine (c57 (by rw[c];exact c5F)).trans ?_
 refine (c57 (λe=>?_)).trans ?_
 ·have e:(!(((args.map (·.arg)).take _).filter λn=>(((args.map (·.arg)).zip us).lookup n).isNone).isEmpty)=true:=e;rw [List.filter_eq_nil_iff.mpr λx U=>List.filter_eq_nil_iff.mp d x (List.mem_of_mem_take U)] at e;exact nomatch e
 rewrite [show ∀ n,List.drop n ((none:Option (Array Value)).getD #[]).toList=[] from λn=>List.drop_nil];rw[List.zip_nil_right];exact c5z (pure:_->Sem (List (Str×Value))) ((c5z (List.filterMap _) (c6o _)).trans b)
variable {S:Addr}
theorem a9O:∀ (q:List (Str×NameKind)) (k:Nat) (acc:List (Str×Addr)) (x:Str),(acc.lookup x).isSome=true->((cellsFrom k q acc).lookup x).isSome=true:=by
 intro r;induction r with
 | nil =>
  intro _ _ _ h;exact h
 | cons B r J =>
  intro k acc x h;obtain ⟨y,O⟩:=B;unfold cellsFrom
  split
  ·refine J _ _ x ?_;rw[c6c]
   split
   ·rfl
   ·exact h
  ·exact J _ _ x h
theorem a55:∀ (q:List (Str×NameKind)) (k:Nat) (acc:List (Str×Addr)) (x:Str),(x,NameKind.cell)∈q->((cellsFrom k q acc).lookup x).isSome=true:=by
 intro l;induction l with
 | nil=>intro k acc x h;exact (c5P h).elim
 | cons z r B =>
  intro k acc x h;obtain ⟨y,J⟩:=z;unfold cellsFrom;rcases c6K h with e | h
  ·clear h;cases e;rw[(c58 (c6m _))];refine a9O r _ _ _ ?_;rw[c6c];rw[(c6m ..)];rfl
  ·split <;> exact B _ _ x h
noncomputable def b74 (G:Gi) (h:Heap) (ko:Str->Option NameKind) (m cm:Str->Option Value) (r:En):Prop:=∀ x v,A1 x=true->r (nm x)=some v ->
 (ko x=some .local->∃ u,m x=some u/\j6 G h v u)/\(ko x=some .cell->∃ u,cm x=some u/\j6 G h v u)
theorem b1Z {ko:Str->Option NameKind}:∀ (xs:List Str) (vs:List f7) (us:List Value) (m V:Str->Option Value) (r:En),(∀ x∈xs,A1 x=true)->m5 G h vs us->vs.length=xs.length->b74 G h ko m V r ->
  b74 G h ko (PySem.bindL ko (xs.zip us) m) (PySem.bindC ko (xs.zip us) V) (bindL (xs.map nm) vs r):=by
 intro xs;induction xs with
 | nil =>
  intro _ _ _ _ _ _ _ _ b;exact b
 | cons x xs n =>
  intro f;cases f with
  | nil =>
   intro _ _ _ _ _ _ Z _;exact nomatch Z
  | cons v vs =>
   intro us m V r g O Z b;replace O:=B6 O;revert O;intro i;refine j8 i λu c p j O=>?_;clear i;subst p;refine n vs c _ _ _ (λy U=>g y (c5t _ U)) O (Nat.succ.inj Z) λy d U e=>?_;by_cases q:y=x
   ·subst q;have e:(r.set (nm y) v) (nm y)=some d:=e;rw [T9] at e;have o:=B8 e;clear e;subst o;refine ⟨λB=>⟨u,?_,j⟩,λB=>⟨u,?_,j⟩⟩
    ·rw[(c58 B)];exact c58 rfl
    ·refine b9 (c57 (by rw[B];decide)) ?_;exact c58 rfl
   ·have e:(r.set (nm x) v) (nm y)=some d:=e;rw [O7 λe=>q (O6 U (g x List.mem_cons_self) e)] at e;refine eA (b y d U e) λk l=>⟨λB=>?_,λB=>?_⟩
    ·refine i9 (k B) λa J Y=>⟨a,?_,Y⟩
     split
     ·exact (c57 q).trans J
     ·exact J
    ·refine i9 (l B) λa J Y=>⟨a,?_,Y⟩
     split
     ·exact J
     ·exact (c57 q).trans J
theorem b6t:∀ {b:List PySem.Arg} {B:List Nm},C9 (λa=>a1e a.arg) b=some B->(∀ a∈b.map (·.arg),A1 a=true)/\B=(b.map (·.arg)).map nm:=by
 intro r;induction r with
 | nil=>intro B h;have c:=B8 h;clear h;subst c;exact ⟨λa ha=>(c5P ha).elim,rfl⟩
 | cons y r Z =>
  intro B h;refine j8 (y6 h) λq l U O e=>?_;subst e;refine eA (A5 U) λJ d=>?_;clear h U;subst d;refine eA (Z O) λV Y=>⟨λa ha=>?_,by rw[Y];rfl⟩
  rcases c6K ha with rfl | ha
  ·exact J
  ·exact V a ha
theorem b2N {p:Arguments} {B:List Nm} (h:a9u p=some B):∃ Z,p=⟨[],p.args,none,[],Z,none,[]⟩/\(∀ a∈p.args.map (·.arg),A1 a=true)/\B=(p.args.map (·.arg)).map nm:=by
 refine eA (t3 h) λq h=>?_;obtain ⟨a,b,c,d,e,f,g⟩:=p;refine eA (c6F q) λq Y=>eA (c6F q) λq V=>eA (c6F q) λq U=>eA (c6F q) λJ O=>?_;cases List.isEmpty_iff.mp J;cases Option.isNone_iff_eq_none.mp O;cases List.isEmpty_iff.mp U;cases Option.isNone_iff_eq_none.mp V
 clear O J U q V;cases List.isEmpty_iff.mp Y;exact ⟨e,rfl,b6t h⟩
theorem a9x {l:List (Str×NameKind)} {x:Str} (h:l.lookup x=some .local\/l.lookup x=some .cell):(a2V l).contains x=true:=by
 refine D5 (List.contains_iff_mem ..) ?_;rcases h with h | h
 ·exact c6E ⟨(x,.local),List.mem_filter.mpr ⟨N7 h,rfl⟩,rfl⟩
 ·exact c6E ⟨(x,.cell),List.mem_filter.mpr ⟨N7 h,rfl⟩,rfl⟩
theorem b3y {x:Str} (h:a78 sc x=true):sc.names.lookup x=some .local\/sc.names.lookup x=some .cell :=
 (Bool.or_eq_true_iff.mp h).imp c6u c6u
theorem b3J {s j:Shared} {name J:Str} {B:Arguments} {body:List Stmt} {q:Scope} {b U c O Y:Value} {V:Option Addr} {f:Addr} {xs:List Str} {vs:List f7} {us:List Value} {fns clss attrs:List Str} (R:c6U H s.heap)
  (K:q.kind=.function) (ha:∀ x∈xs,A1 x=true) (Q:∀ x∈xs,a78 q x=true) (T:m5 G s.heap vs us) (L:vs.length=xs.length)
  (x:InCallC s (callEnvC (fnOf name J B body q .none b U c V O Y) s.heap.objs.size f).locals (PySem.bindL (callEnvC (fnOf name J B body q .none b U c V O Y) s.heap.objs.size f).kindOf (xs.zip us) λ_=>none)
   (callEnvC (fnOf name J B body q .none b U c V O Y) s.heap.objs.size f).cells (PySem.bindC (callEnvC (fnOf name J B body q .none b U c V O Y) s.heap.objs.size f).kindOf (xs.zip us) λ_=>none) j) :
  c6V (callEnvC (fnOf name J B body q .none b U c V O Y) s.heap.objs.size f) ⟨q.names,fns,clss,attrs,a2V q.names⟩ (bindL (xs.map nm) vs En.nil) H j.heap/\c64 O1 H s H j:=by
 refine u6 x.done λn W S keep=>?_;subst S;have w:c64 O1 H s H {s with heap:=n,toks:=W}:=.kept R keep
 have i:=w.vreps R T;have l:=b1Z (h:=n) (ko:=(callEnvC (fnOf name J B body q .none b U c V O Y) s.heap.objs.size f).kindOf) xs vs us (λ_=>none) (λ_=>none) En.nil ha i L λ_ _ _ e=>x9 e;have m:=B5 R (c5w s.heap.objs.size);refine i9 (b0q x.toInCall.ns) λo P N=>?_;have g:∀ y a,(callEnvC (fnOf name J B body q .none b U c V O Y) s.heap.objs.size f).cells.lookup y=some a->H a=none/\G.base a=none/\a≠s.heap.objs.size:=λy a e=>by
  have u:s.heap.objs.size < a:=x.above y a (mem_of_lookup e);have:=B5 R (c6f u);exact ⟨this.2.1,this.2.2,Nat.ne_of_gt u⟩
 refine ⟨⟨K,rfl,rfl,λy k e=>e,⟨_,o,P,N,x.toInCall.ns,λy v Z d e=>(l y v Z e).1 d⟩,λy p=>?_,⟨m.2.1,m.2.2,λy a e=>?_⟩,λy z a C D=>?_,λy Z r=>?_,λy Z=>?_⟩,w⟩
 ·exact eE (c6J (a55 q.names (s.heap.objs.size+1) [] y (N7 p))) λa e=>⟨a,_,e,x.cell y a e,λZ v A=>(l y v Z A).2 p⟩
 ·exact eAA (g y a e) λE F I=>⟨E,F,I,_,x.cell y a e⟩
 ·exact name_of_addr x.apart (mem_of_lookup C) (mem_of_lookup D)
 ·refine a8G _ _ En.nil _ λM=>i9 (c6D M) λz t e=>?_;have:=O6 (ha z t) Z e;clear e M Z;subst this;rw [a9x (b3y (Q z t))] at r;exact nomatch r
 ·exact a9x (a3f Z)
inductive SwK (t e:c6S) (l:Nat) (ld:Env):Prop
 | mk:∀ b,swapsWith e (some t) l ld=pure b->(a0I e=true\/b=false)->SwK t e l ld
theorem b0J (t e:c6S) (l:Nat) (ld:Env):SwK t e l ld:=by
 cases e with
 | ListComp _ _ _ _=>cases t <;> exact ⟨_,rfl,.inl rfl⟩
 | SetComp _ _ _ _=>cases t <;> exact ⟨_,rfl,.inl rfl⟩
 | DictComp _ _ _ _ _=>cases t <;> exact ⟨_,rfl,.inl rfl⟩
 | _=>exact ⟨_,rfl,.inr rfl⟩
theorem b9H {k:Nat} {N:Tv} (g:Gok G c) (hE:b0X lc w G n m k) (hc:a2k t e=false) (Y:trT k c t=some N) (i:P6 k c e=some x):c7m m c (.Assign [t] e pos) (p7 N x):=λA s H r ld Q u R F q=>by
 have ex:=λe x h=>(hE c e x g h).1;have M:=c06 (m:=m) g ex Y;have plain:wpAny c6W A (eval e ld>>=λv=>swappedStores [t] e ld>>=λsw=>assignStores ld v sw ((assignEach [t] ld).map (·.2))) (a4f G w ld c H s Q) A7 s:=by
  refine c5b (l7 (ex e x i A s H r ld _ u R F q) λp v f K l V j=>?_);have F1:=F.step R V;rcases a5Y (ld:=ld) hc with d | ⟨o,kk,p1,vs,a3,p2,J,d,z,W⟩
  ·rw[d];rw[(pure_bind ..)];have one:wpAny c6W A (assign t ld v) (a1J G w ld c f K (λl U=>Q .next l U)) A7 K:=M A K f r ld p v _ u V.rel F1 l j;have T:assignEach [t] ld=[(false,assign t ld)]:=by
    refine P8 λe' p i=>?_;clear one d M hc;subst i;unfold trT at Y;exact a2w Y
   rw[T];refine c5b (c5d one (λ_ L O=>?_) λ_ _ e=>e);refine j8 O λI U Z B E=>?_;clear O;exact c5c ⟨.next,I,U,rfl,V.no.trans B,Z,E⟩
  ·rw[d];rw[(pure_bind ..)];refine c5b (wpAny_rule ?_);replace Y:trT k c (.Tuple o kk p1)=some N:=Y;refine i9 (n5 (show ((C9 (a9w k c) o).map K1)=some N from Y)) λa4 a0 a1=>?_;clear Y M q;subst a1;revert j;intro q9;refine p9 q9 λP hq hl j=>?_;clear q9;refine eAA (b0L (b2Q z) a0 hl j) λb1 S b3=>c5b (a0v g.toGk u.h V.rel l hq S.symm λus L ru B=>?_)
   have Z:=F1.step V.rel B;have rr:m5 G L.heap P.reverse us.reverse:=ru.reverse;refine c5b (b3C (o.filterMap (X4 ld J)).reverse P.reverse us.reverse L f r _ (λx hx=>b1 x (List.mem_reverse.mp hx)) (by rw[List.length_reverse];rw[List.length_reverse];rw[S];rfl) B.rel Z rr λs3 F3 a2=>c5c ⟨.next,_,f,rfl,(V.trans B).no.trans a2,F3,?_⟩)
   have C:((o.filterMap (X4 ld J)).map nm).Nodup:=b45 W λx hx=>(b1 x hx).1;have e2:bindL ((o.filterMap (X4 ld J)).reverse.map nm) P.reverse r=bindL ((o.filterMap (X4 ld J)).map nm) P r:=by
    rw[List.map_reverse];exact a5J C (by rw[(c5q ..)];rw[S];rfl)
   rw[e2];exact b3
 have y:∀ b,swapsWith e (some t) pos.line ld=pure b->a0I e=true\/b=false->wpAny c6W A (exec (.Assign [t] e pos) ld) (a4f G w ld c H s Q) A7 s:=λb hb X=>by
  rw[(arm_exec_Assign ..)];refine c5b (c5g ?_);rw[(show swapsWithSole [t] e pos.line ld=swapsWith e (some t) pos.line ld from rfl)];rw[hb];rw[(pure_bind ..)];cases b with
  | false=>exact plain
  | true =>
   rw[(c58 rfl)];have a:a0I e=true:=X.elim id λh=>nomatch h
   have T:assignEach [t] ld=[(false,assign t ld)]:=by
    refine P8 λe' p i=>?_;clear hb plain M hc;subst i;unfold trT at Y;exact a2w Y
   rw[T];refine c5b (c5d ((hE c e x g i).2 a A s H r ld _ (λl U=>Q .next l U) (λv=>assignAll v [assign t ld]) u R F q λD f K V j=>?_) (λ_ L O=>?_) λ_ _ e=>e)
   ·refine c5d (M A K f r ld (.ref D) (.ref D) _ u V.rel (F.step R V) .ref j) (λ_ L O=>?_) λ_ _ e=>e;refine j8 O λI U Z B E=>?_;clear O;exact ⟨I,U,B,Z,E⟩
   ·refine j8 O λI U B Z E=>?_;clear O;exact c5c ⟨.next,I,U,rfl,B,Z,E⟩
 obtain ⟨b,h1,O⟩:=b0J t e pos.line ld;exact y b h1 O
theorem b9X (j:c7p m):∀ (k:Nat) (c:Cx) (st:Stmt) (x:Bv),Gok G c->trS k c st=some x->c7m m c st x:=by
 intro k;induction k with
 | zero=>intro _ _ _ _ h;exact x9 h
 | succ k V =>
  intro c st x g h;refine eA (c1a j k) λv u=>?_;have V:=λst x h=>V c st x g h;have d:=λe x h=>(v c e x g h).1;cases st with
  | Expr e p =>
   refine eA (t3 (show gd (!a0I e) ((P6 k c e).map y8)=some x from h)) λO h=>?_;refine i9 (n5 h) λy U l=>?_;subst l;exact b7F (d e y U) (Bool.not_eq_true' _▸O)
  | Assign S e p =>
   refine i9 (g9 (show ((one? S).bind λt=>gd (!a2k t e) <| (trT k c t).bind λt=>(P6 k c e).bind λe=>some (p7 t e))=some x from h)) λt f h=>?_
   refine eA (t3 h) λO h=>i9 (g9 h) λX i h=>i9 (g9 h) λy U h=>?_;have K:=B8 h;clear h;subst K;cases one?_some f;exact b9H g v (Bool.not_eq_true' _▸O) i U
  | Return e p =>
   refine i9 (g9 (show (e.bind λe=>(P6 k c e).map z5)=some x from h)) λC I h=>?_;refine i9 (n5 h) λy U n=>?_;subst n;subst I;exact b9J (d C y U)
  | If t a b p =>
   refine i9 (g9 (show ((trC k c t).bind λt=>(a5Z (trS k) c a).bind λa=>(a5Z (trS k) c b).bind λb=>some (G6 t a b))=some x from h)) λz Y h=>?_;refine i9 (g9 h) λy1 O h=>i9 (g9 h) λy2 B h=>?_;have L:=B8 h;clear h;subst L;exact c05 (u c t z g Y) (a9i V O) (a9i V B)
  | While t b J p =>
   refine eA (t3 (show gd J.isEmpty ((trC k c t).bind λt=>(a5Z (trS k) c b).bind λb=>some (a5q t b))=some x from h)) λO B=>?_;refine i9 (g9 B) λz Y B=>i9 (g9 B) λy U B=>?_;have N:=B8 B;clear B;subst N;cases J with
   | cons _ _=>exact nomatch O
   | nil=>exact b5F (u c t z g Y) (a9i V U)
  | For w Z b J p =>
   refine eA (t3 (show gd (J.isEmpty&&W7 c.var w) ((a0X w).bind λt=>(a5z (P6 k c) c Z).bind λZ=>(a5Z (trS k) c b).bind λb=>gd (a2S Z t.2) (some (Q6 t.1 t.2 Z b)))=some x from h)) λO B=>?_;refine eA (c6F O) λO D=>i9 (g9 B) λo f B=>?_;obtain ⟨t,one⟩:=o;refine i9 (g9 B) λz Y B=>i9 (g9 B) λy U B=>eA (t3 B) λE B=>?_
   have P:=B8 B;clear B;subst P;cases J with
   | cons _ _=>exact nomatch O
   | nil=>exact b9I (k:=0) g (a7O g d Y) (a9i V U) f D E
  | Raise _ _ _=>have M:=B8 h;clear h;subst M;exact λA s H r W Q T R F q=>q.elim
  | _=>exact x9 h
theorem Gok.cx {q:List (Str×NameKind)} {B:List Str} (g:Gok G c):Gok G ⟨q,c.fns,c.clss,c.attrs,B⟩:={g with cl:=g.cl,at_:=g.at_,me:=g.me,fn:=g.fn,cls:=g.cls,fun_:=λJ name O h=>by refine p9 (g.fun_ J name O h) λf a b d=>?_;exact ⟨f,a,b.cx,d⟩,keepf:=g.keepf,nolim:=g.nolim,blt:=g.blt}
theorem b8Z (g:Gok G c) (E:c7p 40):G5 lc w G (n+1):=by
 intro A s H cn name f vs us Q a R rv hf h;refine p9 h λfd hF hl q=>?_;clear h;refine p9 (g.fun_ cn name fd hF) λf' r K _=>?_;obtain ⟨k,Y,B,body,J,kV,i,pm,M,Z,N,oc,od,a0,e2,e3,e4,P,e6,e7,S,e9⟩:=K;rw [hf] at r;have q6:=B8 r;clear r;subst q6;have X:=R.In g;refine i9 (g9 e4) λps h1 h2=>i9 (g9 h2) λb h3 W=>?_;have q7:=B8 W;clear W;subst q7;refine p9 (b2N h1) λkd C j I=>?_;clear h2 e4 hF h1;subst I
 have V:us.length=(B.args.map (·.arg)).length:=by refine u7 rv.length ?_;rw[hl];rw[(c5q ..)];rfl
 have U:∀ x∈B.args.map (·.arg),a78 J x=true:=λx D=>by
  refine i9 (c6D D) λy hy F=>?_;clear D;subst F;exact List.all_eq_true.mp e9 y hy
 refine codeAny_call_cells (fd:=fnOf k Y B body J .none kV i pm M Z N) (binds:=(B.args.map (·.arg)).zip us) (by have:=a.d;unfold recursionLimit;exact c4M this) (X f _ e2) rfl (g.nolim _ λa o e=>(R.base a o e).1) (codeRec_of X e3) rfl
  (by rw[C];exact a9M (by rw [C] at V;exact V) (by rw [C] at S;exact S)) rfl (λx D=>?_) (λs1 x=>?_) e6 e7 P
 ·have hm:x.1∈B.args.map (·.arg):=(List.of_mem_zip (a:=x.1) (b:=x.2) D).1;rcases b3y (U _ hm) with h | h
  ·exact .inl h
  ·exact .inr ⟨h,a55 J.names _ [] _ (N7 h)⟩
 ·refine eA (b3J (fns:=c.fns) (clss:=c.clss) (attrs:=c.attrs) R P j U rv (by rw[hl];rw[(c5q ..)];rfl) x) λF1 l=>?_
  have al:AOk n 40 (A.deeper (callEnvC (fnOf k Y B body J .none kV i pm M Z N) s.heap.objs.size f)):=a.deeper;refine c5d (a9i (λm x h=>b9X E 60 _ m x g.cx h) h3 _ s1 H _ _ _ al l.rel F1 q) (λfl s2 T=>?_) λ_ _ e=>e.elim;refine Y1 T λt r2 p z L F2 q2=>?_;clear T;have m:c64 O1 H s p s2:=by
   have O:=l.no.trans L;refine ⟨O.rel,O.ext.compress λb hb=>?_,O.gens,O.os⟩
   right
   rcases hb with e | ⟨y,e⟩
   ·rw[e];exact (B5 R (c5w _)).1
   ·exact (B5 R (c6f (x.above y b (mem_of_lookup e)))).1
  cases t with
  | next=>cases (show fl=.next from z);exact ⟨.none,p,.none,m,q2⟩
  | ret v=>refine i9 z λu q8 ru=>?_;clear z;subst q8;exact ⟨v,p,ru,m,q2⟩
theorem b3L (g:Gok G c) (q:∀ b,c7h 40 b) (O:a6O lc w G n 40) (J:a6K lc w G n 40) (B:c65):G5 lc w G (n+1):=b8Z g ⟨B,q,O,J⟩
variable {p:Array Nat}
noncomputable def tm (m:Nat):SetTable:=⟨m,#[],#[],0,true,0,true⟩
noncomputable def K5 (m:Nat) (h:Int):Nat->SetTable.Probe
 | 0=>(tm m).probeStart h
 | n+1=>(tm m).advance (K5 m h n)
noncomputable def rs (m:Nat) (x:Nat×Nat):SetTable.Probe:=⟨x.1,SetTable.runEnd m x.1 - x.1,x.1,x.2,none⟩
noncomputable def lps (m:Nat) (h:Int):Nat->Nat×Nat
 | 0=>(SetTable.bits h % (m+1),SetTable.bits h)
 | k+1=>SetTable.leap m (lps m h k).1 (lps m h k).2
theorem a2Q {α:Type} [BEq α] [LawfulBEq α] (x:α):¬ (x != x)=true:=λh=>c5F ((bne_self_eq_false x).symm.trans h)
theorem b5o {h:Int} {n:Nat} {x:Nat×Nat} (e:K5 m h n=rs m x):∀ k,k<=SetTable.runEnd m x.1 - x.1->K5 m h (n+k)=⟨x.1+k,SetTable.runEnd m x.1 - x.1 - k,x.1,x.2,none⟩:=by
 intro k;induction k with
 | zero=>intro _;exact e
 | succ k B =>
  intro q;show (tm m).advance (K5 m h (n+k))=_;rw[(B (by exact Nat.le_of_succ_le q))]
  unfold SetTable.advance;rw[(c58 (by show SetTable.runEnd m x.1 - x.1 - k > 0;exact Nat.zero_lt_sub_of_lt q))]
  show SetTable.Probe.mk _ _ _ _ _=_
  congr 1
theorem b1D {h:Int} {n:Nat} {x:Nat×Nat} (e:K5 m h n=rs m x):K5 m h (n+(SetTable.runEnd m x.1 - x.1)+1)=rs m (SetTable.leap m x.1 x.2):=by
 show (tm m).advance (K5 m h (n+_))=_;rw[(b5o e _ (c5w _))];unfold SetTable.advance;rw[(c57 (by show ¬ (_ - _ > 0);exact c1N))]
 rfl
theorem a7L (m i:Nat):SetTable.runEnd m i=i\/(SetTable.runEnd m i=i+9/\i+9<=m):=by
 unfold SetTable.runEnd
 split
 ·rename_i h;exact .inr ⟨rfl,h⟩
 ·exact .inl rfl
theorem b5n (m i:Nat):i<=SetTable.runEnd m i:=(a7L m i).elim (λe=>c5K e.symm) λe=>e.1▸c5M _ _
theorem b7l (m i:Nat):SetTable.runEnd m i - i<=9:=Nat.sub_le_iff_le_add'.mpr ((a7L m i).elim (λe=>e.symm▸c5M _ _) λe=>c5K e.1)
theorem b2T {h:Int}:∀ k,∃ n,n<=10 * k/\K5 m h n=rs m (lps m h k):=by
 intro k;induction k with
 | zero=>exact ⟨0,c5w _,rfl⟩
 | succ k q =>
  refine i9 q λn B J=>?_;clear q;have:=b7l m (lps m h k).1;exact ⟨_,by exact c2D B this,b1D J⟩
theorem b4R {h:Int}:∀ k,(lps m h k).2=SetTable.bits h / 32 ^ k:=by
 intro k;induction k with
 | zero=>exact (Nat.div_one _).symm
 | succ k q =>
  show (lps m h k).2 / 32=_;rw[q];rw[(Nat.div_div_eq_div_mul ..)];rw[(Nat.pow_succ ..)];rfl
theorem b6y (h:Int):SetTable.bits h < 32 ^ 13:=by
 have q:0<=h % (2 ^ 64:Int):=Int.emod_nonneg _ (by decide)
 have B:h % (2 ^ 64:Int) < 2 ^ 64:=Int.emod_lt_of_pos _ (by decide)
 exact (Int.toNat_lt q).mpr (Int.lt_trans B (by decide))
noncomputable def lcg (m i:Nat):Nat:=(i * 5+1) % (m+1)
noncomputable def orb (m:Nat):Nat->Nat->List Nat
 | 0,_=>[]
 | k+1,i=>i :: orb m k (lcg m i)
theorem b48 (m:Nat) (h:Int):∀ (k a j:Nat),13<=a->j∈orb m k (lps m h a).1->∃ r,r < k/\(lps m h (a+r)).1=j:=by
 intro k;induction k with
 | zero=>intro _ _ _ hj;exact nomatch hj
 | succ k O =>
  intro a j q hj;rcases c6K hj with rfl | hj
  ·exact ⟨0,c53 _,rfl⟩
  ·have e:lcg m (lps m h a).1=(lps m h (a+1)).1:=by
    show _=((lps m h a).1 * 5+1+(lps m h a).2 / 32) % (m+1);have:(lps m h a).2=0:=by
     rw[(b4R ..)];exact Nat.div_eq_of_lt (c5G (b6y h) (Nat.pow_le_pow_right (by decide) q))
    rw[this];rfl
   rw [e] at hj;refine i9 (O (a+1) j (by exact Nat.le_add_right_of_le q) hj) λr J B=>?_
   exact ⟨r+1,by exact Nat.add_lt_add_right J 1,by refine u7 B ?_;rw[(Nat.add_assoc a 1 r)];rw[(Nat.add_comm 1 r)];rfl⟩
noncomputable def a1k (m:Nat):Bool:=(List.range (m+1)).all λi=>(List.range (m+1)).all λj=>(orb m (m+1) i).contains j
theorem b6A:a1k 7=true:=by decide +kernel
theorem a8g:a1k 31=true:=by decide +kernel
theorem b4Q (m:Nat) (h:Int):∀ k,(lps m h k).1 < m+1:=by
 intro q;induction q with
 | zero=>exact Nat.mod_lt _ (c53 _)
 | succ _ B=>exact Nat.mod_lt _ (c53 _)
theorem b65 (c:a1k m=true) (h:Int) (O:j<=m):∃ n,n < 10 * SetTable.turns m/\(K5 m h n).j=j:=by
 unfold a1k at c;rw [List.all_eq_true] at c;have q:=c _ (c6N (b4Q m h 13));rw [List.all_eq_true] at q;have B:=q j (c6N (by exact c51 O))
 exact i9 (b48 m h (m+1) 13 j (c5w _) (List.contains_iff_mem.mp B)) λr V e=>i9 (b2T (m:=m) (h:=h) (13+r)) λn U J=>⟨n,by unfold SetTable.turns;exact c2p V U,by rw[J];exact e⟩
theorem b2S (m:Nat) (h:Int):∀ n,(K5 m h n).dummy=none:=by
 intro n;induction n with
 | zero=>exact rfl
 | succ n q =>
  show ((tm m).advance (K5 m h n)).dummy=none;unfold SetTable.advance
  split <;> exact q
theorem b0w (m:Nat) (h:Int) (n:Nat):(K5 m h n).j<=m:=by
 have q:∀ n,(K5 m h n).i<=m/\(K5 m h n).j+(K5 m h n).more<=m:=by
  intro n;have J:∀ i,i<=m->i+(SetTable.runEnd m i - i)<=m:=λi O=>(Nat.add_sub_of_le (b5n m i)).symm▸(a7L m i).elim (λe=>e.symm▸O) λe=>e.1.symm▸e.2;induction n with
  | zero =>
   have:SetTable.bits h % (m+1)<=m:=c5L (Nat.mod_lt _ (c53 _));exact ⟨this,J _ this⟩
  | succ n B =>
   show ((tm m).advance (K5 m h n)).i<=m/\((tm m).advance (K5 m h n)).j+((tm m).advance (K5 m h n)).more<=m;unfold SetTable.advance
   split
   ·exact ⟨B.1,by show (K5 m h n).j+1+((K5 m h n).more - 1)<=m;exact c2P B ‹_›⟩
   ·have:((K5 m h n).i * 5+1+(K5 m h n).perturb / 32) % (m+1)<=m:=c5L (Nat.mod_lt _ (c53 _));exact ⟨this,J _ this⟩
 have:=(q n).2;exact Nat.le_of_add_right_le this
theorem b3z (l:xs.toList.Pairwise (· < ·)):∀ (f B J:Nat),J - B<=f->B<=J->J<=xs.size->(∀ i,i < B->xs.getD i 0 < j)->(∀ i,J<=i->i < xs.size->j<=xs.getD i 0) ->
  ∃ p,SetTable.below.go xs j f B J=p/\p<=xs.size/\(∀ i,i < p->xs.getD i 0 < j)/\∀ i,p<=i->i < xs.size->j<=xs.getD i 0:=by
 have mono:∀ i k,i<=k->k < xs.size->xs.getD i 0<=xs.getD k 0:=λi k V O=>by
  rcases Nat.lt_or_eq_of_le V with h | rfl
  ·have:=List.pairwise_iff_getElem.mp l i k (by simpa using (by exact c6i h O:i < xs.size)) (by simpa using O) h
   simp only [Array.getElem_toList] at this;rw[c6e];rw[c6e];rw[(c5X (by exact c6i h O:i < xs.size))];rw[(c5X O)]
   exact c6f this
  ·exact c5w _
 intro f;induction f with
 | zero=>exact λB J V O U a b=>⟨B,rfl,by exact c5r O U,a,λi Z=>b i (by exact c5r (Nat.sub_eq_zero_iff_le.mp (Nat.le_zero.mp V)) Z)⟩
 | succ f e =>
  intro B J V O U a b;show ∃ p,(if B < J then if xs.getD ((B+J) / 2) j < j then _ else _ else _)=p/\_
  by_cases q:B < J
  ·rw[(c58 q)];by_cases Y:xs.getD ((B+J) / 2) j < j
   ·simp only [Y,if_true];have d:xs.getD ((B+J) / 2) 0 < j:=by
     rw [Array.getD_eq_getD_getElem?,Array.getElem?_eq_getElem (b72 U q:(B+J) / 2 < xs.size)] at Y ⊢;exact Y
    exact e _ _ (c1Z V) (c1h q) U (λi c=>c5v (mono i ((B+J) / 2) (by exact c5L c) (b72 U q)) d) b
   ·simp only [Y,if_false];have d:j<=xs.getD ((B+J) / 2) 0:=by
     rw [Array.getD_eq_getD_getElem?,Array.getElem?_eq_getElem (b72 U q:(B+J) / 2 < xs.size)] at Y ⊢;exact Nat.le_of_not_lt Y
    exact e _ _ (c2h V) (c1j q) (c2m U q) a λi Z g=>c5r d (mono _ i Z g)
  ·rw[(c57 q)];exact ⟨B,rfl,by exact c5r O U,a,λi Z=>b i (by exact c5r (Nat.le_of_not_lt q) Z)⟩
theorem a1g (O:xs.toList.Pairwise (· < ·)) (j:Nat):SetTable.below xs j<=xs.size/\(∀ i,i < SetTable.below xs j->xs.getD i 0 < j)/\∀ i,SetTable.below xs j<=i->i < xs.size->j<=xs.getD i 0:=by
 refine i9 (b3z (j:=j) O xs.size 0 xs.size (c4l) (c5B _) (c5w _) (λi J=>c59 J (c6A _)) (λi q B=>c59 B (by exact Nat.not_lt.mpr q))) λp e h=>?_
 unfold SetTable.below;rw[e];exact h
theorem getD_some {x:Nat} (h:xs[i]?=some x):xs.getD i 0=x:=by rw[c6e];rw[h];rfl
theorem a0j {α:Type} {xs:Array α} {x:α} (h:xs[i]?=some x):i < xs.size:=by
 have:=Array.getElem?_eq_some_iff.mp h;exact this.1
theorem b1X (J:xs.toList.Pairwise (· < ·)) (h:xs[i]?=some j):SetTable.below xs j=i:=by
 refine eAA (a1g J j) λV O U=>?_;have B:=a0j h;have e:=getD_some h;rcases Nat.lt_trichotomy (SetTable.below xs j) i with c | c | c
 ·have q:=U (SetTable.below xs j) (c5w _) (by exact c6i c B)
  have:=List.pairwise_iff_getElem.mp J (SetTable.below xs j) i (by simpa using (by exact c6i c B:SetTable.below xs j < xs.size)) (by simpa using B) c
  simp only [Array.getElem_toList] at this;rw [Array.getD_eq_getD_getElem?,Array.getElem?_eq_getElem (by exact Nat.lt_trans c B:SetTable.below xs j < xs.size)] at q
  rw [Array.getElem?_eq_getElem B] at h;injection h with h
  rw [h] at this;exact c59 q (Nat.not_le_of_lt this)
 ·exact c
 ·have:=O i c;exact c59 e (c5Q this)
theorem b26 {t:SetTable} (q:t.place.toList.Pairwise (· < ·)) (h:t.place[i]?=some j):t.slot j=.live i:=by
 unfold SetTable.slot;rw[(b1X q h)];dsimp only;rw[h];simp
theorem b0I {t:SetTable} (J:t.dummies=#[]) (h:j∉t.place.toList):t.slot j=.empty:=by
 unfold SetTable.slot;dsimp only;have q:(t.place[SetTable.below t.place j]?==some j)=false:=by
  refine D5 (beq_eq_false_iff_ne ..) ?_;intro e;exact h (Array.mem_toList_iff.mpr (Array.mem_of_getElem? e))
 have B:SetTable.has t.dummies j=false:=by rw[J];rfl
 rw[q];rw[B];rfl
theorem a0T {α:Type} (xs:Array α) (p:Nat) (x:α):(SetTable.insertAt xs p x).toList=xs.toList.take p++x :: xs.toList.drop p:=by
 unfold SetTable.insertAt
 congr 2
 simp [List.extract_eq_take_drop,List.take_of_length_le]
variable {t:SetTable}{x:f7}
theorem b4D {P:Nat->Prop}:∀ n,P n->∃ k,k<=n/\P k/\∀ l,l < k->¬ P l:=by
 intro n;induction n using Nat.strongRecOn with
 | ind n J =>
  intro h;by_cases e:∃ l,l < n/\P l
  ·refine i9 e λl q B=>?_;clear e;exact p9 (J l q B) λk a b c=>⟨k,by exact c6f (c5v a q),b,c⟩
  ·exact ⟨n,c5w _,h,λl q B=>e ⟨l,q,B⟩⟩
noncomputable abbrev El:=Nat×f7×Value
structure TI (w:World) (m:Nat) (L:List El):Prop where
 rise:(L.map (·.1)).Pairwise (· < ·)
 nod:(L.map (·.2.1)).Nodup
 size:(m=7/\L.length<=4)\/(m=31/\L.length<=18)
 le:∀ x∈L,x.1<=m
 reach:∀ x∈L,∃ n,(K5 m (o6 w x.2.1) n).j=x.1/\∀ k,k < n->(K5 m (o6 w x.2.1) k).j∈L.map (·.1)
theorem TI.cov {w:World} {L:List El} (t:TI w m L):a1k m=true:=by rcases t.size with ⟨rfl,_⟩ | ⟨rfl,_⟩ <;> first | exact b6A | exact a8g
theorem TI.lt {w:World} {L:List El} (t:TI w m L):L.length < m:=t.size.elim (λz=>by rw[z.1];exact c5v z.2 (by decide)) λz=>by rw[z.1];exact c5v z.2 (by decide)
theorem TI.few {w:World} {L:List El} (t:TI w m L):L.length < 64:=t.size.elim (λz=>c5v z.2 (by decide)) λz=>c5v z.2 (by decide)
theorem TI.turn {w:World} {L:List El} (t:TI w m L):10 * SetTable.turns m < 100000:=t.size.elim (λz=>by rw[z.1];decide) λz=>by rw[z.1];decide
theorem TI.free {w:World} {L:List El} (t:TI w m L) (h:Int):∃ N,N < 10 * SetTable.turns m/\(K5 m h N).j∉L.map (·.1)/\∀ k,k < N->(K5 m h k).j∈L.map (·.1):=by
 have J:∃ j,j<=m/\j∉L.map (·.1):=by
  refine c5O λc=>?_;have c:List.range (m+1) ⊆ L.map (·.1):=λj B=>c5O λq=>c ⟨j,c5L (c6O B),q⟩;have:=List.Nodup.length_le_of_subset List.nodup_range c;rw [List.length_range,List.length_map] at this;exact c5U _ (c6i t.lt this)
 refine i9 J λj B Y=>?_;clear J;refine i9 (b65 t.cov h B) λn O U=>p9 (b4D (P:=λn=>(K5 m h n).j∉L.map (·.1)) n (by rw[U];exact Y)) λN a b c=>?_
 exact ⟨N,by exact c5v a O,b,λk V=>Classical.not_not.mp (c k V)⟩
structure a0d (w:World) (t:SetTable) (L:List El):Prop where
 ti:TI w t.mask L
 place:t.place.toList=L.map (·.1)
 dum:t.dummies=#[]
theorem a0d.fits {w:World} {L:List El} (l:a0d w t L):t.fits L.length=true:=by
 unfold SetTable.fits SetTable.fill;have e:t.place.size=L.length:=by refine u7 c5V ?_;rw[l.place];rw[(c5q ..)];rfl
 rw[l.dum];rw[e];simp only [beq_self_eq_true,Bool.true_and,decide_eq_true_eq,List.size_toArray,List.length_nil,Nat.add_zero];exact c6f l.ti.lt
theorem a0d.gave {w:World} {L:List El} (l:a0d w t L):t.gaveWay=false:=by
 unfold SetTable.gaveWay;rcases l.ti.size with ⟨a,_⟩ | ⟨a,_⟩ <;> refine b9 a ?_ <;> rfl
theorem a0d.at_ {w:World} {L:List El} (l:a0d w t L) {x:El} (h:L[i]?=some x):t.place[i]?=some x.1:=by
 refine u7 c56 ?_;rw[l.place];rw[c5x];rw[h];rfl
theorem a0d.live {w:World} {L:List El} (l:a0d w t L) {x:El} (h:L[i]?=some x):t.slot x.1=.live i :=
 b26 (by rw[l.place];exact l.ti.rise) (l.at_ h)
theorem a0d.empty {w:World} {L:List El} (l:a0d w t L) (h:j∉L.map (·.1)):t.slot j=.empty:=b0I l.dum (by rw[l.place];exact h)
inductive b8H (t:SetTable) (L:List El) (ha:Nat->Int) (h:Int) (N n f:Nat):Prop
 | free:SetTable.probe.go t ha h f (K5 t.mask h n)=some (.empty (K5 t.mask h N).j none)->(∀ k i x,n<=k->k < N->L[i]?=some x->x.1=(K5 t.mask h k).j->ha i≠h)->b8H t L ha h N n f
 | cand:∀ k i x,n<=k->k < N->L[i]?=some x->x.1=(K5 t.mask h k).j->ha i=h->SetTable.probe.go t ha h f (K5 t.mask h n)=some (.candidate (K5 t.mask h k).j i (K5 t.mask h (k+1))) ->
   (∀ k' i' x',n<=k'->k' < k->L[i']?=some x'->x'.1=(K5 t.mask h k').j->ha i'≠h)->b8H t L ha h N n f
theorem b1a {w:World} {L:List El} (l:a0d w t L) {ha:Nat->Int} {h:Int} {N:Nat} (D:(K5 t.mask h N).j∉L.map (·.1)) (E:∀ k,k < N->(K5 t.mask h k).j∈L.map (·.1)) :
  ∀ (d n f:Nat),n+d=N->d < f->b8H t L ha h N n f:=by
 intro d;induction d with
 | zero =>
  intro n f e m;clear E;obtain rfl:n=N:=e;refine .free ?_ λk i x O U=>c59 U (by exact Nat.not_lt.mpr O)
  cases f with
  | zero=>exact c59 m (c6A _)
  | succ f =>
  show (match t.slot _ with | .empty=>some (SetTable.Met.empty _ _) | .dummy=>_ | .live i=>_)=_
  rw[(l.empty D)];rw[(b2S ..)];rfl
 | succ d G =>
  intro n f e m;cases f with
  | zero=>exact c59 m (c6A _)
  | succ f =>
  refine i9 (c6D (E n (c3i e))) λx F p=>eE (c6L F) λi o=>?_;have g:∀ B J,L[B]?=some J->J.1=(K5 t.mask h n).j->B=i:=λB J O U=>by
   have a:=l.live O;rw [U,<-p,l.live o] at a;injection a with a
   exact a.symm
  have Z:SetTable.probe.go t ha h (f+1) (K5 t.mask h n)=if ha i==h then some (.candidate (K5 t.mask h n).j i (K5 t.mask h (n+1))) else SetTable.probe.go t ha h f (K5 t.mask h (n+1)):=by
   show (match t.slot _ with | .empty=>_ | .dummy=>_ | .live i=>_)=_
   refine u7 p ?_;rw[(l.live o)];rfl
  by_cases c:ha i=h
  ·exact .cand n i x (c5w _) (c3i e) o p c (Z.trans (c58 (beq_iff_eq.mpr c))) λr _ _ O U=>c59 U (by exact Nat.not_lt.mpr O)
  ·have Z:=Z.trans (c57 (by simpa using c))
   have one:∀ k B J,n<=k->L[B]?=some J->J.1=(K5 t.mask h k).j->(n+1<=k->ha B≠h)->ha B≠h:=λk B J O U V Y=>by
    rcases Nat.lt_or_eq_of_le O with q | rfl
    ·exact Y q
    ·rw[(g B J U V)];exact c
   cases G (n+1) f (c1T e) (by exact Nat.succ_lt_succ_iff.mp m) with
   | free a b=>exact .free (Z.trans a) λk B J O U V Y=>one k B J O V Y λq=>b k B J q U V Y
   | cand k B J O U V Y z A C=>exact .cand k B J (by exact Nat.le_of_succ_le O) U V Y z (Z.trans A) λr s y H I u v=>one r s y H u v λq=>C r s y q I u v
section
open Classical
variable {L:List El}
noncomputable def t4 (w:World) (L:List El):Array (Int×Value):=(L.map λx=>(o6 w x.2.1,x.2.2)).toArray
noncomputable def a2E (k:f7):Bool:=c0R k&&D7 3 k
noncomputable def byT (w:World):Bool:=w.params.followText "set-order"
structure X7 (w:World) (G:Gi) (K:f7->Bool) (h:Heap) (a:Addr) (L:List El):Prop where
 ex:∃ o ep t,h.get? a=some o/\o.ExactSet/\o.data=.set (t4 w L) ep t/\a0d w t L/\t.led=!byT w
 keys:∀ x∈L,K x.2.1=true/\j6 G h x.2.1 x.2.2
theorem a7U (x:a2E k=true) (r:j6 G h k v):∃ b,v=.ref b:=by
 cases k with
 | tup l =>
  replace r:=U0 r;refine u6 r λa _ e _=>?_;clear r;exact ⟨a,e⟩
 | _=>cases x
theorem p6 (w:World) (L:List El):(t4 w L).size=L.length:=by simp [t4]
theorem a0G (w:World) (L:List El) (i:Nat):(t4 w L)[i]?=L[i]?.map λx=>(o6 w x.2.1,x.2.2):=by simp [t4]
theorem b1p (h:D7 3 k=true):D7 7 k=true:=b1o 3 k h 7 (c5o rfl)
theorem a2E.is (x:a2E k=true) (r:j6 G h k (.ref a)):(kk).is h k a:=⟨b1p (c6F x).2,r⟩
set_option smartUnfolding false in
theorem b1u:∀ n k,D7 n k=true->∀ (j:Nat) (A:Around) (E:Value->Shared->Prop) (s:Shared) (v:Value) (Q:Bool->Shared->Prop),j6 G s.heap k v->Q false s ->
  wpAny c6W A (ofAClassStatement (n+j) v) Q E s:=by
 refine Y2 (λn i j A E s v Q r q=>?_) (λn i j A E s v Q r q=>?_) λn l c h j A E s v Q r q=>?_
 ·refine eE (J8 r) λt d=>?_;clear r;subst d;cases n+j <;> exact c5c q
 ·refine eE (a1D r) λt e=>?_;clear r;subst e;cases n+j <;> exact c5c q
 ·replace r:=U0 r;revert r;intro J;refine j8 J λa p f t r=>?_;clear J;subst f;have U:=a1C t;refine K8 t λo Y _ z V=>?_;clear t;rw[(show n+1+j=n+j+1 from Nat.add_right_comm n 1 j)];refine c5b (wpAny_typeOf U ?_);show wpAny _ _ (do let u<-pure true;if (!u)=true then _ else _) _ _ s
  refine c5b (c5c ?_);refine c5b (wpAny_seqItems Y V ?_);refine c5b (a4S (λb=>b.1=none) h r rfl (λy u b Z g B=>?_) λb B=>?_)
  ·refine c5b (c y Z j _ _ _ _ _ g ?_);exact c5c ⟨rfl,rfl⟩
  ·obtain ⟨O,m⟩:=b;cases (show O=none from B);exact c5c q
theorem b23 {Q:Bool->Shared->Prop} (Y:a2E k=true) (r:j6 G s.heap k (.ref a)) :
  ∀ l:List Value,(∀ v∈l,∃ U b,v=.ref b/\a2E U=true/\j6 G s.heap U (.ref b))->Q false s->wpAny c6W A (searchCouldBeSeen (.ref a) l) Q E s:=by
 intro l c q;refine c5b (wpAny_forIn_list _ (λrest r V=>r.1=none/\V=s/\∀ v∈rest,v∈l) _ ?_ ?_ _ _ ⟨rfl,rfl,λv h=>h⟩)
 ·clear q;rintro v rest f V ⟨O,rfl,J⟩
  refine j8 (c v (J v (c5u))) λU b d B Z=>?_;subst d;dsimp only;by_cases e:(a==b)=true
  ·rw[e];exact c5c ⟨rfl,rfl,λv h=>J v (c5t _ h)⟩
  ·have e:(a==b)=false:=by simpa using e
   rw[e];refine c5b (a7J 3 _ (c6F Y).2 4 _ _ _ _ _ r ?_);refine c5b (a7J 3 _ (c6F B).2 4 _ _ _ _ _ Z ?_);refine c5b (b1u 3 _ (c6F Y).2 5 _ _ _ _ _ r ?_);refine c5b (b1u 3 _ (c6F B).2 5 _ _ _ _ _ Z ?_);exact c5c ⟨rfl,rfl,λv h=>J v (c5t _ h)⟩
 ·clear c r;rintro ⟨g,f⟩ V ⟨O,rfl,_⟩
  simp only at O;subst O;exact c5c q
theorem E0 {Q:(Array (Int×Value)×Nat×SetTable)->Shared->Prop} (B:s.heap.get? a=some o) (q:o.data=.set (t4 w L) ep t) (l:a0d w t L)
  (h:Q (t4 w L,ep,t) s):wpAny c6W A (setState a) Q E s :=
 wpAny_setState_of B q (by rw[(p6 ..)];exact l.fits) h
theorem b2Y (t:SetTable):t.sameMemory t.moves t.mask=some true:=by unfold SetTable.sameMemory;rw[(c58 (c6m _))];rfl
set_option backward.match.sparseCases true in
theorem b22 {a b:Addr} {ep N:Nat} {Q:SetFound->Shared->Prop} (hu:A.units+64 < cLine) (ho:s.heap.get? a=some o) (W:o.data=.set (t4 w L) ep t) (l:a0d w t L)
  (ks:∀ x∈L,a2E x.2.1=true/\j6 G s.heap x.2.1 x.2.2) (hk:a2E k=true) (r:j6 G s.heap k (.ref b))
  (hN:(K5 t.mask (o6 w k) N).j∉L.map (·.1)) (hb:∀ j,j < N->(K5 t.mask (o6 w k) j).j∈L.map (·.1)) (hl:N < 10 * SetTable.turns t.mask)
  (M:k∈L.map (·.2.1)->Q (.there none) s) (P:k∉L.map (·.2.1)->Q (.free (K5 t.mask (o6 w k) N).j false) s) :
  ∀ (d n f:Nat) (st:Option SetTable.Probe),n+d=N->d < f->st.getD (t.probeStart (o6 w k))=K5 t.mask (o6 w k) n->(∀ x∈L,x.2.1=k->∃ i,n<=i/\i < N/\x.1=(K5 t.mask (o6 w k) i).j) ->
   wpAny (model lc w) A (setSearchFrom a (.ref b) (o6 w k) true f st) Q E s:=by
 intro d;induction d using Nat.strongRecOn with
 | ind d ih =>
 intro n f st e X I hx;obtain ⟨f,rfl⟩:∃ g,f=g+1:=⟨f - 1,by exact (Nat.sub_add_cancel (c5v (c5B _) X)).symm⟩
 refine c5b (E0 ho W l ?_);dsimp only;rw[l.gave];rw[(c57 c5F)];rw[I];have H:∀ (i:Nat) (x:El),L[i]?=some x->(((t4 w L)[i]?.map λe=>e.1).getD 0)=o6 w x.2.1:=λi x h=>by rw[(a0G ..)];rw[h];rfl
 generalize hp:SetTable.probe t _ (o6 w k) (K5 t.mask (o6 w k) n)=p;rcases b1a l (ha:=λi=>((t4 w L)[i]?.map λe=>e.1).getD 0) hN hb d n (10 * SetTable.turns t.mask) e (by exact c5v (c5r (c6g _ _) (c5K e)) hl) with ⟨g,no⟩ | ⟨j,i,x,u,F,O,T,h5,g,no⟩
 ·obtain rfl:p=_:=hp.symm.trans g;refine c5c (P λhm=>?_);exact i9 (c6D hm) λx Z m=>p9 (hx x Z m) λi z C V=>eE (c6L Z) λJ Y=>no i J x z C Y V (by rw[(H J x Y)];rw[m];rfl)
 ·obtain rfl:p=_:=hp.symm.trans g;rw [H i x O] at h5;refine eA (ks x (c5p O)) λkx R=>?_;refine eE (a7U kx R) λbx U=>?_;have rest:wpAny (model lc w) A (do
    let some (_,y):=(t4 w L)[i]? | unsupported "internal:set-entry"
    let equal<-holding [y] (eqBool y (.ref b))
    let (es',_,t')<-setState a
    if (true&&equal)=true then return .there none
    let some same:=t'.sameMemory t.moves t.mask | unsupported "set.changed-during-lookup:is-the-new-block-at-the-old-address"
    let still<-match (if same=true then t'.slot (K5 t.mask (o6 w k) j).j else .empty) with
     | .live J=>match es'[J]? with
      | some (_,y')=>do pure (if (<- isSame y' y)=true then some J else none)
      | none=>pure none
     | _=>pure none
    match still with
    | none=>do rule "set.search.anew";setSearchFrom a (.ref b) (o6 w k) true f none
    | some J=>if equal=true then return .there (some J) else setSearchFrom a (.ref b) (o6 w k) true f (some (K5 t.mask (o6 w k) (j+1)))) Q E s:=by
   rw[(a0G ..)];rw[O];rw [U] at R;dsimp only [Option.map_some];rw[U];refine c5b (c5e ((kk).eqBool hu (a2E.is kx R) (a2E.is hk r) ?_));refine c5b (E0 ho W l ?_);by_cases c:x.2.1=k
   ·rw[(c6h c)];exact c5c (M (c6E ⟨x,c5p O,c⟩))
   ·rw[(c5Y c)];rw[(b2Y ..)];simp only [if_true];refine u7 T ?_;rw[(l.live O)];dsimp only;rw[(a0G ..)];rw[O];dsimp only [Option.map_some];rw[U];refine c5b (wpAny_isSame_ref_self (c5b (c5c ?_)));refine ih (N - (j+1)) (b8z e u F) (j+1) f _ (by exact Nat.add_sub_of_le F) (c2U e X u F) rfl λS m1 K=>?_
    refine p9 (hx S m1 K) λJ z C V=>⟨J,?_,C,V⟩;refine eE (c6L m1) λi2 B=>?_;rcases Nat.lt_trichotomy J j with q | rfl | q
    ·exact c59 (by rw[(H i2 S B)];rw[K];rfl) (no J i2 S z q B V)
    ·exact c59 K λe2=>by
      have:=l.live B;rw [V,<-T,l.live O] at this;injection this with this
      subst this;rw [O] at B;have M:=B8 B;clear B V K m1;subst M;exact c e2
    ·exact q
  dsimp only;cases hl:t.led with
  | true=>exact rest
  | false =>
   refine c5b (b23 hk r _ (λv hv=>?_) ?_)
   ·refine i9 (c6D hv) λD u P=>?_;subst P;have:=(Array.mem_filter.mp (Array.mem_toList_iff.mp u)).1;rw [t4,<-Array.mem_toList_iff] at this;refine i9 (c6D this) λy hy q3=>?_;clear this hv u;subst q3;exact eA (ks y hy) λk1 r1=>eE (a7U k1 r1) λb1 D=>⟨y.2.1,b1,D,k1,D▸r1⟩
   ·exact rest
end
variable {x2:Nat}{hs:List Int}{L:List El}
noncomputable abbrev Own:=Array (Option Nat)
noncomputable def Own.taken (o:Own) (j:Nat):Prop:=∃ i,o[j]?=some (some i)
theorem b1x {o:Own} (B:o.size=m+1) (q:j<=m):(o.getD j (some 0)).isNone=true\/o.taken j:=by
 rw[c6e];rw[(c5X (by exact B▸c51 q:j < o.size))]
 show (o[j]).isNone=true\/_;cases e:o[j] with
 | none=>exact .inl rfl
 | some i=>exact .inr ⟨i,by rw[(c5X (by exact B▸c51 q:j < o.size))];rw[e];rfl⟩
theorem b7h {o:Own} (h:(o.getD j (some 0)).isNone=true):¬ o.taken j:=λq=>by
 refine eE q λi e=>?_;clear q;rw [Array.getD_eq_getD_getElem?,e] at h;cases h
theorem b2i {o:Own} {h:Int} (l:o.size=m+1):∀ (f a n:Nat),K5 m h n=rs m (lps m h a)->(∃ b,a<=b/\b < a+f/\¬ o.taken (lps m h b).1) ->
  ∃ N,n<=N/\SetTable.layClean.free m o f (lps m h a).1 (lps m h a).2=some (K5 m h N).j/\¬ o.taken (K5 m h N).j/\∀ k,n<=k->k < N->o.taken (K5 m h k).j:=by
 intro f;induction f with
 | zero =>
  intro a n _ V;refine p9 V λb d g _=>?_;clear V;exact c59 g (by exact Nat.not_lt.mpr d)
 | succ f u =>
  intro a n e Y;refine p9 Y λb d g i=>?_;clear Y;have s:SetTable.runEnd m (lps m h a).1+1 - (lps m h a).1=SetTable.runEnd m (lps m h a).1 - (lps m h a).1+1:=Nat.succ_sub (b5n m _);have B:∀ k,k<=SetTable.runEnd m (lps m h a).1 - (lps m h a).1->(K5 m h (n+k)).j=(lps m h a).1+k:=λk J=>by rw[(b5o e k J)];rfl
  have r:∀ k,k<=SetTable.runEnd m (lps m h a).1 - (lps m h a).1->(lps m h a).1+k<=m:=λk J=>by refine u7 (B k J) ?_;exact b0w m h _
  show ∃ N,n<=N/\(match (List.range (SetTable.runEnd m (lps m h a).1+1 - (lps m h a).1)).find? λk=>(o.getD ((lps m h a).1+k) (some 0)).isNone with | some k=>some ((lps m h a).1+k) | none=>SetTable.layClean.free m o f (lps m h (a+1)).1 (lps m h (a+1)).2)=_/\_
  rw[s];cases q:(List.range (SetTable.runEnd m (lps m h a).1 - (lps m h a).1+1)).find? λk=>(o.getD ((lps m h a).1+k) (some 0)).isNone with
  | some k =>
   refine eAA (List.find?_range_eq_some.mp q) λA C D=>?_;have J:=c6O C;refine ⟨n+k,by exact c0a,?_,?_,λp Z O=>?_⟩
   ·dsimp only;rw[(B k (by exact c5L J))];rfl
   ·rw[(B k (by exact c5L J))];exact b7h A
   ·have:=D (p - n) (by exact Nat.sub_lt_left_of_lt_add Z O)
    refine u7 (Nat.add_sub_of_le Z) ?_;rw[(B (p - n) (c3m J O))];exact (b1x l (r _ (c3m J O))).resolve_left λz=>by rw [z] at this;cases this
  | none =>
   have U:∀ k,k<=SetTable.runEnd m (lps m h a).1 - (lps m h a).1->o.taken (K5 m h (n+k)).j:=λk J=>by
    have:=List.find?_eq_none.mp q k (c6N (by exact c51 J))
    rw[(B k J)];exact (b1x l (r k J)).resolve_left this
   have t:b≠a:=λz=>i (by clear q r s g d e;subst z;have:=U 0 (c5B _);rw [B 0 (Nat.zero_le _)] at this;exact this)
   refine J9 (u (a+1) _ (b1D e) ⟨b,by exact c1x d t,by exact c18 g,i⟩) λN v w x y=>?_
   refine ⟨N,by exact c2y v,w,x,λk Z O=>?_⟩
   by_cases c:k<=n+(SetTable.runEnd m (lps m h a).1 - (lps m h a).1)
   ·refine u7 (Nat.add_sub_of_le Z) ?_;exact U _ (by exact Nat.sub_le_iff_le_add'.mpr c)
   ·exact y k (c2Q c) O
structure OI (m:Nat) (hs:List Int) (o:Own):Prop where
 sz:o.size=m+1
 lt:∀ (j i:Nat),o[j]?=some (some i)->i < hs.length
 inj:∀ (j j' i:Nat),o[j]?=some (some i)->o[j']?=some (some i)->j=j'
 got:∀ (i:Nat) (h:Int),hs[i]?=some h->∃ n,o[(K5 m h n).j]?=some (some i)/\∀ k,k < n->o.taken (K5 m h k).j
theorem OI.nil (m:Nat):OI m [] (Array.replicate (m+1) none) where
 sz:=Array.size_replicate
 lt:=λj i e=>by
  rw [Array.getElem?_replicate] at e;split at e <;> cases e
 inj:=λj _ i e=>by
  rw [Array.getElem?_replicate] at e;split at e <;> cases e
 got:=λi h e=>nomatch e
theorem a4x {o:Own} (J:j < o.size) (B:Nat):(o.setIfInBounds j (some i))[B]?=if B=j then some (some i) else o[B]?:=by
 refine b9 Array.getElem?_setIfInBounds ?_;by_cases e:B=j
 ·subst e;simp [J]
 ·rw[(c57 (λq=>e q.symm))];rw[(c57 e)];rfl
theorem OI.put {o:Own} (O:OI m hs o) (c:a1k m=true) (F:hs.length<=m) (h:Int) :
  ∃ j,SetTable.layClean.free m o (SetTable.turns m) (SetTable.bits h % (m+1)) (SetTable.bits h)=some j/\OI m (hs++[h]) (o.setIfInBounds j (some hs.length)):=by
 have s:∃ j,j<=m/\¬ o.taken j:=by
  refine c5O λq=>?_;have q:∀ j,j<=m->∃ i,o[j]?=some (some i):=λj Y=>c5O λz=>q ⟨j,Y,z⟩;have V:(List.range (m+1)).map (λj=>((o[j]?).getD none).getD 0) ⊆ List.range hs.length:=λi E=>by
   refine i9 (c6D E) λj Y Q=>?_;clear E;subst Q;refine eE (q j (c5L (c6O Y))) λi e=>?_;rw[e];exact c6N (O.lt j i e)
  have P:((List.range (m+1)).map (λj=>((o[j]?).getD none).getD 0)).Nodup:=by
   refine List.Pairwise.map _ (λa b h=>h) (List.Pairwise.imp_of_mem (R:=λa b=>a≠b) (λ{a b} C D g=>?_) List.nodup_range);refine eE (q a (c5L (c6O C))) λi e=>eE (q b (c5L (c6O D))) λI J=>?_;rw[e];rw[J]
   rintro rfl
   exact g (O.inj _ _ _ e J)
  have:=List.Nodup.length_le_of_subset P V;rw [List.length_map,List.length_range,List.length_range] at this;exact c3e F this
 refine i9 s λw Z f=>?_;clear s;unfold a1k at c;rw [List.all_eq_true] at c;have p:=c _ (c6N (b4Q m h 13));rw [List.all_eq_true] at p;refine i9 (b48 m h (m+1) 13 w (c5w _) (List.contains_iff_mem.mp (p w (c6N (by exact c51 Z))))) λr H e=>?_
 refine J9 (b2i (h:=h) O.sz (SetTable.turns m) 0 0 rfl ⟨13+r,c5B _,by unfold SetTable.turns;exact c1g H,by rw[e];exact f⟩) λN _ K L M=>?_
 have B:(K5 m h N).j < o.size:=by rw[O.sz];exact c51 (b0w m h N)
 have keep:∀ U,o.taken U->∃ i,i < hs.length/\o[U]?=some (some i)/\(o.setIfInBounds (K5 m h N).j (some hs.length))[U]?=some (some i):=λU x=>by refine eE x λi e=>?_;clear x;exact
  ⟨i,O.lt _ _ e,e,by rewrite [a4x B];rw[(c57 (λq:U=(K5 m h N).j=>L ⟨i,q▸e⟩))];exact e⟩
 refine ⟨_,K,?_,λj i e=>?_,λj U i e J=>?_,λi v e=>?_⟩
 ·rw[Array.size_setIfInBounds];exact O.sz
 ·rw [a4x B] at e;rw[c50]
  split at e
  ·cases e;show hs.length < hs.length+1;exact b97
  ·have:=O.lt j i e;show i < hs.length+1;exact zo2 this
 ·rw [a4x B] at e J
  split at e <;> split at J
  ·rename_i a b;rw[a];rw[b];rfl
  ·cases e;exact c59 (O.lt _ _ J) (c5U _)
  ·cases J;exact c59 (O.lt _ _ e) (c5U _)
  ·exact O.inj _ _ _ e J
 ·rcases Nat.lt_or_ge i hs.length with q | q
  ·rw [List.getElem?_append_left q] at e;refine i9 (O.got i v e) λn t y=>p9 (keep _ ⟨i,t⟩) λI _ u A=>?_;rw [t] at u;cases u;exact ⟨n,A,λk d=>by refine p9 (keep _ (y k d)) λl _ _ z=>?_;exact ⟨l,z⟩⟩
  ·rw [List.getElem?_append_right q] at e;obtain ⟨rfl,G⟩:h=v/\i=hs.length:=by
    cases z:i - hs.length with
    | zero=>rw [z] at e;exact ⟨c5A e,by exact Nat.le_antisymm (Nat.sub_eq_zero_iff_le.mp z) q⟩
    | succ S=>rw [z] at e;cases e
   clear e q;subst G;exact ⟨N,by rewrite [a4x B];rw[(c58 rfl)];rfl,λk d=>by refine p9 (keep _ (M k (c5B _) d)) λl _ _ z=>?_;exact ⟨l,z⟩⟩
theorem b4C (c:a1k m=true):∀ (rest done:List Int) (o:Own),OI m done o->done.length+rest.length<=m ->
  ∃ o',(rest.foldl (λ(acc:Option (Own×Nat)) h=>do
   let (owner,k)<-acc
   let j<-SetTable.layClean.free m owner (SetTable.turns m) (SetTable.bits h % (m+1)) (SetTable.bits h)
   pure (owner.setIfInBounds j (some k),k+1)) (some (o,done.length)))=some (o',(done++rest).length)/\OI m (done++rest) o':=by
 intro rest;induction rest with
 | nil=>intro done o O _;exact ⟨o,by rw[(c6o ..)];rfl,by rw[(c6o ..)];exact O⟩
 | cons h rest V =>
  intro done o O q;refine i9 (O.put c (by simp at q;exact Nat.le_of_add_right_le q) h) λj e J=>?_
  refine i9 (V (done++[h]) _ J (by simp at q ⊢;exact c3h q)) λo' B U=>?_
  refine ⟨o',?_,by simpa using U⟩
  rw[List.foldl_cons];rw [List.append_assoc] at B;refine Eq.trans (c5z (rest.foldl _) ?_) B;show (do let j<-SetTable.layClean.free m o (SetTable.turns m) (SetTable.bits h % (m+1)) (SetTable.bits h);pure (o.setIfInBounds j (some done.length),done.length+1))=_
  rw[e];rw[c50];rfl
theorem b2x (c:a1k m=true) (q:List Int) (B:q.length<=m):∃ o,SetTable.layClean m q.toArray=some o/\OI m q o:=by
 refine i9 (b4C c q [] _ (OI.nil m) (by simpa using B)) λo e O=>?_
 refine ⟨o,?_,O⟩;unfold SetTable.layClean;rw[(List.foldl_toArray ..)];exact c5z (Option.map (·.1)) e
noncomputable def I8 (m:Nat) (o:Own):List (Nat×Nat):=(List.range (m+1)).filterMap λj=>(o.getD j none).map (j,·)
noncomputable def El0:El:=(0,.none,.none)
noncomputable def a0N (L:List El) (v:List (Nat×Nat)):List El:=v.map λx=>(x.1,(L.getD x.2 El0).2)
theorem N6 {o:Own} (O:o.size=m+1):(j,i)∈I8 m o↔o[j]?=some (some i):=by
 unfold I8;refine D5 (List.mem_filterMap ..) ?_;constructor
 ·rintro ⟨a,U,J⟩
  refine i9 (c6G J) λb q B=>?_;injection B with B h5
  subst B;clear J;subst h5;rw [Array.getD_eq_getD_getElem?] at q;cases e:o[a]? with
  | none=>rw [e] at q;cases q
  | some x=>rw [e] at q;exact c5z some q
 ·intro e;refine ⟨j,c6N ?_,?_⟩
  ·have:=a0j e;exact Nat.lt_of_lt_of_eq this O
  ·rw[c6e];rw[e];rfl
theorem a3R (m:Nat) (o:Own):(I8 m o).Pairwise λa b=>a.1 < b.1 :=
 List.Pairwise.filterMap _ (λa U h b J V q=>by
  refine i9 (c6G J) λ_ _ O=>?_;clear J;subst O;refine i9 (c6G q) λ_ _ B=>?_;clear q;subst B;exact h) List.pairwise_lt_range
theorem b4I {o:Own} (O:OI m hs o):((I8 m o).map (·.2)).Nodup:=by
 refine List.Pairwise.map _ (λa b h=>h) (List.Pairwise.imp_of_mem (R:=λa b=>a.1 < b.1) (λ{a b} B q J e=>?_) (a3R m o));have B:=(N6 O.sz (j:=a.1) (i:=a.2)).mp B;have q:=(N6 O.sz (j:=b.1) (i:=b.2)).mp q;rw [<- e] at q;have:=O.inj _ _ _ B q;exact b71 J this
theorem a6n {o:Own} (O:OI m hs o):((I8 m o).map (·.2)).Perm (List.range hs.length) :=
 (List.perm_ext_iff_of_nodup (b4I O) List.nodup_range).mpr λi=>⟨λq=>by
   refine i9 (c6D q) λJ B U=>?_;obtain ⟨j,i⟩:=J;clear q;subst U;exact c6N (O.lt _ _ ((N6 O.sz).mp B)),λq=>by
   have q:=c6O q;exact i9 (O.got i hs[i] (c5s q)) λn e _=>c6E ⟨(_,i),(N6 O.sz).mpr e,rfl⟩⟩
theorem b4H {o:Own} (O:OI m hs o):(I8 m o).length=hs.length:=by
 have:=(a6n O).length_eq;rwa [c5q,c6b] at this
theorem b0y {w:World} {o:Own} (O:OI m (L.map λx=>o6 w x.2.1) o) (M:(L.map (·.2.1)).Nodup) (G:m=31) (F:L.length<=18):TI w m (a0N L (I8 m o))/\(a0N L (I8 m o)).length=L.length /\
  (∀ x∈a0N L (I8 m o),∃ y∈L,y.2=x.2)/\(∀ y∈L,∃ x∈a0N L (I8 m o),x.2=y.2)/\((I8 m o).map (·.2)).filterMap (λi=>(t4 w L)[i]?)=(t4 w (a0N L (I8 m o))).toList:=by
 have q:∀ j i,(j,i)∈I8 m o->∃ y,L[i]?=some y/\L.getD i El0=y:=λj i h=>by
  have:=O.lt _ _ ((N6 O.sz).mp h);rw [List.length_map] at this;exact ⟨L[i],c5s this,by rw[c5H];rw[(c5s this)];rfl⟩
 have t:(a0N L (I8 m o)).length=L.length:=by
  unfold a0N;rw[(c5q ..)];rw[(b4H O)];rw[(c5q ..)];rfl
 have u:(a0N L (I8 m o)).map (·.1)=(I8 m o).map (·.1):=by unfold a0N;rw[c55];rfl
 have back:∀ y∈L,∃ x∈a0N L (I8 m o),x.2=y.2:=λy H=>by
  refine eE (c6L H) λi s=>i9 (O.got i (o6 w y.2.1) (by rw[c5x];rw[s];rfl)) λn e _=>?_
  have J:=(N6 O.sz).mpr e;refine i9 (q _ _ J) λy' B Z=>?_;rw [s] at B;have N:=B8 B;clear B;subst N;exact ⟨_,c6E ⟨_,J,rfl⟩,by show (L.getD i El0).2=_;rw[Z];rfl⟩
 refine ⟨⟨?_,?_,.inr ⟨G,by rw[t];exact F⟩,λx Y=>?_,λx Y=>?_⟩,t,λx Y=>?_,back,?_⟩
 ·rw[u];exact List.Pairwise.map _ (λa b h=>h) (a3R m o)
 ·unfold a0N;rw[c55];refine List.Pairwise.map _ (λa b h=>h) (List.Pairwise.imp_of_mem (R:=λa b=>a.1 < b.1) (λ{a b} p r d=>?_) (a3R m o));refine i9 (q a.1 a.2 p) λx v x2=>i9 (q b.1 b.2 r) λy U V=>?_;show (L.getD a.2 El0).2.1≠(L.getD b.2 El0).2.1;rw[x2];rw[V];intro e;have c:=c6C v;have C:=c6C U
  have:a.2=b.2:=(List.getElem?_inj (by simpa using c.1) M).mp (by rw[c5x];rw[c5x];rw[v];rw[U];exact c5z some e)
  have B:=(N6 O.sz (j:=a.1) (i:=a.2)).mp p;have Z:=(N6 O.sz (j:=b.1) (i:=b.2)).mp r;rw [<- this] at Z;have:=O.inj _ _ _ B Z;exact b71 d this
 ·refine i9 (c6D Y) λP B Q=>?_;obtain ⟨j,i⟩:=P;clear Y;subst Q;have:=a0j ((N6 O.sz).mp B);rw [O.sz] at this;exact c5L this
 ·refine i9 (c6D Y) λS B T=>?_;obtain ⟨j,i⟩:=S;clear Y;subst T;refine i9 (q _ _ B) λy U V=>i9 (O.got i (o6 w y.2.1) (by rw[c5x];rw[U];rfl)) λn e X=>?_
  have D:=O.inj _ _ _ e ((N6 O.sz).mp B);dsimp only;rw[V];refine ⟨n,D,λk E=>?_⟩;refine eE (X k E) λi' A=>?_;rw[u];exact c6E ⟨_,(N6 O.sz).mpr A,rfl⟩
 ·refine i9 (c6D Y) λW B g=>?_;obtain ⟨j,i⟩:=W;clear Y;subst g;exact i9 (q _ _ B) λy U V=>⟨y,c5p U,by show _=(L.getD i El0).2;rw[V];rfl⟩
 ·have f:∀ l:List (Nat×Nat),(∀ x∈l,x∈I8 m o)->(l.map (·.2)).filterMap (λi=>(t4 w L)[i]?)=(t4 w (a0N L l)).toList:=by
   intro l;induction l with
   | nil=>intro _;rfl
   | cons x l K =>
    intro h;refine i9 (q x.1 x.2 (h x (c5u))) λy U V=>?_;rw[c6a];refine b9 (List.filterMap_cons_some (b:=(o6 w y.2.1,y.2.2)) (by rw[(a0G ..)];rw[U];rfl)) ?_;rw[(K λz I=>h z (c5t _ I))]
    show _=(o6 w (L.getD x.2 El0).2.1,(L.getD x.2 El0).2.2) :: _;rw[V];rfl
  exact f _ λx h=>h
section
open Classical
theorem b4h:∀ n k,D7 n k=true->∀ (j:Nat) (A:Around) (E:Value->Shared->Prop) (s:Shared) (v:Value) (Q:Bool->Shared->Prop),j6 G s.heap k v->(∀ b,Q b s) ->
  wpAny c6W A (hashByValue (n+j) v) Q E s:=by
 refine Y2 (λn i j A E s v Q r q=>?_) (λn i j A E s v Q r q=>?_) λn l Y h j A E s v Q r q=>?_
 ·refine eE (J8 r) λt Z=>?_;clear r;subst Z;rw[(hashByValue_scannable _ rfl)];exact c5c (q _)
 ·refine eE (a1D r) λt c=>?_;clear r;subst c;rw[(hashByValue_scannable _ rfl)];exact c5c (q _)
 ·replace r:=U0 r;revert r;intro B;refine j8 B λa f d t r=>?_;clear B;subst d;have J:=a1C t;refine K8 t λo U _ z O=>?_;clear t;rw[(show n+1+j=n+j+1 from Nat.add_right_comm n 1 j)];refine c5b (wpAny_specialOf J PySem.F.slot_tuple_hash.lookup ?_);refine c5b (wpAny_seqItems U O ?_);refine c5b (a4S (λ_=>True) h r trivial (λy u b V e _=>?_) λb _=>?_)
  ·refine c5b (Y y V j _ _ _ _ _ e λb=>?_);cases b
   ·exact c5c (c5c (q _))
   ·exact c5c ⟨rfl,trivial⟩
  ·obtain ⟨_ | b,_⟩:=b <;> exact c5c (q _)
structure a5I (w:World) (t:SetTable) (L:List El) (k:f7) (b:Value) (j:Nat) (t1:SetTable) (p:Nat) (L':List El):Prop where
 pl:t1.place.toList=L'.map (·.1)
 mask:t1.mask=t.mask
 dum:t1.dummies=#[]
 es:SetTable.insertAt (t4 w L) p (o6 w k,b)=t4 w L'
 len:L'.length=L.length+1
 mem:∀ x,x∈L'↔x∈L\/x=(j,k,b)
 nod:(L'.map (·.2.1)).Nodup
 ti:((t.mask=7/\L.length < 4)\/(t.mask=31/\L.length < 18))->TI w t.mask L'
 led:t1.led=t.led
theorem a5I.fill {t t1:SetTable} {L q:List El} {b:Value} {j p:Nat} (P:a5I w t L k b j t1 p q):t1.fill=L.length+1:=by
 unfold SetTable.fill;rw[P.dum];refine u7 c5V ?_;rw[P.pl];rw[(c5q ..)];rw[P.len];rfl
theorem a5I.keys {t t1:SetTable} {L J:List El} {b:Value} {j p:Nat} (P:a5I w t L k b j t1 p J) (v:f7):v∈J.map (·.2.1)↔v∈L.map (·.2.1)\/v=k:=by
 simp only [List.mem_map];constructor
 ·rintro ⟨x,B,rfl⟩
  rcases (P.mem x).mp B with q | rfl
  ·exact .inl ⟨x,q,rfl⟩
  ·exact .inr rfl
 ·rintro (⟨x,B,rfl⟩ | rfl)
  ·exact ⟨x,(P.mem x).mpr (.inl B),rfl⟩
  ·exact ⟨_,(P.mem _).mpr (.inr rfl),rfl⟩
theorem a5I.from {t t1:SetTable} {L B:List El} {b:Value} {j p:Nat} (P:a5I w t L k b j t1 p B) (x:El) (J:x∈B):(∃ y∈L,y.2=x.2)\/x.2=(k,b) :=
 ((P.mem x).mp J).elim (λq=>.inl ⟨x,q,rfl⟩) λq=>.inr (by rw[q];rfl)
theorem a9c {b:Value} {N:Nat} (l:a0d w t L) (s:k∉L.map (·.2.1)) (V:(K5 t.mask (o6 w k) N).j∉L.map (·.1)) (o:∀ j,j < N->(K5 t.mask (o6 w k) j).j∈L.map (·.1)) :
  ∃ g,a5I w t L k b (K5 t.mask (o6 w k) N).j (t.put (K5 t.mask (o6 w k) N).j).1 (t.put (K5 t.mask (o6 w k) N).j).2 g:=by
 generalize Y:(K5 t.mask (o6 w k) N).j=j at V ⊢;have q:=l.ti.rise;rw [<- l.place] at q;refine eAA (a1g q j) λz Z d=>?_;have r:SetTable.has t.dummies j=false:=by rw[l.dum];rfl
 have m:t.put j=({t with place:=SetTable.insertAt t.place (SetTable.below t.place j) j},SetTable.below t.place j):=by
  unfold SetTable.put;rw[r];rfl
 rw[m];generalize SetTable.below t.place j=p at z Z d;have U:(SetTable.insertAt t.place p j).toList=(L.take p++(j,k,b) :: L.drop p).map (·.1):=by
  rw[(a0T ..)];rw[l.place];rw[c54];rw[c6a];rw[List.map_take];rw[List.map_drop];rfl
 have mem:∀ x:El,x∈L.take p++(j,k,b) :: L.drop p↔x∈L\/x=(j,k,b):=λx=>by
  conv=>rhs;(rewrite [<- List.take_append_drop p L];try rfl)
  refine D5 (List.mem_append ..) ?_;refine D5 (List.mem_append ..) ?_;refine D5 (List.mem_cons ..) ?_;constructor
  ·rintro (h | h | h)
   ·exact .inl (.inl h)
   ·exact .inr h
   ·exact .inl (.inr h)
  ·rintro ((h | h) | h)
   ·exact .inl h
   ·exact .inr (.inr h)
   ·exact .inr (.inl h)
 have nod:((L.take p++(j,k,b) :: L.drop p).map (·.2.1)).Nodup:=by
  have v:((L.take p++(j,k,b) :: L.drop p).map (·.2.1)).Perm (k :: L.map (·.2.1)):=by
   have:=(List.perm_middle (a:=(j,k,b)) (l₁:=L.take p) (l₂:=L.drop p)).map (λx:El=>x.2.1);rw [List.take_append_drop] at this;exact this
  exact v.nodup_iff.mpr (List.nodup_cons.mpr ⟨s,l.ti.nod⟩)
 have O:(L.take p++(j,k,b) :: L.drop p).length=L.length+1:=by
  rw[c50];rw[c6d];rw[List.length_take];rw[List.length_drop];have:t.place.size=L.length:=by refine u7 c5V ?_;rw[l.place];rw[(c5q ..)];rfl
  exact c4G
 refine ⟨_,U,rfl,l.dum,?_,O,mem,nod,λu=>⟨?_,nod,?_,λx J=>?_,λx J=>?_⟩,rfl⟩
 ·apply Array.toList_inj.mp;rw[(a0T ..)];simp only [t4,List.map_append,List.map_cons,List.map_take,List.map_drop]
 ·refine u7 U ?_;rw[(a0T ..)];have A:∀ x∈t.place.toList.take p,x < j:=λx J=>by
   refine eE (c6L J) λi B=>?_;rw [List.getElem?_take] at B
   split at B
   ·rename_i c;have:=Z i c;rw [Array.getElem?_toList] at B;rw [getD_some B] at this;exact this
   ·cases B
  have C:∀ x∈t.place.toList.drop p,j < x:=λx J=>by
   refine eE (c6L J) λi B=>?_;rw [List.getElem?_drop,Array.getElem?_toList] at B;have:=d (p+i) (c0a) (a0j B);rw [getD_some B] at this;refine c6v this λe=>V ?_;refine u7 l.place ?_;rw[e];exact Array.mem_toList_iff.mpr (Array.mem_of_getElem? B)
  rw [<- List.take_append_drop p t.place.toList,List.pairwise_append] at q;refine List.pairwise_append.mpr ⟨q.1,List.pairwise_cons.mpr ⟨C,q.2.1⟩,λx J y hy=>?_⟩;rcases c6K hy with rfl | hy
  ·exact A x J
  ·exact q.2.2 x J y hy
 ·rw[O];exact Or.symm (id (Or.symm u))
 ·rcases (mem x).mp J with h | rfl
  ·exact l.ti.le x h
  ·refine u7 Y ?_;exact b0w _ _ _
 ·have f:∀ n,n∈L.map (·.1)->n∈(L.take p++(j,k,b) :: L.drop p).map (·.1):=λn h=>by
   exact i9 (c6D h) λy D E=>c6E ⟨y,(mem y).mpr (.inl D),E⟩
  rcases (mem x).mp J with h | rfl
  ·exact i9 (l.ti.reach x h) λn a c=>⟨n,a,λi B=>f _ (c i B)⟩
  ·exact ⟨N,Y,λi B=>f _ (o i B)⟩
structure c0s (w:World) (t:SetTable) (L:List El) (t':SetTable) (order:Array Nat) (L':List El):Prop where
 rel:t.relaid ((t4 w L).map (·.1)) 20=some (t',order)
 laid:a0d w t' L'
 es:order.filterMap (λi=>(t4 w L)[i]?)=t4 w L'
 led:t'.led=t.led
 perm:order.toList.Perm (List.range L.length)
 len:L'.length=L.length
 fro:∀ x∈L',∃ y∈L,y.2=x.2
 til:∀ y∈L,∃ x∈L',x.2=y.2
theorem a8Q (V:(L.map (·.2.1)).Nodup) (q:L.length=5):∃ t' order B,c0s w t L t' order B:=by
 refine i9 (b2x a8g (L.map λx=>o6 w x.2.1) (by simp [q])) λo e O=>?_
 refine a59 (b0y O V rfl (c4r q)) λT U a b c=>?_;have J:(t4 w L).map (·.1)=(L.map λx=>o6 w x.2.1).toArray:=by
  simp only [t4,List.map_toArray,List.map_map];rfl
 refine ⟨⟨31,((I8 31 o).map (·.1)).toArray,#[],t.finger,t.led,t.movedTo 31,t.plain⟩,((I8 31 o).map (·.2)).toArray,a0N L (I8 31 o),?_,⟨T,?_,rfl⟩,?_,rfl,by have:=a6n O;rwa [c5q] at this,U,a,b⟩
 ·rw[J];show (do let owner<-SetTable.layClean 31 _;_)=_
  rw[e];rfl
 ·unfold a0N;rw[c55];rfl
 ·rw[List.filterMap_toArray];rw[c];rw[Array.toArray_toList];rfl
theorem a3t {es es':Array (Int×Value)} {t t':SetTable} (B:h.get? a=some o) (q:o.data=.set es ep t) :
  (h.update a (Obj.putSet es' t')).get? a=some {o with data:=.set es' (ep+1) t'}:=by
 have:=c5l (Obj.putSet es' t') B (by rw[(putSet_of es' t' q)];rfl)
 rw [putSet_of es' t' q] at this;exact this
theorem a6J {h h':Heap} {es:Array (Int×Value)} (U:h.get? a=some o) (O:o.data=.set es ep t) (V:Heap.SameBut a h h') (x:j6 G h k v):j6 G h' k v :=
 x.mono λb c t=>by
  refine K8 t λY q J z B=>?_;clear t;refine ⟨Y,(V.2 b ?_).trans q,J,z,B⟩
  clear V;rintro rfl
  rw [U] at q;have Z:=B8 q;clear q J;subst Z;rw [O] at B;cases B
noncomputable def b0W (w:World) (G:Gi) (K:f7->Bool) (s:Shared) (a:Addr) (L:List El) (k:f7) (v:Value) (Q:Bool->Shared->Prop):Prop :=
 ∀ L' h',Heap.SameBut a s.heap h'->X7 w G K h' a L'->(∀ u,u∈L'.map (·.2.1)↔u∈L.map (·.2.1)\/u=k)->(∀ x∈L',(∃ y∈L,y.2=x.2)\/x.2=(k,v))->∀ b,Q b {s with heap:=h'}
variable {p:Nat}{Q:Bool->Shared->Prop}{K:f7->Bool}{L' L2:List El}{t1 t2 t':SetTable}{ord:Array Nat}
theorem b1A (P:a5I w t L k v j t1 p L') (J:s.heap.get? a=some o) (B:o.data=.set (t4 w L) ep t) (ks:∀ x∈L,K x.2.1=true/\j6 G s.heap x.2.1 x.2.2) (U:K k=true) (r:j6 G s.heap k v) {h':Heap} (O:Heap.SameBut a s.heap h') (x:El) (V:x∈L'):K x.2.1=true/\j6 G h' x.2.1 x.2.2:=by
 rcases (P.mem x).mp V with q | rfl
 ·exact ⟨(ks x q).1,a6J J B O (ks x q).2⟩
 ·exact ⟨U,a6J J B O r⟩
theorem a77 (h:b0W w G K s a L k v Q) (P:a5I w t L k v j t1 p L') (J:s.heap.get? a=some o) (q:o.ExactSet) (B:o.data=.set (t4 w L) ep t) (ks:∀ x∈L,K x.2.1=true/\j6 G s.heap x.2.1 x.2.2) (d:K k=true) (r:j6 G s.heap k v)
  (V:t2.place=t1.place) (Y:t2.mask=t.mask) (Z:t2.dummies=#[]) (c:t2.led=!byT w) (U:(t.mask=7/\L.length < 4)\/(t.mask=31/\L.length < 18)) (b:Bool):Q b {s with heap:=s.heap.update a (Obj.putSet (t4 w L') t2)} :=
 have O:=c5m s.heap a (Obj.putSet (t4 w L') t2)
 h L' _ O ⟨⟨_,_,t2,a3t J B,q,rfl,⟨Y▸P.ti U,by rw[V];exact P.pl,Z⟩,c⟩,b1A P J B ks d r O⟩ P.keys P.from b
theorem a76 (h:b0W w G K s a L k v Q) (P:a5I w t L k v j t1 p L') (N:c0s w t2 L' t' ord L2) (V:s.heap.get? a=some o) (O:o.ExactSet) (U:o.data=.set (t4 w L) ep t) (ks:∀ x∈L,K x.2.1=true/\j6 G s.heap x.2.1 x.2.2) (c:K k=true) (r:j6 G s.heap k v) (Z:t2.led=!byT w) (b:Bool) :
  Q b {s with heap:=(s.heap.update a (Obj.putSet (t4 w L') t2)).update a (Obj.putSet (t4 w L2) t')}:=by
 have Y:=(c5m s.heap a (Obj.putSet (t4 w L') t2)).trans (c5m (s.heap.update a (Obj.putSet (t4 w L') t2)) a (Obj.putSet (t4 w L2) t'));refine h L2 _ Y ⟨⟨_,_,t',a3t (a3t V U) rfl,O,rfl,N.laid,N.led.trans Z⟩,λx q=>?_⟩ (λv=>?_) (λx q=>?_) b
 ·refine i9 (N.fro x q) λy B J=>?_;refine u7 J ?_;exact b1A P V U ks c r Y y B
 ·rewrite [<- P.keys];simp only [List.mem_map];constructor
  ·rintro ⟨x,q,rfl⟩
   exact i9 (N.fro x q) λy B J=>⟨y,B,by rw[J];rfl⟩
  ·rintro ⟨y,d,rfl⟩
   exact i9 (N.til y d) λx e f=>⟨x,e,by rw[f];rfl⟩
 ·refine i9 (N.fro x q) λy B J=>?_;refine u7 J ?_;exact P.from y B
variable {p:Array Nat}{Q:Value->Shared->Prop}
theorem b1K {m n:Nat} (h:(m=7/\n<=4)\/(m=31/\n<=18)) (q:n < 18) (c:¬ (m=7/\n=4)):(m=7/\n < 4)\/(m=31/\n < 18):=h.imp (λz=>⟨z.1,c6v z.2 λe=>c ⟨z.1,e⟩⟩) λz=>⟨z.1,q⟩
theorem b1L {m n:Nat} (h:(m=7/\n < 4)\/(m=31/\n < 18)):decide ((n+1) * 5>=m * 3)=false:=c5Y (h.elim (λz=>by rw[z.1];exact Nat.not_le.mpr (c5v (Nat.mul_le_mul_right 5 z.2) (by decide))) λz=>by rw[z.1];exact Nat.not_le.mpr (c5v (Nat.mul_le_mul_right 5 z.2) (by decide)))
set_option backward.match.sparseCases true in
theorem b7y {a b:Addr} {Q:Bool->Shared->Prop} (hu:A.units+64 < cLine) (S:X7 w G a2E s.heap a L) (Y:L.length < 18) (i:a2E k=true) (r:j6 G s.heap k (.ref b))
  (h:b0W w G a2E s a L k (.ref b) Q) :
  wpAny c6W A (setAddHashed a (.ref b) (o6 w k)) Q E s:=by
 obtain ⟨⟨o,ep,t,Z,d,V,l,W⟩,u⟩:=S;refine p9 (l.ti.free (o6 w k)) λN X y n3=>?_;have n4:=l.ti.turn;refine c5e (c5b (E0 Z V l ?_));dsimp only;rw[(show byScan (.ref b) (t4 w L)=false from rfl)];refine c5b (b22 hu Z V l u i r y n3 X (λH=>?_) (λH=>?_) N 0 100000 none (Nat.zero_add _) (by exact c6i X n4) rfl λx m e=>?_)
 ·exact c5c (h L s.heap (Heap.SameBut.refl a s.heap) ⟨⟨o,ep,t,Z,d,V,l,W⟩,u⟩ (λv=>⟨.inl,λz=>z.elim id λe=>e▸H⟩) (λx m=>.inl ⟨x,m,rfl⟩) _)
 ·refine c5b (E0 Z V l ?_);refine eE (a9c (b:=.ref b) l H y n3) λO P=>?_;rw[P.es];generalize (t.put (K5 t.mask (o6 w k) N).j).1=t1 at P;generalize (t.put (K5 t.mask (o6 w k) N).j).2=p at P;have c:∀ B,wpAny c6W A (do
    storeSet a (t4 w O) (if B=true then t1 else {t1 with plain:=false})
    if (!false&&(if B=true then t1 else {t1 with plain:=false}).tooFull)=true then setRelay a (SetTable.grown ((t4 w L).size+1))
    return true) Q E s:=λB=>by
   generalize J:(if B=true then t1 else {t1 with plain:=false})=t2
   have D:t2.place=t1.place:=by refine u7 J ?_;clear J;cases B <;> rfl
   have F:t2.mask=t.mask:=by (refine u7 P.mask ?_;refine u7 J ?_);clear J;cases B <;> rfl
   have K:t2.dummies=#[]:=by (refine u7 P.dum ?_;refine u7 J ?_);clear J;cases B <;> rfl
   have R:t2.led=!byT w:=by (refine u7 W ?_;refine u7 P.led ?_;refine u7 J ?_);clear J;cases B <;> rfl
   have M:t2.fill=L.length+1:=by refine u7 P.fill ?_;unfold SetTable.fill;rw[D];rw[K];rw[P.dum];rfl
   have z1:(t4 w O).size<=sizeLine:=by rw[(p6 ..)];rw[P.len];rw[sizeLine_eq];exact c5r Y (c5o rfl)
   refine c5b (wpAny_storeSet_of Z V ?_ z1);have T:=a3t (es':=t4 w O) (t':=t2) Z V;unfold SetTable.tooFull;rw[M];rw[F];by_cases U:t.mask=7/\L.length=4
   ·rw[U.1];rw[U.2];have e5:SetTable.grown ((t4 w L).size+1)=20:=by rw[(p6 ..)];rw[U.2];rfl
    rw[e5];show wpAny _ _ (do setRelay a 20;pure true) _ _ _
    refine c0C (a8Q (t:=t2) P.nod (by rw[P.len];rw[U.2];rfl)) λt' ord L2 f=>?_
    have ft:t2.fits (t4 w O).size=true:=by
     unfold SetTable.fits;rw[M];rw[F];rw[D];rw[(p6 ..)];rw[P.len];refine u7 c5V ?_;rw[P.pl];rw[(c5q ..)];rw[P.len];rw[U.1];rw[U.2];rfl
    refine c5b ?_;refine c5b (wpAny_setState_of T rfl ft ?_);show wpAny _ _ (do
     let (es,t)<-(do
      let some (t,order):=t2.relaid ((t4 w O).map (·.1)) 20 | unsupported "internal:set-table-without-room"
      let es':=order.filterMap ((t4 w O)[·]?)
      if es'.size != (t4 w O).size then unsupported "internal:set-table-lost-an-element"
      pure (es',t))
     storeSet a es t) _ _ _
    rw[f.rel];dsimp only;rw[f.es];have ne:((t4 w L2).size != (t4 w O).size)=false:=by rw[(p6 ..)];rw[(p6 ..)];rw[f.len];simp
    rw[ne];refine c5b (c5c (wpAny_storeSet_of T rfl (c5c (a76 h P f Z d V u i r R _)) (by rw[(p6 ..)];rw[f.len];rw[P.len];rw[sizeLine_eq];exact c3g U)))
   ·have g:(t.mask=7/\L.length < 4)\/(t.mask=31/\L.length < 18):=b1K l.ti.size Y U;have nf:decide ((L.length+1) * 5>=t.mask * 3)=false:=b1L g;rw[nf];exact c5c (a77 h P Z d V u i r D F K R g _)
  split
  ·refine c5b (b4h 3 _ (c6F i).2 5 _ _ _ _ _ r λB=>c B)
  ·exact c5b (c5c (c true))
 ·refine i9 (l.ti.reach x m) λn C I=>?_;rw [e] at C I;refine ⟨n,c5B _,?_,C.symm⟩;rcases Nat.lt_trichotomy n N with q | rfl | q
  ·exact q
  ·exact c59 (c6E ⟨x,m,C.symm⟩) y
  ·exact c59 (I N q) y
noncomputable def a95 (v:f7):Bool:=G8 v==0
theorem a1X (x:a95 k=true) (r:j6 G h k v):∃ i t,k=.int i/\v=.int i t:=by
 refine eE (V9 (c6u x)) λi B=>?_;clear x;subst B;replace r:=J8 r;refine eE r λt q=>?_;clear r;subst q;exact ⟨i,t,rfl,rfl⟩
theorem b6Z {v:Value} {N:Nat} (l:a0d w t L) (B:(K5 t.mask (o6 w k) N).j∉L.map (·.1)) (J:∀ j,j < N->(K5 t.mask (o6 w k) j).j∈L.map (·.1)) (O:N < 10 * SetTable.turns t.mask) :
  t.freeSlot (o6 w k)=some ((K5 t.mask (o6 w k) N).j,false):=by
 unfold SetTable.freeSlot;have:t.probe (λ_=>o6 w k+1) (o6 w k) (t.probeStart (o6 w k))=some (.empty (K5 t.mask (o6 w k) N).j none):=by
  rcases b1a l (ha:=λ_=>o6 w k+1) B J N 0 (10 * SetTable.turns t.mask) (Nat.zero_add _) O with ⟨g,_⟩ | ⟨_,_,_,_,_,_,_,q,_⟩
  ·exact g
  ·exact (c4a q).elim
 rw[this];rfl
theorem b5w {Q:Bool->Shared->Prop} (S:X7 w G a95 s.heap a L) (J:L.length < 18) (H:a95 k=true) (r:j6 G s.heap k v)
  (h:b0W w G a95 s a L k v Q) :
  wpAny c6W A (setAddHashed a v (o6 w k)) Q E s:=by
 obtain ⟨⟨o,ep,t,Z,Y,V,l,md⟩,O⟩:=S;refine p9 (l.ti.free (o6 w k)) λN n1 n2 n3=>u6 (a1X H r) λi c q3 q4=>?_;subst q3;subst q4;have hi:(intKind lc w).is i (.int i c)=true:=intKind_is _ _ _ _;have W:o6 w (.int i)=(intKind lc w).hash i:=rfl;have u:ElemsOf (intKind lc w) (t4 w L).toList:=λe he=>by
  refine i9 (c6D he) λx B q5=>?_;clear he;subst q5;refine u6 (a1X (O x B).1 (O x B).2) λI t' m n=>?_;dsimp only;rw[m];rw[n];exact ⟨⟨I,intKind_is _ _ _ _,rfl⟩,rfl⟩
 have hf:t.fits (t4 w L).size=true:=by rw[(p6 ..)];exact l.fits
 refine c5e (c5b (E0 Z V l ?_));dsimp only;refine b9 (byScan_of rfl (by rw[(p6 ..)];unfold scanBound;exact c5r J (c5o rfl)) u) ?_
 refine c5b (c5b (wpAny_rule ?_));rw[W];refine c5b (wpAny_setScan_of hi Z V hf u ?_);refine u7 W ?_;have mem:∀ x∈L,(intKind lc w).is i x.2.2=true->x.2.1=.int i:=λx B e=>by
  refine u6 (a1X (O x B).1 (O x B).2) λI t' m n=>?_;rw [n] at e;rw[m];rw[((intKind lc w).inj _ _ _ e (intKind_is _ _ _ _))];rfl
 cases X:List.findIdx? (λe:Int×Value=>(intKind lc w).is i e.2) (t4 w L).toList with
 | some j =>
  refine i9 (List.findIdx?_eq_some_iff_getElem.mp X) λhj C _=>?_;have y:f7.int i∈L.map (·.2.1):=by
   refine i9 (c6D (List.getElem_mem hj)) λx B e=>?_;rw [<- e] at C;exact c6E ⟨x,B,mem x B C⟩
  exact c5c (c5c (h L s.heap (Heap.SameBut.refl a s.heap) ⟨⟨o,ep,t,Z,Y,V,l,md⟩,O⟩ (λv=>⟨.inl,λz=>z.elim id λe=>e▸y⟩) (λx B=>.inl ⟨x,B,rfl⟩) _))
 | none =>
  have y:f7.int i∉L.map (·.2.1):=λy=>by
   refine i9 (c6D y) λx B e=>u6 (a1X (O x B).1 (O x B).2) λI t' m n=>?_;have:=List.findIdx?_eq_none_iff.mp X (o6 w x.2.1,x.2.2) (c6E ⟨x,B,rfl⟩);rw [m] at e;injection e with e
   rw [n,e,intKind_is] at this;cases this
  refine eE (a9c (b:=.int i c) l y n2 n3) λq P=>?_;have D:layNew t (t4 w L) (o6 w (.int i)) (.int i c)=(t4 w q,(t.put (K5 t.mask (o6 w (.int i)) N).j).1.orStandIn (t4 w q).size,false,!(t.put (K5 t.mask (o6 w (.int i)) N).j).1.fits (t4 w q).size):=by
   unfold layNew;rw[(b6Z (v:=.int i c) l n2 n3 n1)];refine u7 P.es ?_;rfl
  generalize T:layNew t (t4 w L) (o6 w (.int i)) (.int i c)=LL;rw [T] at D;clear T;generalize (t.put (K5 t.mask (o6 w (.int i)) N).j).1=t1 at P D;generalize (t.put (K5 t.mask (o6 w (.int i)) N).j).2=p at P;have M:=P.fill;have R:t1.fits (t4 w q).size=true:=by
   unfold SetTable.fits;rw[M];rw[P.mask];rw[(p6 ..)];rw[P.len];refine u7 c5V ?_;rw[P.pl];rw[(c5q ..)];rw[P.len];simp only [beq_self_eq_true,Bool.true_and,decide_eq_true_eq];exact l.ti.lt
  have F:t1.orStandIn (t4 w q).size=t1:=by unfold SetTable.orStandIn;rw[R];rfl
  rw [F,R] at D;subst D;have K:=P.led.trans md;show wpAny _ _ (do
   pure ()
   let byValue<-if t1.plain=true then hashByValue 8 (.int i c) else pure true
   let t2:=if byValue=true then t1 else {t1 with plain:=false}
   storeSet a (t4 w q) t2
   if (!false&&t2.tooFull)=true then do
    let (es,t,gave):=relayAll t2 (t4 w q) (SetTable.grown (t4 w q).size)
    (match gave with | true=>rule "set.scan.the-table-gave-way" | false=>pure ())
    storeSet a es t
    pure (some true)
   else pure (some true)) _ _ _
  refine c5b (c5c ?_);refine (λU=>wpAny_ite_split (λ_=>c5b (wpAny_of_eq (a:=true) (hashByValue_scannable 8 (show (Value.int i c).scannable=true from rfl)) U)) λ_=>c5b (c5c U)) ?_;simp only [if_true];have z1:(t4 w q).size<=sizeLine:=by rw[(p6 ..)];rw[P.len];rw[sizeLine_eq];exact c5r J (c5o rfl)
  refine c5b (wpAny_storeSet_of Z V ?_ z1);have g1:=a3t (es':=t4 w q) (t':=t1) Z V;unfold SetTable.tooFull;rw[M];rw[P.mask];by_cases f:t.mask=7/\L.length=4
  ·rw[f.1];rw[f.2];have e5:SetTable.grown (t4 w q).size=20:=by rw[(p6 ..)];rw[P.len];rw[f.2];rfl
   rw[e5];refine c0C (a8Q (t:=t1) P.nod (by rw[P.len];rw[f.2];rfl)) λt' ord L2 d=>?_
   have er:relayAll t1 (t4 w q) 20=(t4 w L2,t',false):=by
    unfold relayAll;rw[d.rel];dsimp only;rw[d.es];have:coversAll ord (t4 w q).size=true:=by
     rw[(p6 ..)];exact List.isPerm_iff.mpr d.perm
    rw[this];rw[(p6 ..)];rw[d.laid.fits];rfl
   show wpAny _ _ (do
    let (es,t,gave):=relayAll t1 (t4 w q) 20
    (match gave with | true=>rule "set.scan.the-table-gave-way" | false=>pure ())
    storeSet a es t
    pure (some true)) _ _ _
   rw[er];refine c5b (c5c ?_);refine c5b (wpAny_storeSet_of g1 rfl (c5c (c5c (a76 h P d Z Y V O H r K _))) (by rw[(p6 ..)];rw[d.len];rw[P.len];rw[sizeLine_eq];exact c3g f))
  ·have g:(t.mask=7/\L.length < 4)\/(t.mask=31/\L.length < 18):=b1K l.ti.size J f;have nf:decide ((L.length+1) * 5>=t.mask * 3)=false:=b1L g;rw[nf];exact c5c (c5c (a77 h P Z Y V O H r rfl P.mask P.dum K g _))
variable {xs:List f7}{e:Ev}{j:Int}
noncomputable def a5e (w:World):Obj:={cls:=.type "set",dict:=none,data:=.set #[] 0 (.fresh 0 0 (!byT w))}
theorem b7z (a:Value) (h:Q (.ref s.heap.objs.size) {s with heap:=s.heap.push (a5e w)}) :
  codeAny c6W A (.call (.builtin "set.__new__") ⟨[.type "set",a],[]⟩) (wants Q E) s:=by
 refine codeAny_of_tree ?_;show wpAny _ A.in1 (do checkBuiltinCall "set.__new__" ⟨[.type "set",a],[]⟩;again (.builtin "set.__new__" ⟨[.type "set",a],[]⟩)) _ _ s
 refine c5b (wpAny_of_eq (PySem.F.newCall_set_1 a) (c5c ⟨plainId_quiet PySem.F.plain_set_new _,codeAny_builtin PySem.F.entry_set_new ?_⟩));rw[(Around.under_plainId PySem.F.plain_set_new _)];unfold Builtin.«set.__new__» Builtin.Frozenset.newClass;have q:=sub_set_self;obtain ⟨B,g,d,O,J⟩:=s
 wp_walk
 refine wpAny_askSetting (c5c ?_);dsimp only;refine c5b (wpAny_alloc (c5c ?_));exact c5c h
theorem b13 {a:Value}
  (h:∀ O,O={s with heap:=s.heap.push (a5e w)}->wpAny c6W A.in1.in1 (Builtin.«set.__init__» ⟨[.ref s.heap.objs.size,a],[]⟩)
    (λY V=>match Y with | .done f=>wants (λr B=>r=.none/\Q (.ref s.heap.objs.size) B) E (.ok f) V | .again d=>d.quiet=true/\codeAny c6W A.in1 d (wants (λr B=>r=.none/\Q (.ref s.heap.objs.size) B) E) V)
    (λe V=>wants (λr B=>r=.none/\Q (.ref s.heap.objs.size) B) E (.error e) V) O) :
  wpAny c6W A (call (.type "set") [a]) Q E s:=by
 refine eEE PySem.F.called_set.mro λc z g=>?_;have b:=PySem.F.called_set.made;have i:=PySem.F.called_set.sub;refine wpAny_call (codeAny_of_tree ?_);refine c5c ⟨Code.quiet_builtin _ (by decide +kernel),codeAny_builtin PySem.F.entry_type_call ?_⟩
 rw[(Around.under_plain (weight_type_call_type "set" [a] []) rfl)];have v:=PySem.F.called_set.notType;have x:=PySem.F.called_set.canCreate;have m:=PySem.F.typeCall_set_1 a
 repeat (any_goals (first | assumption | wp_step))
 refine codeAny_mono (b7z a (E:=E) (Q:=λJ O=>J=.ref s.heap.objs.size/\O={s with heap:=s.heap.push (a5e w)}) ⟨rfl,rfl⟩) λr O U=>?_
 cases r with
 | error e=>exact U
 | ok j =>
  cases j with
  | ret J =>
   refine eA U λo p=>?_;clear U;subst o;subst p;have k:Shared.TypeIs {s with heap:=s.heap.push (a5e w)} (.ref s.heap.objs.size) "set":=⟨_,c5j _ rfl,rfl⟩
   have n:=PySem.F.called_set.init.lookup;have l:=PySem.F.called_set.init.bind (.ref s.heap.objs.size)
   repeat (any_goals (first | assumption | wp_step))
   refine codeAny_mono (codeAny_call_builtin (R:=wants (λr B=>r=.none/\Q (.ref s.heap.objs.size) B) E) PySem.F.called_set.init.plain PySem.F.entry_set_init (check_set_init_1 k (h _ rfl))) λu B q=>?_;cases u with
   | error e=>exact q
   | ok Z =>
    cases Z with
    | ret r =>
     refine eA q λt y=>?_;clear q;subst t
     repeat (any_goals (first | assumption | wp_step))
    | _=>exact q.elim
  | _=>exact U.elim
noncomputable def a70 (lc:Program) (w:World) (G:Gi) (K:f7->Bool):Prop:=∀ (A:Around) (E:Value->Shared->Prop) (s:Shared) (a:Addr) (k:f7) (v:Value) (L:List El) (Q:Bool->Shared->Prop),A.units+64 < cLine->X7 w G K s.heap a L->L.length < 18->K k=true->j6 G s.heap k v ->
  (∀ L' h',Heap.SameBut a s.heap h'->X7 w G K h' a L'->(∀ v,v∈L'.map (·.2.1)↔v∈L.map (·.2.1)\/v=k)->(∀ x∈L',(∃ y∈L,y.2=x.2)\/x.2=(k,v))->∀ b,Q b {s with heap:=h'})->wpAny (model lc w) A (setAddHashed a v (o6 w k)) Q E s
theorem add_int:a70 lc w G a95:=λ_ _ _ _ _ _ _ _ _ S B q r h=>b5w S B q r h
theorem b6r:a70 lc w G a2E:=λ_ _ _ _ _ _ _ _ J S B q r h=>by
 refine eE (a7U q r) λb O=>?_;subst O;exact b7y J S B q r h
theorem a1f {h h':Heap} (x:j6 G h k v) (e:∀ b o,h.get? b=some o->h'.get? b=some o):j6 G h' k v :=
 x.mono λb J t=>by
  refine i9 t λB q r=>?_;clear t;exact ⟨B,e _ _ q,r⟩
theorem X7.grow {K:f7->Bool} {h h':Heap} (S:X7 w G K h a L) (h0:Heap) (B:∀ x∈L,j6 G h0 x.2.1 x.2.2) (e0:∀ b o,h0.get? b=some o->h'.get? b=some o) (e:∀ o,h.get? a=some o->h'.get? a=some o):X7 w G K h' a L :=
 ⟨S.1.imp λ_=>Exists.imp λ_=>Exists.imp λ_ z=>⟨e _ z.1,z.2⟩,λx q=>⟨(S.2 x q).1,a1f (B x q) e0⟩⟩
theorem b5z {R:Result->Shared->Prop} {fp Z:List Addr} {g:Array GenState->Array GenState->Prop} {n:Nat} {P:Nat->Value->Prop} {St:Nat->Shared->Prop} {K:f7->Bool}
  (kv:∀ v,K v=true->D7 7 v=true) (N:a70 lc w G K) (hu:A.units+100 < cLine) (W:WalksS lc w A.in1 I fp Z g n P St) (S:Addr) (c:S∉fp) (xs:List f7) (hn:xs.length=n) (hx:∀ v∈xs,K v=true) (h0:Heap)
  (hv:∀ i v,P i v->∃ x,xs[i]?=some x/\j6 G h0 x v) (hw:∀ b o,h0.get? b=some o->b∉S :: Z) (D:List f7) (hD:D.length<=17) (a3:∀ v∈xs,v∈D) :
  ∀ (k i:Nat) (s:Shared) (L:List El),n - i=k->i<=n->St i s->X7 w G K s.heap S L->(∀ x∈L,j6 G h0 x.2.1 x.2.2)->(∀ v,v∈L.map (·.2.1)↔v∈xs.take i)->(∀ b o,h0.get? b=some o->s.heap.get? b=some o) ->
   (∀ U u,Moved (S :: Z) g s U->X7 w G K U.heap S u->(∀ v,v∈u.map (·.2.1)↔v∈xs)->R (.ok (.ret .none)) U) ->
   codeAny c6W A (.builtin "set.update.loop" ⟨[.ref S,.ref I],[]⟩) R s:=by
 have d:S∉Z:=λh=>c (W.sub _ h);have J:∀ b∈Z,b∈S :: Z:=λb f=>c5t _ f;intro k;induction k with
 | zero =>
  intro i s L j hi Y C H E he Q;obtain rfl:i=n:=by exact Nat.le_antisymm hi (Nat.sub_eq_zero_iff_le.mp j)
  refine codeAny_builtin F.entry_set_update_loop ?_;rw[(Around.under_plainId F.plain_set_update_loop _)];refine c5b (W.done s _ _ Y λU B=>?_);refine c5c (Q U L (B.mono J) (C.grow h0 H (λb o e=>B.heap b o (λh=>hw b o e (J b h)) (he b o e)) λo e=>B.heap S o d e) λv=>?_);refine D5 (E ..) ?_;refine u7 hn ?_;rw[c6n];rfl
 | succ k ih =>
  intro i s L j hi Y C H E he Q;refine codeAny_builtin F.entry_set_update_loop ?_;rw[(Around.under_plainId F.plain_set_update_loop _)];refine c5b (W.item i s _ _ (c3j j) Y λv U hP p B=>?_);refine i9 (hv i v hP) λx r rx=>?_;have O:∀ b o,h0.get? b=some o->U.heap.get? b=some o:=λb o e=>B.heap b o (λh=>hw b o e (J b h)) (he b o e);have T:=C.grow h0 H O λo e=>B.heap S o d e
  have kx:=hx x (c5p r);have hl:L.length < 18:=by
   obtain ⟨⟨_,_,t,_,_,_,l,_⟩,_⟩:=C;have:=List.Nodup.length_le_of_subset l.ti.nod (l₂:=D) λv a2=>a3 v (List.mem_of_mem_take ((E v).mp a2));rw [List.length_map] at this;exact c5v (c5r this hD) (c5o rfl)
  refine c5b (c5e ?_);refine c5e (c5b (a1c 7 x (kv x kx) _ _ _ _ _ (by show A.units+1+7 < cLine;exact c4H hu) (a1f rx O) ?_))
  refine N _ _ _ _ x v L _ (by show A.units+1+64 < cLine;exact c28 hu) T hl kx (a1f rx O) λu h' V X a1 a4 b=>?_
  have a0:∀ b o,h0.get? b=some o->h'.get? b=some o:=λb o e=>by
   rw[(V.2 b (λq=>hw b o e (q▸c5u)))];exact O b o e
  refine c5c ⟨plainId_quiet F.plain_set_update_loop _,ih (i+1) _ u (by exact (Nat.sub_add_eq _ _ _).trans (c5z (· - 1) j)) (c2g j) (W.frame _ U _ _ p (c5M _ _) λb f o e=>?_) X (λy hy=>?_) (λv=>?_) a0 λa6 M m a a5=>?_⟩
  ·refine b9 (V.2 b (λh:b=S=>c (by refine u7 h ?_;exact f))) ?_;exact e
  ·rcases a4 y hy with ⟨z,z1,z2⟩ | e
   ·refine u7 z2 ?_;exact H z z1
   ·rw[e];exact rx
  ·refine D5 (a1 ..) ?_;refine D5 (E ..) ?_;rw[c6k];rw[r];refine D5 (List.mem_append ..) ?_;simp only [Option.toList_some,List.mem_singleton]
  ·refine Q a6 M (Moved.trans W.gtrans ((B.mono J).then_heap (c5M _ _) λb o f e=>?_) m) a a5;refine b9 (V.2 b (λh:b=S=>f (by rw[h];exact c5u))) ?_;exact e
variable {o:N2}
theorem b2O {α:Type} (next:Nat->Nat):∀ (f k:Nat) (l:List α) (q:Array α),l.length<=f->(pickOrder.go next f k l q).toList.Perm (q.toList++l):=by
 intro f;induction f with
 | zero =>
  intro k l q h;obtain rfl:l=[]:=c5S (Nat.le_zero.mp h);exact c6o _▸.refl _
 | succ f J =>
  intro k l q h;show (match l[next k % l.length]? with | some x=>pickOrder.go next f (k+1) (l.eraseIdx (next k % l.length)) (q.push x) | none=>q).toList.Perm _
  cases e:l[next k % l.length]? with
  | none =>
   rw [List.getElem?_eq_none_iff] at e;rcases Nat.eq_zero_or_pos l.length with z | z
   ·clear e h;obtain rfl:l=[]:=c5S z;dsimp only;rw[(c6o ..)];rfl
   ·exact c59 (Nat.mod_lt (next k) z) (Nat.not_lt_of_le e)
  | some x =>
   refine eE (c6C e) λB O=>?_;clear e;subst O;refine (J (k+1) _ _ (by rw[(List.length_eraseIdx_of_lt B)];exact Nat.sub_le_of_le_add h)).trans ?_
   rw[Array.toList_push];rw[(List.append_assoc ..)];refine List.Perm.append_left _ ?_;rw[(List.eraseIdx_eq_take_drop_succ ..)];refine (List.perm_middle (l₁:=List.take _ _)).symm.trans ?_;refine u7 (List.drop_eq_getElem_cons B) ?_;rw[(List.take_append_drop ..)];rfl
noncomputable def a1b (w:World) (S:Addr) (ep:Nat) (L:List El):List (Int×Value):=if byT w=true then (pickOrder (w.params.setOrder S ep) (t4 w L)).toList else (t4 w L).toList
theorem a5j (w:World) (S:Addr) (ep:Nat) (L:List El):(a1b w S ep L).Perm (t4 w L).toList:=by
 unfold a1b
 split
 ·exact b2O _ _ _ _ _ (by rw[c5V];exact c5w _)
 ·exact List.Perm.refl _
theorem a9G {w:World} (l:a0d w t L) {x:El} (h:L[i]?=some x):SetTable.below t.place (x.1+1)=i+1:=by
 have B:t.place.toList.Pairwise (· < ·):=by rw[l.place];exact l.ti.rise
 have q:=l.at_ h;have J:=a0j q;refine eAA (a1g B (x.1+1)) λU V Y=>?_;generalize SetTable.below t.place (x.1+1)=p at U V Y;have e:=getD_some q;have d:∀ k,i < k->k < t.place.size->x.1 < t.place.getD k 0:=λk Z O=>by
  have:=List.pairwise_iff_getElem.mp B i k (by simpa using J) (by simpa using O) Z
  simp only [Array.getElem_toList] at this;rw[c6e];rw[(c5X O)];rw [Array.getElem?_eq_getElem J] at q;injection q with q
  rw [q] at this;exact this
 rcases Nat.lt_trichotomy p (i+1) with c | c | c
 ·have:=Y i (by exact c5L c) J
  exact c2M e this
 ·exact c
 ·have a:=V (i+1) c;have b:=d (i+1) (b97) (by exact c5G c U)
  exact c59 a (Nat.not_lt_of_le b)
theorem a9J {w:World} (l:a0d w t L):SetTable.below t.place 0=0:=by
 refine eAA (a1g (by rw[l.place];exact l.ti.rise) 0) λB q J=>?_
 rcases Nat.eq_zero_or_pos (SetTable.below t.place 0) with c | c
 ·exact c
 ·exact c59 (q 0 c) (c6A _)
theorem y4:Slot "set_iterator" "__next__" "set_iterator.__next__" :=
 .of (owner:="set_iterator") (n:="__next__") (by rw[(typeLookup_type ..)];rw[builtinLookup_eq_fast];kernel_rfl) (by decide +kernel) (by decide +kernel) (by decide +kernel)
  (by first | exact .inl (by decide +kernel) | exact .inr (by decide +kernel)) (by rw[(isSubtype_type ..)];kernel_rfl)
theorem S4:entryFor table "set_iterator.__next__"=some Builtin.«set_iterator.__next__»:=entryFor_of_tree (by kernel_rfl)
theorem a6t:Manifest.owners.lookup (String.ofList ['r','o','t','a','r','e','t','i','_','t','e','s'].reverse)=some Manifest.sig_set_iterator:=by kernel_rfl
theorem V2 (a:Value):argsOk "set_iterator.__next__" ⟨[a],[]⟩:=by
 unfold argsOk;refine b9 (signature?_of (id:="set_iterator.__next__") (n:=['_','_','t','x','e','n','_','_']) (o:=['r','o','t','a','r','e','t','i','_','t','e','s']) (by kernel_rfl) a6t) ?_;kernel_rfl
theorem a1Q:entryFor table "set.__iter__"=some Builtin.«frozenset.__iter__» :=
 entryFor_alias (id':="frozenset.__iter__") (by kernel_rfl) rfl (by decide +kernel) (by kernel_rfl)
theorem a2j {Q:Bool->Shared->Prop} (h:Q (byT w) s):wpAny c6W A setsByText Q E s:=by
 unfold setsByText;exact c5b (wpAny_askSetting (c5c h))
structure SI (w:World) (S:Addr) (L:List El) (ep:Nat) (h:Heap):Prop where
 ex:∃ o t,h.get? S=some o/\o.ExactSet/\o.data=.set (t4 w L) ep t/\a0d w t L/\t.led=!byT w/\(!byT w&&(!t.plain&&decide ((t4 w L).size > 1)))=false
noncomputable def b1V (w:World) (S I:Addr) (L:List El) (ep i:Nat) (h:Heap):Prop :=
 ∃ sl:Nat,h.get? I=some {cls:=.type "set_iterator",data:=.fields #[.int sl 0,.int i 0,.ref S,.int L.length 0,.int ep 0]}/\(byT w=false->∃ o t,h.get? S=some o/\o.data=.set (t4 w L) ep t/\SetTable.below t.place sl=i)
theorem b2K {ep i b:Nat} {x:Int×Value} {Q:Option (Value×Nat)->Shared->Prop} (f:SI w S L ep s.heap) (g:byT w=false->∃ o t,s.heap.get? S=some o/\o.data=.set (t4 w L) ep t/\SetTable.below t.place b=i)
  (O:(a1b w S ep L)[i]?=some x) (c:∀ e,(byT w=false->∃ o t,s.heap.get? S=some o/\o.data=.set (t4 w L) ep t/\SetTable.below t.place e=i+1)->Q (some (x.2,e)) s):wpAny c6W A (setNext S b i ep) Q E s:=by
 obtain ⟨⟨o,t,Z,h,Y,l,d⟩⟩:=f;refine c5b (E0 Z Y l ?_);refine c5b (a2j ?_);cases B:byT w with
 | true =>
  rw[(c57 (a2Q _))];refine c5b (c5b (E0 Z Y l ?_));refine c5b (a2j ?_);rw[B];refine c5b (wpAny_askSetting (c5c ?_));unfold a1b at O;rw [if_pos B,Array.getElem?_toList] at O;rw[(show c6W.w=w from rfl)];rw[O];exact c5c (c b λq=>by rw [B] at q;cases q)
 | false =>
  unfold a1b at O;rw [if_neg (by rw[B];exact Bool.false_ne_true)] at O
  rw [Array.getElem?_toList,a0G] at O;refine i9 (c6G O) λy a k=>?_;clear O;subst k;refine j8 (g B) λm n J V U=>?_;rw [Z] at J;have j:=B8 J;clear J;subst j;rw [Y] at V;cases V;simp only [Bool.false_eq_true,if_false];refine wpAny_ite_split (λq=>?_) (λ_=>?_)
  ·have q:(!t.plain&&decide ((t4 w L).size > 1))=true:=q;have:=d.2;rw [B] at this;rw [show (!false&&(!t.plain&&decide ((t4 w L).size > 1)))=(!t.plain&&decide ((t4 w L).size > 1)) from rfl,q] at this;cases this
  refine c5b ?_;show wpAny _ _ (if (!t.led&&!(t4 w L).isEmpty)=true then unsupported "set:maker-not-led" else pure ()) _ _ _
  rw[d.1];rw[B];refine c5c ?_;rw[U];rw[(a0G ..)];rw[a];rw[(l.at_ a)];exact c5c (c (y.1+1) λ_=>⟨o,t,Z,Y,a9G l a⟩)
theorem b2J {ep c:Nat} {Q:Option (Value×Nat)->Shared->Prop} (d:SI w S L ep s.heap) (e:byT w=false->∃ o t,s.heap.get? S=some o/\o.data=.set (t4 w L) ep t/\SetTable.below t.place c=L.length)
  (a:Q none s):wpAny c6W A (setNext S c L.length ep) Q E s:=by
 obtain ⟨⟨o,t,Y,f,V,l,b⟩⟩:=d;have Z:(a1b w S ep L).length=L.length:=by rw[((a5j w S ep L).length_eq)];rw[c5V];rw[(p6 ..)];rfl
 refine c5b (E0 Y V l ?_);refine c5b (a2j ?_);cases B:byT w with
 | true =>
  rw[(c57 (a2Q _))];refine c5b (c5b (E0 Y V l ?_));refine c5b (a2j ?_);rw[B];refine c5b (wpAny_askSetting (c5c ?_));unfold a1b at Z;rw [if_pos B,Array.length_toList] at Z;dsimp only;rw[(show c6W.w=w from rfl)];refine b9 (Array.getElem?_eq_none (by exact c5K Z)) ?_
  exact c5c a
 | false =>
  refine j8 (e B) λh i J U O=>?_;rw [Y] at J;have g:=B8 J;clear J;subst g;rw [V] at U;cases U;simp only [Bool.false_eq_true,if_false];refine wpAny_ite_split (λq=>?_) (λ_=>?_)
  ·have q:(!t.plain&&decide ((t4 w L).size > 1))=true:=q;have:=b.2;rw [B] at this;rw [show (!false&&(!t.plain&&decide ((t4 w L).size > 1)))=(!t.plain&&decide ((t4 w L).size > 1)) from rfl,q] at this;cases this
  refine c5b ?_;show wpAny _ _ (if (!t.led&&!(t4 w L).isEmpty)=true then unsupported "set:maker-not-led" else pure ()) _ _ _
  rw[b.1];rw[B];refine c5c ?_;rw[O];rw[(a0G ..)];rw[(c5T (c5w _))];exact c5c a
theorem b5C {x:Int×Value} {Q:Option Value->Shared->Prop} (Y:SI w S L ep s.heap) (V:b1V w S I L ep i s.heap) (h:(a1b w S ep L)[i]?=some x)
  (B:S≠I) (c:∀ h',b1V w S I L ep (i+1) h'->Heap.ExtBut I s.heap h'->Q (some x.2) {s with heap:=h'}):wpAny c6W A (pyNext (.ref I)) Q E s:=by
 refine i9 V λk J d=>?_;clear V;have Z:s.TypeIs (.ref I) "set_iterator":=⟨_,J,rfl⟩;refine c5b (wpAny_attempt (wpAny_callSpecial?_slot (name:=Str.ofString "__next__") Z y4
  (c5f y4 Z S4 ?_ (V2 _))))
 refine c5b (c5c ?_);refine c5b (wpAny_fieldsOf J rfl ?_);dsimp only;obtain ⟨⟨o,t,g,f,e,l,j⟩⟩:=id Y;refine c5b (c5b (E0 g e l (c5c ?_)));rw[(p6 ..)];rw[(c57 (a2Q _))];refine c5b (b2K Y d h λa O=>?_);refine c5b (wpAny_setField J rfl (by simp) ?_)
 have U:=c5l (Obj.mapFields (·.setIfInBounds 0 (rawInt a))) J rfl;refine c5b (wpAny_setField U rfl (by simp [Obj.mapFields]) ?_)
 have b:=c5l (Obj.mapFields (·.setIfInBounds 1 (rawInt ((i:Int)+1)))) U rfl;refine c5c ⟨_,rfl,c5c (c _ ⟨a,b,λq=>?_⟩ ((c5m ..).trans (c5m ..)).extBut)⟩;rw[(c5k _ _ B.symm)];rw[(c5k _ _ B.symm)];exact O q
theorem b7D {Q:Option Value->Shared->Prop} (c:A.handled=none) (J:SI w S L ep s.heap) (B:b1V w S I L ep L.length s.heap)
  (U:∀ h',Heap.ExtBut I s.heap h'->Q none {s with heap:=h'}):wpAny c6W A (pyNext (.ref I)) Q E s:=by
 refine i9 B λf q V=>?_;clear B;have O:s.TypeIs (.ref I) "set_iterator":=⟨_,q,rfl⟩;refine c5b (wpAny_attempt (wpAny_callSpecial?_slot (name:=Str.ofString "__next__") O y4
  (c5f y4 O S4 ?_ (V2 _))))
 refine c5b (c5c ?_);refine c5b (wpAny_fieldsOf q rfl ?_);dsimp only;obtain ⟨⟨o,t,d,Z,Y,l,e⟩⟩:=id J;refine c5b (c5b (E0 d Y l (c5c ?_)));rw[(p6 ..)];rw[(c57 (a2Q _))];refine c5b (b2J J V ?_);refine c5b (wpAny_setField q rfl (by simp) ?_)
 show wpAny _ _ (newExc (.type "StopIteration") []>>=_) _ _ _;refine c5b (c5b (c5h ?_ (by size_fits)))
 refine c5b (m:=firstArgMember _ _) (wpAny_of_eq (a:=Value.none) (by first | rfl | (simp only [firstArgMember];rfl)) ?_)
 refine c5h ?_ (by size_fits)
 refine c5b (wpAny_handled ?_);rw[(show A.in1.handled=none from c)];refine c5b (c5c (wpAny_throw ?_));refine c5b (wpAny_isInstance (T:="StopIteration") (b:=true) ⟨_,c5j _ rfl,rfl⟩ isSubtype_stop ?_);exact c5c (U _ (((c5m ..).extBut.push _).push _))
theorem V4:Slot "set_iterator" "__iter__" "set_iterator.__iter__" :=
 .of (owner:="set_iterator") (n:="__iter__") (by rw[(typeLookup_type ..)];rw[builtinLookup_eq_fast];kernel_rfl) (by decide +kernel) (by decide +kernel) (by decide +kernel)
  (by first | exact .inl (by decide +kernel) | exact .inr (by decide +kernel)) (by rw[(isSubtype_type ..)];kernel_rfl)
theorem a1R:entryFor table "set_iterator.__iter__"=some Builtin.«dict_keyiterator.__iter__» :=
 entryFor_alias (id':="dict_keyiterator.__iter__") (by kernel_rfl) rfl (by decide +kernel) (by kernel_rfl)
theorem a2G (a:Value):argsOk "set_iterator.__iter__" ⟨[a],[]⟩:=by
 unfold argsOk;refine b9 (signature?_of (id:="set_iterator.__iter__") (n:=['_','_','r','e','t','i','_','_']) (o:=['r','o','t','a','r','e','t','i','_','t','e','s']) (by kernel_rfl) a6t) ?_;kernel_rfl
variable {k:Nat}
theorem a8I {r:Addr} {Q:Bool->Shared->Prop} (J:s.TypeIs (.ref r) "set") (h:Q false s):wpAny c6W A (Builtin.List.listLengthHint (.ref r)) Q E s:=by
 refine c5b (wpAny_specialOf J PySem.F.slot_set_len.lookup ?_);generalize B:("set.__len__":String)=O
 wp_delta
 rw[(show splitId O=some ("set","__len__") from by subst B;decide +kernel)]
 subst B;refine c5b (wpAny_isInstance (T:="set") (b:=true) J (by rw[(isSubtype_type ..)];kernel_rfl) ?_)
 refine wpAny_ite_split (λq=>c59 q (by decide)) (λ_=>?_)
 refine wpAny_ite_split (λ_=>?_) (λq=>c59 (by decide +kernel) q)
 refine c5b (wpAny_typeOf J ?_);exact c5c h
noncomputable def b5B (S n ep:Nat):Obj:={cls:=.type "set_iterator",data:=.fields #[.int (0:Nat) 0,.int (0:Nat) 0,.ref S,.int n 0,.int ep 0]}
theorem b5y (Z:SI w S L ep s.heap)
  (Y:Q (.ref s.heap.objs.size) {s with heap:=s.heap.push (b5B S L.length ep)}):wpAny c6W A (pyIter (.ref S)) Q E s:=by
 obtain ⟨⟨o,t,B,O,J,l,a⟩⟩:=Z;have U:s.TypeIs (.ref S) "set":=⟨o,B,O.1⟩;refine wpAny_pyIter_slot U PySem.F.slot_set_iter (c5f PySem.F.slot_set_iter U a1Q ?_ (PySem.F.args_set_iter_1 _));unfold Builtin.«frozenset.__iter__» Builtin.Frozenset.slot0 slotArgs;simp only [List.isEmpty_nil,Bool.not_true,Bool.false_eq_true,↓reduceIte,bind_assoc,List.length_nil,bne_self_eq_false];refine c5b (c5c ?_)
 refine c5b (c5c ?_);have V:t.fits (t4 w L).size=true:=by rw[(p6 ..)];exact l.fits
 refine c5b (c5b (wpAny_setEntries_of B J V (c5c ?_)));refine c5b (c5b (E0 B J l ?_));refine c5b (a2j ?_);refine c5c (wpAny_ite_split (λq=>?_) (λ_=>?_))
 ·have q:(!byT w&&(!t.plain&&decide ((t4 w L).size > 1)))=true:=q;rw [a.2] at q;cases q
 refine c5b (c5c ?_);refine c5b (wpAny_setEpoch_of B J V ?_);rw[(p6 ..)];refine c5b (c5h (c5c ⟨_,rfl,"set_iterator",_,⟨_,c5j _ rfl,rfl⟩,y4.lookup,?_⟩));exact Y
theorem b7A (S:Addr) (L:List El) (ep:Nat):KdlSrc lc w "set" S S L.length (λi v=>∃ x,(a1b w S ep L)[i]?=some x/\v=x.2) (SI w S L ep) where
 type:=λ_ U=>by obtain ⟨⟨o,_,B,O,_⟩⟩:=U;exact ⟨o,B,O.1⟩
 there:=λ_ U=>by obtain ⟨⟨_,_,B,_⟩⟩:=U;exact ⟨c5n B,c5n B⟩
 keep:=λ_ _ U c=>by obtain ⟨⟨o,t,B,r⟩⟩:=U;exact ⟨⟨o,t,c S (.inl rfl) o B,r⟩⟩
 notList:=by decide
 notTuple:=by decide
 hint:=λ_ _ _ _ U k=>by obtain ⟨⟨o,_,B,O,_⟩⟩:=U;exact a8I ⟨o,B,O.1⟩ k
 iter:=λA s C U=>by
  refine B0 U.ex λo t B O n l D=>?_;have d:S≠s.heap.objs.size:=c5Q (c5n B);have frame:∀ i (h V:Heap),b1V w S s.heap.objs.size L ep i h/\SI w S L ep h->(∀ b∈[s.heap.objs.size,S],∀ o,h.get? b=some o->V.get? b=some o)->b1V w S s.heap.objs.size L ep i V/\SI w S L ep V:=λi h V J c=>by
   refine eA J λy G=>?_;clear J;refine i9 y λz a Y=>?_;clear y;obtain ⟨o,t,B,r⟩:=G;exact ⟨⟨z,c _ (by simp) _ a,λq=>by refine u6 (Y q) λo t e r=>?_;exact ⟨o,t,c S (by simp) _ e,r⟩⟩,⟨⟨o,t,c S (by simp) _ B,r⟩⟩⟩
  refine ⟨b5B S L.length ep,λi h=>b1V w S s.heap.objs.size L ep i h/\SI w S L ep h,λ_ _ k=>b5y U k,⟨λb Y=>by simp at Y;simp [Y],frame,λi f Q E a J Z=>?_,λf Q E J Z=>?_,λi f Q E J Z=>?_⟩,?_⟩
  ·have F:(a1b w S ep L).length=L.length:=by rw[((a5j w S ep L).length_eq)];rw[c5V];rw[(p6 ..)];rfl
   have p:=c5s (l:=a1b w S ep L) (i:=i) (by exact Nat.lt_of_lt_of_eq a (id (Eq.symm F)))
   refine b5C J.2 J.1 p d λV m g=>Z _ V f.toks ⟨_,p,rfl⟩ ⟨m,?_⟩ λb o Y e=>g b o (λh=>Y (by simp [h])) e
   obtain ⟨⟨o,t,B,r⟩⟩:=J.2;exact ⟨⟨o,t,g S o d B,r⟩⟩
  ·exact b7D C J.2 J.1 λV g=>Z V f.toks λb o Y e=>g b o (λh=>Y (by simp [h])) e
  ·refine eA J λu _=>?_;clear J;refine i9 u λz a _=>?_;clear u;have j:f.TypeIs (.ref s.heap.objs.size) "set_iterator":=⟨_,a,rfl⟩;refine wpAny_pyIter_slot j V4 (c5f V4 j a1R ?_ (a2G _));exact c5c ⟨_,rfl,"set_iterator",_,j,y4.lookup,Z⟩
  ·refine ⟨⟨0,c5j _ rfl,λ_=>⟨o,t,c5i _ B,n,a9J l⟩⟩,⟨⟨o,t,c5i _ B,O,n,l,D⟩⟩⟩
end
variable {k:Nat}{o:N2}{v:f7}{vs:List Value}{xs:List f7}{e:Ev}{j:Int}{K:f7->Bool}
theorem b0v {α:Type} {l:List α} {x:α} (h:l[i]?=some x):(x :: l.eraseIdx i).Perm l:=by
 refine eE (c6C h) λq B=>?_;clear h;subst B;rw[(List.eraseIdx_eq_take_drop_succ ..)];refine (List.perm_middle (l₁:=List.take _ _)).symm.trans ?_;refine u7 (List.drop_eq_getElem_cons q) ?_;rw[(List.take_append_drop ..)];rfl
theorem b19 {M:Model} {α:Type}:∀ (n:Nat) (xs:List α) (s:Shared) (Q:List α->Shared->Prop),xs.length<=n->(∀ ys d,ys.Perm xs->Q ys {s with drawn:=d})->wpAny M A (drawOrder n xs) Q E s:=by
 intro n;induction n with
 | zero =>
  intro xs s Q B h;obtain rfl:xs=[]:=c5S (Nat.le_zero.mp B);exact c5c (h [] s.drawn (.refl _))
 | succ n O =>
  intro xs s Q B h;cases xs with
  | nil=>exact c5c (h [] s.drawn (.refl _))
  | cons x xs =>
   refine c5b (λΓ p _=>⟨Nat.succ_ne_zero _,?_⟩);generalize q:M.w.draws _ _ % (x :: xs).length=i;have q:i < (x :: xs).length:=q▸Nat.mod_lt _ (c53 _);have J:=c5s q;show wpAny M A _ Q E {s with drawn:=s.drawn.bump .order}
   rw[J];refine c5b (O _ _ _ (by rw[(List.length_eraseIdx_of_lt q)];simp only [List.length_cons] at B ⊢;exact Nat.pred_le_pred B) λys d e=>c5c (h _ d ((e.cons _).trans (b0v J))))
noncomputable def c03 (S T n ep i:Nat):Obj:={cls:=.type "set_iterator",data:=.fields #[.ref T,.int i 0,.ref S,.int n 0,.int ep 0]}
structure DIt (w:World) (S T I:Addr) (L:List El) (ps:List Nat) (ep i:Nat) (h:Heap):Prop where
 set:∃ o t,h.get? S=some o/\o.data=.set (t4 w L) ep t/\a0d w t L
 tup:∃ o,h.get? T=some o/\o.data=.seq (ps.map λ(j:Nat)=>Value.int j 0).toArray 0
 it:h.get? I=some (c03 S T L.length ep i)
theorem b3V {S T I:Addr} {Y:List Nat} (D:A.handled=none) (z:S≠I) (C:T≠I) (u:Y.Perm (List.range L.length)) :
  Walks lc w A I [I,S,T] [I] L.length (λi v=>∃ j x,Y[i]?=some j/\L[j]?=some x/\v=x.2.2) (DIt w S T I L Y ep) where
 sub:=λb J=>by simp only [List.mem_singleton] at J;clear C z;subst J;exact c5u
 frame:=λi h H Z k=>by
  obtain ⟨⟨o,t,U,r⟩,⟨g,B,G⟩,e⟩:=Z;exact ⟨⟨o,t,k S (by simp) _ U,r⟩,⟨g,k T (by simp) _ B,G⟩,k I (by simp) _ e⟩
 item:=λi s Q E F Z c=>by
  obtain ⟨⟨o,t,U,d,l⟩,⟨g,B,O⟩,e⟩:=Z;have q:s.TypeIs (.ref I) "set_iterator":=⟨_,e,rfl⟩;have f:=c5s (l:=Y) (i:=i) (by rw[u.length_eq];rw[c6b];exact F)
  generalize Y[i]'_=j at f;have p:j < L.length:=c6O (u.mem_iff.mp (c5p f));have y:=c5s p;refine c5b (wpAny_attempt (wpAny_callSpecial?_slot (name:=Str.ofString "__next__") q y4 (c5f y4 q S4 ?_ (V2 _))));refine c5b (c5c ?_);refine c5b (wpAny_fieldsOf e rfl ?_);dsimp only;refine c5b (c5b (E0 U d l (c5c ?_)))
  rw[(p6 ..)];rw[(c57 (a2Q _))];refine c5b (wpAny_seqItems B O ?_);have V:(Y.map λ(j:Nat)=>Value.int j 0).toArray[(i:Int).toNat]?=some (.int j 0):=by simp [f]
  dsimp only;rw[V];refine c5b (c5b (E0 U d l ?_));simp only [Int.toNat_natCast,bne_self_eq_false,Bool.false_eq_true,if_false];rw[(a0G ..)];rw[y];refine c5c (c5b (wpAny_setField e rfl (by simp) ?_))
  have n:=c5l (Obj.mapFields (·.setIfInBounds 1 (rawInt ((i:Int)+1)))) e rfl;refine c5c ⟨_,rfl,c5c (c _ _ s.toks ⟨j,_,f,y,rfl⟩ ⟨⟨o,t,by rw[(c5k _ _ z.symm)];exact U,d,l⟩,⟨g,by rw[(c5k _ _ C.symm)];exact B,O⟩,n⟩ λb o J e=>?_)⟩
  exact (c5k _ _ λh=>J (by simp [h])).trans e
 done:=λs Q E Z c=>by
  obtain ⟨⟨o,t,U,d,l⟩,⟨g,B,O⟩,e⟩:=Z;have q:s.TypeIs (.ref I) "set_iterator":=⟨_,e,rfl⟩;refine c5b (wpAny_attempt (wpAny_callSpecial?_slot (name:=Str.ofString "__next__") q y4 (c5f y4 q S4 ?_ (V2 _))));refine c5b (c5c ?_);refine c5b (wpAny_fieldsOf e rfl ?_);dsimp only;refine c5b (c5b (E0 U d l (c5c ?_)));rw[(p6 ..)]
  rw[(c57 (a2Q _))];refine c5b (wpAny_seqItems B O ?_);have V:(Y.map λ(j:Nat)=>Value.int j 0).toArray[(L.length:Int).toNat]?=none:=by simp [u.length_eq]
  dsimp only;rw[V];refine c5b (wpAny_setField e rfl (by simp) ?_)
  have n:=c5l (Obj.mapFields (·.setIfInBounds 0 (rawInt 0))) e rfl;refine c5b (wpAny_setField n rfl (by simp [Obj.mapFields,c03]) ?_)
  show wpAny _ _ (newExc (.type "StopIteration") []>>=_) _ _ _;refine c5b ?_;simp only [newExc,newTuple];refine c5b (c5h ?_ (by size_fits))
  refine c5b (m:=firstArgMember _ _) (wpAny_of_eq (a:=Value.none) (by first | rfl | (simp only [firstArgMember];rfl)) ?_)
  refine c5h ?_ (by size_fits)
  refine c5b (wpAny_handled ?_);rw[(show A.in1.handled=none from D)];refine c5b (c5c (wpAny_throw ?_));refine c5b (wpAny_isInstance (T:="StopIteration") (b:=true) ⟨_,c5j _ rfl,rfl⟩ isSubtype_stop ?_);refine c5c (c _ s.toks λb o J e=>?_);have J:I≠b:=λh=>J (by simp [h])
  exact c5i _ (c5i _ ((c5k _ _ J).trans ((c5k _ _ J).trans e)))
 self:=λi s Q E Z c=>by
  have q:s.TypeIs (.ref I) "set_iterator":=⟨_,Z.it,rfl⟩;refine wpAny_pyIter_slot q V4 (c5f V4 q a1R ?_ (a2G _));exact c5c ⟨_,rfl,"set_iterator",_,q,y4.lookup,c⟩
theorem a7M (z:A.handled=none) (K:L.length < 64)
  (a:∃ o ep t,s.heap.get? S=some o/\o.ExactSet/\o.data=.set (t4 w L) ep t/\a0d w t L/\t.led=!byT w)
  (r:∀ I p P St h' d,Walks lc w A I p [I] L.length P St->St 0 h'->(∀ b o,s.heap.get? b=some o->h'.get? b=some o)->s.heap.get? I=none->(∀ b∈p,b=S\/s.heap.get? b=none)->(∀ acc,ItemsOf P acc L.length->acc.toList.Perm (L.map (·.2.2)))->Q (.ref I) {s with heap:=h',drawn:=d}) :
  wpAny c6W A (pyIter (.ref S)) Q E s:=by
 refine a8r a λo ep t B Z Y l N=>?_;clear a;by_cases q:(!byT w&&(!t.plain&&decide ((t4 w L).size > 1)))=true
 ·have u:s.TypeIs (.ref S) "set":=⟨o,B,Z.1⟩;refine wpAny_pyIter_slot u PySem.F.slot_set_iter (c5f PySem.F.slot_set_iter u a1Q ?_ (PySem.F.args_set_iter_1 _));unfold Builtin.«frozenset.__iter__» Builtin.Frozenset.slot0 slotArgs;simp only [List.isEmpty_nil,Bool.not_true,Bool.false_eq_true,↓reduceIte,bind_assoc,List.length_nil,bne_self_eq_false];refine c5b (c5c ?_);refine c5b (c5c ?_)
  have y:t.fits (t4 w L).size=true:=by rw[(p6 ..)];exact l.fits
  refine c5b (c5b (wpAny_setEntries_of B Y y (c5c ?_)));refine c5b (c5b (E0 B Y l ?_));refine c5b (a2j ?_);refine c5c (wpAny_ite_split (λ_=>?_) (λR=>c59 q R));refine c5b ?_;rw[(p6 ..)];refine (b19 _ (List.range L.length) _ _ (by rw[c6b];exact c5w _) λf d J=>?_)
  refine c5b (wpAny_newTuple ?_ (by rw[(c5q ..)];rw[J.length_eq];rw[c6b];rw[sizeLine_eq];exact zo5 K))
  have n:∀ (b:Addr) (o:Obj),s.heap.get? b=some o->(s.heap.push {cls:=.type "tuple",data:=.seq (f.map λ(j:Nat)=>rawInt j).toArray}).get? b=some o:=λb o e=>c5i _ e;refine c5b (wpAny_setEpoch_of (n _ _ B) Y y ?_);have O:∀ k,s.heap.get? (s.heap.objs.size+k)=none:=λk=>by
   cases e:s.heap.get? (s.heap.objs.size+k) with
   | none=>rfl
   | some o=>exact c59 (c5n e) (Nat.not_lt.mpr (c5M _ _))
  have c:(s.heap.push {cls:=.type "tuple",data:=.seq (f.map λ(j:Nat)=>rawInt j).toArray}).objs.size=s.heap.objs.size+1:=Heap.size_push ..;refine c5b (c5h (c5c ⟨_,rfl,"set_iterator",_,⟨_,c5j _ rfl,rfl⟩,y4.lookup,?_⟩));have a:S < s.heap.objs.size:=c5n B;refine r _ [_,S,s.heap.objs.size] _ (DIt w S s.heap.objs.size _ L f ep) _ d (b3V z (by show S≠_;rw[c];exact c5Q (c6y a)) (by show s.heap.objs.size≠_;rw[c];exact c5Q (c5J _)) J) ⟨⟨o,t,c5i _ (n _ _ B),Y,l⟩,⟨_,c5i _ (c5j _ rfl),rfl⟩,c5j _ rfl⟩
   (λb o e=>c5i _ (n _ _ e)) (by show s.heap.get? (Heap.push ..).objs.size=none;rw[c];exact O 1) (λb V=>?_) λacc U=>?_
  ·simp only [List.mem_cons,List.not_mem_nil,or_false] at V;rcases V with rfl | rfl | rfl
   ·right;show s.heap.get? (Heap.push ..).objs.size=none;rw[c];exact O 1
   ·exact .inl rfl
   ·exact .inr (O 0)
  ·have e:acc.toList=f.map λj=>(L.map (·.2.2)).getD j .none:=by
    apply List.ext_getElem?;intro i;rw[c56];rw[c5x];cases D:acc[i]? with
    | none =>
     have:L.length<=i:=by refine u7 U.1 ?_;exact Array.getElem?_eq_none_iff.mp D
     refine b9 (c5T (by rw[J.length_eq];rw[c6b];exact this)) ?_;rfl
    | some v =>
     refine j8 (U.2 i v D) λj x g H X=>?_;clear D;subst X;rw[g];rw[(Option.map_some ..)];rw[c5H];rw[c5x];rw[H];rfl
   rw[e];refine (J.map _).trans (List.Perm.of_eq ?_);apply List.ext_getElem?;intro i;simp only [List.getElem?_map];by_cases C:i < L.length
   ·simp [C]
   ·simp [C]
 ·have M:SI w S L ep s.heap:=⟨⟨o,t,B,Z,Y,l,N,eq_false_of_ne_true q⟩⟩;refine j8 ((b7A S L ep).iter A s z M) λoI St h W st=>?_;have O:s.heap.get? s.heap.objs.size=none:=by
   cases e:s.heap.get? s.heap.objs.size with
   | none=>rfl
   | some o=>exact c59 (c5n e) (c5U _)
  refine h _ _ (r _ _ _ _ _ s.drawn W st (λb o e=>c5i _ e) O (λb V=>?_) λacc U=>?_)
  ·simp only [List.mem_cons,List.not_mem_nil,or_false] at V;rcases V with rfl | rfl
   ·exact .inr O
   ·exact .inl rfl
  ·have J:=a5j w S ep L;have G:acc.toList=(a1b w S ep L).map (·.2):=by
    apply List.ext_getElem?;intro i;rw[c5x];rw[c56];have m:(a1b w S ep L).length=L.length:=by rw[J.length_eq];rw[c5V];rw[(p6 ..)];rfl
    cases q:acc[i]? with
    | none =>
     have:L.length<=i:=by refine u7 U.1 ?_;exact Array.getElem?_eq_none_iff.mp q
     rw[(c5T (by exact le_of_eq_of_le m this))];rfl
    | some v =>
     refine i9 (U.2 i v q) λx g T=>?_;clear q;subst T;rw[g];rfl
   rw[G];refine (J.map _).trans ?_;show ((L.map λx=>(o6 w x.2.1,x.2.2)).map _).Perm _;rw[c55];exact List.Perm.refl _
theorem a4c {R:List Value->Shared->Prop} (G:A.handled=none) (p:L.length < 64)
  (n:∃ o ep t,s.heap.get? S=some o/\o.ExactSet/\o.data=.set (t4 w L) ep t/\a0d w t L/\t.led=!byT w)
  (h:∀ h' tk d vs,(∀ b o,s.heap.get? b=some o->h'.get? b=some o)->vs.Perm (L.map (·.2.2))->R vs {s with heap:=h',toks:=tk,drawn:=d}):wpAny c6W A (collect (.ref S)) R E s:=by
 refine a1O n λo ep t u B r=>?_;clear n;have q:S < s.heap.objs.size:=c5n u;refine c5b (wpAny_runValue (codeAny_builtin entry_proto_collect' ?_));rw[(Around.under_plainId PySem.F.plain_proto_collect _)];show wpAny _ A.in1 (PySem.newList []>>=λl=>again (.builtin "list.__iadd__" ⟨[l,.ref S],[]⟩)) _ _ s;refine c5b (c5h ?_);refine c5c ⟨plainId_quiet PySem.F.plain_list_iadd _,codeAny_builtin entry_list_iadd' ?_⟩
 rw[(Around.under_plainId PySem.F.plain_list_iadd _)];have m:(s.heap.push {cls:=.type "list",data:=.seq ([]:List Value).toArray}).get? s.heap.objs.size=some {cls:=.type "list",data:=.seq #[]}:=c5j _ rfl;have J:=c5i {cls:=.type "list",data:=.seq ([]:List Value).toArray} u;show wpAny _ A.in1 (Builtin.List.listExtendWith (.ref s.heap.objs.size) (.ref S) (.ref s.heap.objs.size)) _ _ _
 refine c5b (wpAny_typeOf (T:="set") ⟨o,J,B.1⟩ ?_);have y:Builtin.List.listSameRef (.ref s.heap.objs.size) (.ref S)=false:=by simp [Builtin.List.listSameRef,Ne.symm (Nat.ne_of_lt q)]
 have z:(Value.type "set"==Value.type "list")=false:=by decide
 have C:(Value.type "set"==Value.type "tuple")=false:=by decide
 simp only [y,z,C,Bool.or_false,Bool.false_eq_true,if_false];refine c5b (a7M G p ⟨o,ep,t,J,B,r⟩ λI v P St h' d W K k D c H=>?_);refine c5b (c5e (a8I ⟨o,k _ _ J,B.1⟩ ?_));have U:s.heap.objs.size∉v:=λZ=>by
  rcases c _ Z with e | e
  ·exact c59 q (e▸c5U _)
  ·rw [m] at e;cases e
 rw[(c58 (by decide))]
 refine c5b (wpAny_rule (c5b ?_));have i:=k _ _ m;refine c5b (wpAny_updateSeq i rfl ?_);have j:=c5l (Obj.mapSeq (·.push Value.none)) i rfl;refine wpAny_updateSeq (hz:=by seq_fits) j rfl ?_
 have x:=c5l (Obj.mapSeq (·.pop)) j rfl;have Y:∀ (b:Addr) (o:Obj),b≠s.heap.objs.size->h'.get? b=some o->((h'.update s.heap.objs.size (Obj.mapSeq (·.push Value.none))).update s.heap.objs.size (Obj.mapSeq (·.pop))).get? b=some o:=λb o O e =>
  (c5k _ _ (Ne.symm O)).trans ((c5k _ _ (Ne.symm O)).trans e)
 refine c5c ⟨plainId_quiet PySem.F.plain_extend_loop _,codeAny_extend_loopS W.toS (by rw[sizeLine_eq];exact zo5 p) _ U _ L.length 0 _ #[] _ rfl (c5B _) (W.frame 0 _ _ K λb O o e=>Y b o (λh=>U (h▸O)) e) x (ItemsOf.nil _) λN f M Z a V=>?_⟩
 refine c5b (wpAny_load a ?_);rw[(Moved.eq_with Z)];refine c5c (h _ _ d _ (λb o e=>Z.heap b o (λO=>?_) (Y b o (c5Q (c5n e)) (k _ _ (c5i _ e)))) (H _ V));have q:=c5n e;rcases c6K O with h | h
 ·exact c59 q (h▸c5U _)
 ·clear q O;cases c6I h;have g:(s.heap.push {cls:=.type "list",data:=.seq ([]:List Value).toArray}).get? I=none:=D;rw [Heap.get?_push_of_some _ e] at g;cases g
section
variable {Q:A2}{α β:Type}{n:Nat}
noncomputable def a0A (n:Nat) (P:α->Prop):KasT α->Prop
 | .ret a=>P a
 | .ask i j k=>i < n/\j < n/\∀ b,a0A n P (k b)
theorem Z5 {P:β->Prop} {f:α->KasT β}:∀ t:KasT α,a0A n (λa=>a0A n P (f a)) t->a0A n P (t.bind f)
 | .ret _,h=>h
 | .ask _ _ k,h=>⟨h.1,h.2.1,λb=>Z5 (k b) (h.2.2 b)⟩
theorem Z6 {P Q:α->Prop} (q:∀ a,P a->Q a):∀ t:KasT α,a0A n P t->a0A n Q t
 | .ret a,h=>q a h
 | .ask _ _ k,h=>⟨h.1,h.2.1,λb=>Z6 q (k b) (h.2.2 b)⟩
theorem b1n {P:α->Prop} {Q:α->Shared->Prop} {q:Nat->Nat->(Bool->Shared->Prop)->Shared->Prop} (B:∀ i j C,i < n->j < n->(∀ b,C b s)->q i j C s) (J:∀ a,P a->Q a s):∀ t:KasT α,a0A n P t->t.kasWp q Q s
 | .ret a,h=>J a h
 | .ask i j k,h=>B i j _ h.1 h.2.1 λb=>b1n B J (k b) (h.2.2 b)
noncomputable abbrev PnR (n:Nat) (p:Array Nat):Prop:=p.Perm (List.range n).toArray
theorem a2K (h:PnR n p) (h0:0 < n) (i:Nat):p.getD i 0 < n:=by
 unfold Array.getD
 split
 ·rename_i q;have:p[i]∈p.toList:=Array.mem_toList_iff.mpr (Array.getElem_mem q);exact c6O ((Array.perm_iff_toList_perm.mp h).mem_iff.mp this)
 ·exact h0
theorem N5 {P:α->Prop} {p:Prop} [Decidable p] {x y:KasT α} (q:a0A n P x) (B:a0A n P y):a0A n P (if p then x else y):=by
 by_cases h:p
 ·rw[(c58 h)];exact q
 ·rw[(c57 h)];exact B
theorem a8N (h:PnR n p) (h0:0 < n):∀ f m,a0A n (λ_=>True) (kas_asc p f m):=by
 intro f;induction f with
 | zero=>exact λ_=>trivial
 | succ f q=>exact λm=>⟨a2K h h0 _,a2K h h0 _,λb=>N5 trivial (q _)⟩
theorem a5l {i j:Nat} (h:PnR n p):PnR n (kas_rev p i j):=(mirror_perm _ _ _ _).trans h
theorem b2s (h0:0 < n):∀ f p m q,PnR n p->a0A n (λr:Array Nat×Nat×Nat=>PnR n r.1) (kas_desc f p m q):=by
 intro f;induction f with
 | zero=>exact λ_ _ _ h=>h
 | succ f B=>exact λp m q h=>⟨a2K h h0 _,a2K h h0 _,λb=>N5 (N5 (B _ _ _ (a5l h)) (B _ _ _ h)) ⟨a2K h h0 _,a2K h h0 _,λb=>N5 h (B _ _ _ h)⟩⟩
theorem a43 (h0:0 < n) (h:PnR n p):a0A n (λr:Nat×Array Nat=>PnR n r.2) (kas_tail3 m k p) :=
 Z5 _ (Z6 (λ_ _=>a5l h) _ (a8N (a5l h) h0 _ _))
theorem a2H (h0:0 < n) (h:PnR n p):a0A n (λr:Nat×Array Nat=>PnR n r.2) (kas_descPart m k p) :=
 Z5 _ (Z6 (λr q=>N5 (a43 h0 (a5l q)) (a43 h0 q)) _ (b2s h0 _ _ _ _ h))
theorem a99 (h0:0 < n) (h:PnR n p):a0A n (λr:Nat×Array Nat=>PnR n r.2) (kas_count k p):=by
 have q:∀ m,a0A n (λr:Nat×Array Nat=>PnR n r.2) (KasT.ret (m,p)):=λ_=>h;refine Z5 _ (Z6 (λm _=>?_) _ (a8N h h0 _ _));show a0A n _ (ite _ _ _);exact N5 (q _) (N5 ⟨a2K h h0 _,a2K h h0 _,λb=>N5 (q _) (a2H h0 (a5l h))⟩ (a2H h0 h))
theorem b0a (h0:0 < n) (h:PnR n p):∀ f l r,a0A n (λ_=>True) (kas_place p k f l r):=by
 intro f;induction f with
 | zero=>exact λ_ _=>trivial
 | succ f q=>exact λl r=>N5 trivial ⟨a2K h h0 _,a2K h h0 _,λb=>N5 (q _ _) (q _ _)⟩
theorem b4t (h0:0 < n):∀ f p k,PnR n p->a0A n (PnR n) (kas_bin f p k):=by
 intro f;induction f with
 | zero=>exact λ_ _ h=>h
 | succ f q=>exact λp k h=>Z5 _ (Z6 (λl _=>q _ _ ((bubble_perm _ _ _).trans h)) _ (b0a h0 h _ _ _))
theorem b2t (h0:0 < n):a0A n (PnR n) (kas_sort n):=by
 refine Z5 _ (Z6 (λr q=>?_) _ (a99 h0 (.refl _)));show a0A n _ (ite _ _ _);exact N5 (b4t h0 _ _ _ q) (show a0A n (PnR n) (KasT.ret r.2) from q)
end
variable {Q:A2}
set_option backward.match.sparseCases true in
theorem b5D {n:Nat} {P:PySem.Fin->Shared->Prop} (k:s.heap.get? a=some (seqObj "list" vs.toArray n)) (U:vs.length < 64)
  (h:∀ q:List Value,q.Perm vs->P (.done (.ret .none)) {s with heap:=sortedHeap s.heap a vs q.toArray})
  (r:∀ h',(∀ b o,b≠a->s.heap.get? b=some o->h'.get? b=some o)->2<=vs.length->wpAny c6W A (keyKind' vs.toArray) (λκ B=>B={s with heap:=h'}/\∀ i j C,i < vs.length->j < vs.length->(∀ b,C b B)->kas_ask lc w A κ vs i j C B) E {s with heap:=h'}) :
  wpAny c6W A (Builtin.«list.sort» ⟨[.ref a],[]⟩) P E s:=by
 have I:a < s.heap.objs.size:=c5n k;obtain ⟨V,d⟩:∃ V,(s.heap.update a (Obj.mapSeq λ_=>(#[]:Array Value))).get? a=some (seqObj "list" #[] V):=⟨_,get?_update_seq k λ_=>#[]⟩;have f:(((s.heap.update a (Obj.mapSeq λ_=>#[])).push (seqObj "tuple" vs.toArray 0)).push (seqObj "list" #[] 0)).get? a=some (seqObj "list" #[] V):=c5i _ (c5i _ d)
 have r:=r (((s.heap.update a (Obj.mapSeq λ_=>(#[]:Array Value))).push (seqObj "tuple" vs.toArray 0)).push (seqObj "list" #[] 0)) λb o D e=>c5i _ (c5i _ (by rw[(c5k _ _ (Ne.symm D))];exact e))
 rw[(list_sort_plain ..)];refine c5b (listItems_at k rfl (c5b (listUpdate_at k rfl (c5b (seqEpoch_at d rfl (c5b (wpAny_newTuple (c5b (wpAny_newList (c5e ?_) (c5B _))) (by show vs.length<=_;rw[sizeLine_eq];exact zo5 U))))) (by rw[c6w];rw[sizeLine_eq];exact zo5 U) (c5B _))))
 dsimp only;have c:∀ (g:SortSt) (q:List Value),(arrOf g).map (·.2)=q.toArray->failedOf g=none->q.Perm vs->∀ B,B={s with heap:=((s.heap.update a (Obj.mapSeq λ_=>#[])).push (seqObj "tuple" vs.toArray 0)).push (seqObj "list" #[] 0)}->wpAny c6W A (do
   let O:=(<- seqEpoch a) != V
   Builtin.List.listUpdate (.ref a) λ_=>(arrOf g).map (·.2)
   if let some e:=failedOf g then rule "list.sort.comparison-raised";throw e
   if O then rule "list.sort.modified";raiseError "ValueError" "list modified during sort"
   ret .none) P E B:=λg q V z t B e=>by
  subst e;refine c5b (seqEpoch_at f rfl ?_);refine c5b (listUpdate_at f rfl ?_ (c5B _) (by rw[V];rw[c6w];rw[t.length_eq];rw[sizeLine_eq];exact c5r (c6f U) (c5o rfl)))
  rw[z];rw[(c57 (a2Q _))];refine c5c ?_;rw[V];exact h q t
 by_cases Z:vs.toArray.size < 2
 ·rw[(c58 Z)];rw[(c58 Z)];refine c5b (c5c ?_);rw[(StateT.run_pure ..)];refine c5b (c5c ?_);exact c (SortSt.mk' general' (vs.toArray.zip vs.toArray) #[] 7 none) vs (by show (vs.toArray.zip vs.toArray).map (·.2)=_;rewrite [<- Array.toList_inj];rw[Array.toList_map];rw[Array.toList_zip];(rewrite [List.map_snd_zip];try rfl);exact c5w _) rfl (.refl _) _ rfl
 ·have Y:2<=vs.length:=by rw [List.size_toArray] at Z;exact Nat.not_lt.mp Z
  rw[(c57 Z)];rw[(c57 Z)];refine c5b (c5d (r Y) (λκ B u=>?_) λ_ _ x=>x);refine eA u λe F=>?_;clear u;subst e;refine c5b (c5d (kat_run (Q:=λJ B=>∃ p:Array Nat,arrOf J=p.map (kas_item (vs.toArray.zip vs.toArray))/\failedOf J=none/\PnR vs.length p/\B=_) rfl Y U (λp J B _ l m y=>⟨p,l,m,y⟩) (b1n F (λp H=>⟨H,rfl⟩) _ (b2t (by exact Nat.zero_lt_of_lt Y)))) ?_ λ_ _ e=>e)
  rintro ⟨⟨⟩,J⟩ B ⟨p,v,l,m,e⟩
  exact c J _ (kat_snds rfl v) l (((Array.perm_iff_toList_perm.mp m).map _).trans (List.Perm.of_eq (by apply List.ext_getElem?;intro i;simp only [List.getElem?_map];by_cases G:i < vs.length <;> simp [G,List.getD_eq_getElem?_getD]))) B e
noncomputable abbrev OLt (lc:Program) (w:World) (A:Around) (s:Shared) (o:Bool) (u v:Value):Prop:=∀ (Q:Bool->Shared->Prop) (E:Value->Shared->Prop),(∀ b,Q b s)->wpAny (model lc w) A (oneLt' o u v) Q E s
theorem b7f {o:Bool} {i j:Int} {t u:Tok}:OLt lc w A s o (.int i t) (.int j u):=λQ E q=>by
 cases o
 ·exact kat_one _ _ (PySem.P.lt_int (q _))
 ·exact oneLt_int (q _)
noncomputable abbrev PI (p:Value×Value):Prop:=∃ a t b t',p=(.int a t,.int b t')
noncomputable abbrev AI (us:List Value):Prop:=∀ u∈us,∃ a t,u=.int a t
theorem b6b {us vs:List Value} (O:AI us) (U:AI vs):∀ p∈us.zip vs,PI p:=λp q=>by
 exact eEE (O _ (List.of_mem_zip (a:=p.1) (b:=p.2) q).1) λa t B=>eEE (U _ (List.of_mem_zip (a:=p.1) (b:=p.2) q).2) λb V J=>⟨a,t,b,V,Prod.ext B J⟩
theorem b77:∀ {l:List f7} {us:List Value},b1W l=true->m5 G h l us->AI us:=by
 intro l;induction l with
 | nil=>intro us _ r;cases a0D r;exact λu B=>nomatch B
 | cons x l O =>
  intro us k r;refine j8 (B6 r) λu us Z b q=>?_;subst Z;refine eA (c6F k) λU V=>eE (V9 (c6u U)) λi a=>?_;clear U k;subst a;refine eE (J8 b) λt Y=>?_;clear r b;subst Y;exact λv J=>(c6K J).elim (λe=>⟨i,t,e⟩) (O V q v)
theorem b4n {B:Bool} {Q:Bool->Shared->Prop} (q:∀ b,Q b s):∀ (l:List (Value×Value)) (i:Nat),(∀ p∈l,PI p)->KatLex lc w A true B Q l i s:=by
 intro l;induction l with
 | nil=>exact λ_ _=>kat_nil (q _)
 | cons p l O =>
  intro i h;obtain ⟨a,t,b,U,rfl⟩:=h p c5u;exact kat_cons (wpAny_eqBool_int (kat_go (λ_=>kat_yes (O _ λp J=>h p (c5t _ J))) λ_=>kat_no (b7f _ _ q)))
theorem b7g {a b:Addr} {us vs:List Value} (n:A.units < cLine) (t1:IsTup s.heap a us.toArray) (t2:IsTup s.heap b vs.toArray) (k:AI us) (l:AI vs):OLt lc w A s false (.ref a) (.ref b):=λQ E q=>by
 refine K8 t1 λd B Y o O=>?_;clear t1;refine K8 t2 λf J Z u U=>?_;clear t2;refine kat_one _ _ (wpAny_richCompare_same_room (op:=.Lt) ⟨d,B,Y⟩ ⟨f,J,Z⟩ F.slot_tuple_lt (c5f F.slot_tuple_lt ⟨d,B,Y⟩ F.entry_tuple_lt ?_ (F.args_tuple_lt_2 _ _)) n);show wpAny _ _ (isInstance (.ref b) (.type "tuple")>>=_) _ _ s;refine c5b (wpAny_isInstance ⟨f,J,Z⟩ isSubtype_tuple_tuple ?_)
 refine c5b (wpAny_tupleItemsOf B O (c5b (wpAny_tupleItemsOf J U (c5b ?_))));refine wpAny_forIn_list _ (λrest r V=>(r.1=none/\V=s)/\∀ p∈rest,PI p) _ (λp rest r V h=>?_) (λr V h=>?_) _ _ ⟨⟨rfl,rfl⟩,b6b k l⟩
 ·revert h;intro i;refine eA i λg h=>?_;clear i;refine eA g λc e=>?_;clear g J B;subst e;obtain ⟨a,t,b,y,e⟩:=h p c5u;subst e;refine c5b (wpAny_eqBool_int ?_);cases a==b
  ·exact c5b (wpAny_rule (c5b (PySem.P.lt_int (c5b (c5c (c5c (c5c ⟨_,rfl,And.intro (λz=>nomatch z) (q _)⟩)))))))
  ·exact c5c ⟨⟨rfl,rfl⟩,λp m=>h p (c5t _ m)⟩
 ·refine eA h λj _=>?_;clear h;refine eA j λc e=>?_;clear j J B;subst e;obtain ⟨v,x⟩:=r;cases c;exact c5c ⟨_,rfl,And.intro (λz=>nomatch z) (q _)⟩
section
open Classical
variable {items:Array Value}{K:Calls}
theorem b57:∀ {xs:List f7} {us:List Value} (i:Nat) {v:Value},m5 G h xs us->us[i]?=some v->∃ x,xs[i]?=some x/\j6 G h x v:=by
 intro xs;induction xs with
 | nil=>intro _ i _ r e;replace r:=a0D r;subst r;cases e
 | cons y xs q =>
  intro _ i v r e;replace r:=B6 r;refine j8 r λu us J O U=>?_;clear r;subst J;cases i with
  | zero=>have B:=B8 e;clear e;subst B;exact ⟨y,rfl,O⟩
  | succ i=>exact q i U e
theorem b2I {K:f7->Bool} (B:h.get? a=some (a5e w)):X7 w G K h a [] :=
 ⟨⟨_,0,_,B,⟨rfl,rfl,rfl⟩,rfl,⟨⟨.nil,.nil,.inl ⟨rfl,c5B _⟩,(λx q=>nomatch q),(λx q=>nomatch q)⟩,rfl,rfl⟩,rfl⟩,λx q=>nomatch q⟩
structure Itb (lc:Program) (w:World) (T:String) (h:Heap) (a:Addr) (items:Array Value):Prop where
 at_:∃ o,h.get? a=some o/\o.cls=.type T
 noSet:isSubtype (.type T) (.type "set")=pure false
 noFz:isSubtype (.type T) (.type "frozenset")=pure false
 noDict:(Value.type T==Value.type "dict")=false
 iter:∀ (A:Around) (s:Shared),A.handled=none->(∀ b o,h.get? b=some o->s.heap.get? b=some o)->∃ (oI:Obj) (St:Nat->Heap->Prop),
  (∀ (B:Around) (E:Value->Shared->Prop) (Q:Value->Shared->Prop),Q (.ref s.heap.objs.size) {s with heap:=s.heap.push oI}->wpAny (model lc w) B (pyIter (.ref a)) Q E s) /\
  Walks lc w A s.heap.objs.size [s.heap.objs.size,a] [s.heap.objs.size] items.size (λi v=>items[i]?=some v) St/\St 0 (s.heap.push oI)
theorem b4q (O:h.IsList a items):Itb lc w "list" h a items where
 at_:=by refine p9 O λo J U _=>?_;clear O;exact ⟨o,J,U⟩
 noSet:=PySem.F.sub_list_set
 noFz:=PySem.F.sub_list_frozenset
 noDict:=by decide
 iter:=λA s V k=>by
  have B:s.heap.IsList a items:=by refine i9 O λo J r=>?_;clear O;exact ⟨o,k _ _ J,r⟩
  exact i9 (id B) λo J _=>⟨_,_,λ_ _ _ q=>wpAny_pyIter_list B q,Walks.list V _ a (c5Q (c5n J)) items,⟨_,c5j _ rfl,rfl,rfl⟩,B.push _⟩
theorem b6U (O:IsTup h a items):Itb lc w "tuple" h a items where
 at_:=by refine p9 O λo J U _=>?_;clear O;exact ⟨o,J,U⟩
 noSet:=PySem.F.sub_tuple_set
 noFz:=PySem.F.sub_tuple_frozenset
 noDict:=by decide
 iter:=λA s V k=>by
  have B:s.heap.IsTuple a items:=by refine i9 O λo J r=>?_;clear O;exact ⟨o,k _ _ J,r⟩
  exact i9 (id B) λo J _=>⟨_,_,λ_ _ _ q=>wpAny_pyIter_tuple B q,Walks.tuple V _ a (c5Q (c5n J)) items,⟨_,c5j _ rfl,rfl,rfl⟩,B.push _⟩
theorem b5A {K:f7->Bool} {T:String} {xs D:List f7} {Q:Value->Shared->Prop} (kv:∀ v,K v=true->D7 7 v=true) (f:a70 lc w G K) (N:A.handled=none) (R:A.units+110 < cLine)
  (src:Itb lc w T s.heap a items) (r:m5 G s.heap xs items.toList) (n:∀ v∈xs,K v=true) (L:D.length<=17) (p:∀ v∈xs,v∈D)
  (h:∀ c h' tk,X7 w G K h' s.heap.objs.size c->(∀ v,v∈c.map (·.2.1)↔v∈xs)->(∀ b o,s.heap.get? b=some o->h'.get? b=some o)->Q (.ref s.heap.objs.size) {s with heap:=h',toks:=tk}) :
  wpAny c6W A (call (.type "set") [.ref a]) Q E s:=by
 refine b13 λs₁ e=>?_;subst e;have j:(s.heap.push (a5e w)).get? s.heap.objs.size=some (a5e w):=c5j _ rfl;have M:Shared.TypeIs {s with heap:=s.heap.push (a5e w)} (.ref s.heap.objs.size) "set":=⟨_,j,rfl⟩
 refine i9 src.at_ λol Y V=>?_;obtain ⟨C,U,O,B⟩:=ol;simp only at V;subst V;have Z:(s.heap.push (a5e w)).get? a=some {cls:=.type T,dict:=U,data:=O,slots:=B}:=c5i _ Y;have z:=src.noSet;have y:=src.noFz;have P:=src.noDict;have J:=src.iter A.in1.in1.in1 {s with heap:=s.heap.push (a5e w)} N λb o e=>c5i _ e
 unfold a5e at j M Z J ⊢;unfold Builtin.«set.__init__» noKeywords Builtin.Frozenset.updateFrom;generalize g:pyIter=PI
 wp_walk
 subst g;have q:(s.heap.push {cls:=.type "set",dict:=none,data:=.set #[] 0 (.fresh 0 0 (!byT w))}).objs.size=s.heap.objs.size+1:=Heap.size_push ..;have m:a < s.heap.objs.size:=c5n Y;refine j8 J λoI St pi W st=>?_;clear J;refine pi _ _ _ (c5b (wpAny_runValue ?_));have k:s.heap.objs.size∉[(s.heap.push {cls:=.type "set",dict:=none,data:=.set #[] 0 (.fresh 0 0 (!byT w))}).objs.size,a]:=by
  rw[q];simp only [List.mem_cons,List.not_mem_nil,or_false,not_or];exact ⟨c5Q (c5J _),Nat.ne_of_gt m⟩
 have xl:xs.length=items.size:=by rw[r.length];rw[c5V];rfl
 refine b5z (K:=K) (xs:=xs) (h0:=s.heap) (D:=D) kv f (by show A.units+1+1+100 < cLine;exact c4I R) W.toS s.heap.objs.size k xl n (λi v S=>b57 i r (by rw[c56];exact S)) (λb o e l=>?_) L p (items.size - 0) 0 _ [] rfl (c5B _) st
  (b2I (c5i _ j)) (λx n=>nomatch n) (λv=>by simp) (λb o e=>c5i _ (c5i _ e)) λs' c d F X=>?_
 ·have:=c5n e;rw [q] at l;simp only [List.mem_cons,List.not_mem_nil,or_false] at l;clear e;rcases l with rfl | rfl
  ·exact c5U _ this
  ·exact c59 this (Nat.not_lt_of_lt (c5J _))
 ·obtain ⟨h',I,H,u,t⟩:=s';obtain rfl:I=s.gens:=d.gens;obtain rfl:H=s.drawn:=d.drawn;obtain rfl:t=s.os:=d.os;refine c5c (c5c ⟨rfl,h c h' u F X λb o e=>d.heap b o ?_ (c5i _ (c5i _ e))⟩);have:=c5n e;rw[q];simp only [List.mem_cons,List.not_mem_nil,or_false,not_or];exact ⟨c5Q this,c5Q (c6y this)⟩
theorem a9k {K:f7->Bool} {xs D:List f7} (d:∀ v,K v=true->D7 7 v=true) (B:a70 lc w G K) (O:AOk n m A) (R:c6U H s.heap) (r:j6 G s.heap v u) (e:a1E H v xs) (c:∀ v∈xs,K v=true) (Z:D.length<=17) (J:∀ v∈xs,v∈D) {Q:Value->Shared->Prop}
  (h:∀ q h' tk,X7 w G K h' s.heap.objs.size q->(∀ v,v∈q.map (·.2.1)↔v∈xs)->c64 O1 H s H {s with heap:=h',toks:=tk}->Q (.ref s.heap.objs.size) {s with heap:=h',toks:=tk}):wpAny c6W A (call (.type "set") [u]) Q A7 s:=by
 have b:A.units+110 < cLine:=by have:=O.units;exact c5v (c5I (c5o rfl) _) this
 rcases e with rfl | ⟨a,rfl,e⟩
 ·refine j8 (U0 r) λa i Y t g=>?_;clear r;subst Y;exact b5A d B O.h b (b6U t) g c Z J λq h' tk S V U=>h q h' tk S V (.kept R U)
 ·cases P7 r;exact u6 (R.objs _ _ e) λi k f r=>b5A d B O.h b (b4q ⟨_,f,rfl,k,rfl⟩) r c Z J λq h' tk S V U=>h q h' tk S V (.kept R U)
theorem b1F {K:f7->Bool} {Q:l8} (R:c6U H s.heap) (S:X7 w G K s.heap a L) (h:Q (.int L.length) H):wpAny c6W A (call (.builtin "len") [.ref a]) (Got G w (j6 G) H s Q) A7 s:=by
 obtain ⟨⟨o,U,t,J,B,O,l,V⟩,_⟩:=S;have q:=l.ti.few;refine call_len_set J B O (by rw[(p6 ..)];exact l.fits) (by rw[(p6 ..)];exact c4o q) ⟨_,H,.int,.toks R,?_⟩
 rw[(p6 ..)];exact h
theorem a9q (l:List Int):(N0 l).Pairwise λa b=>a<=b :=
 (List.pairwise_mergeSort (le:=λa b:Int=>decide (a<=b)) (λa b c q B=>c6h (c6l (c5y q) (c5y B))) (λa b=>by have:=Int.le_total a b;simpa using this) l).imp c5y
theorem a0s (l:List Int):(N0 l).Perm l:=List.mergeSort_perm _ _
noncomputable def a8K:f7->Int
 | .int i=>i
 | _=>0
noncomputable def vint?:Value->Int
 | .int i _=>i
 | _=>0
theorem b4m:∀ {us:List Value},(∀ v∈us,∃ i t,v=.int i t)->IntsAre us (us.map vint?):=by
 intro us;induction us with
 | nil=>intro _;exact .nil
 | cons v us J =>
  intro h;refine eEE (h v (c5u)) λi t B=>?_;subst B;exact .cons i t (J λv q=>h v (c5t _ q))
theorem a5x {x:Value} {Q:l8} {Φ:List Value->Prop} (R:c6U H s.heap) (Z:∀ vs,Φ vs->vs.length < 64) (l:wpAny c6W A.in1 (collect x) (λvs r=>Φ vs/\∃ h' tk d,r={s with heap:=h',toks:=tk,drawn:=d}/\∀ b o,s.heap.get? b=some o->h'.get? b=some o) A7 s)
  (p:∀ (vs:List Value) (V:Shared) (a n:Nat) (P:PySem.Fin->Shared->Prop) (E:Value->Shared->Prop),Φ vs->(∀ b o,s.heap.get? b=some o->b≠a/\V.heap.get? b=some o)->V.heap.get? a=some (seqObj "list" vs.toArray n) ->
   (∀ (B:Array Value) (ys:List f7),(∀ c,(∀ b o,s.heap.get? b=some o->c.get? b=some o)->m5 G c ys B.toList)->newList ys H Q->P (.done (.ret .none)) {V with heap:=sortedHeap V.heap a vs B}) ->
   wpAny c6W A.in1.in1 (Builtin.«list.sort» ⟨[.ref a],[]⟩) P E V):wpAny c6W A (call (.builtin "sorted") [x]) (Got G w (j6 G) H s Q) A7 s:=by
 refine call_function_entry kind_sorted plain_sorted entry_sorted (args_sorted1 _) (c5b (m:=checkCount "sorted" 1 1 _) (c5c ?_));refine c5b (c5d l (λvs v u=>?_) λ_ _ e=>e);obtain ⟨g,h',tk,d,i,O⟩:=u;subst i;have Z:=Z vs g;refine c5b (wpAny_newList ?_ (by rw[sizeLine_eq];exact zo5 Z))
 have st0:c64 O1 H s H {s with heap:=h',toks:=tk,drawn:=d}:=.kept R O
 have Y:=B5 st0.rel (c5w h'.objs.size);have f:s.heap.get? h'.objs.size=none:=by
  cases e:s.heap.get? h'.objs.size with
  | none=>rfl
  | some o=>exact c59 (c5n (O _ _ e)) (c5U _)
 have U:∀ b o,s.heap.get? b=some o->b≠h'.objs.size:=λb o e z=>by subst z;rw [f] at e;cases e
 have J:(h'.push {cls:=.type "list",data:=.seq vs.toArray}).get? h'.objs.size=some (seqObj "list" vs.toArray 0):=c5j _ rfl;refine c5b (c5e (c5f slot_list_sort ⟨_,J,rfl⟩ entry_list_sort (p vs _ _ 0 _ _ g (λb o e=>⟨U b o e,c5i _ (O b o e)⟩) J λB ys h q=>⟨_,rfl,?_⟩) (args_list_sort _)));refine c5c ⟨_,rfl,?_⟩
 have keep:∀ b o,s.heap.get? b=some o->((((((h'.push {cls:=.type "list",data:=.seq vs.toArray}).update h'.objs.size (Obj.mapSeq λ_=>#[])).push (seqObj "tuple" vs.toArray 0)).push (seqObj "list" #[] 0)).update h'.objs.size (Obj.mapSeq λ_=>B))).get? b=some o:=λb o e=>by
  rw[(c5k _ _ (U b o e).symm)];refine c5i _ (c5i _ ?_);rw[(c5k _ _ (U b o e).symm)];exact c5i _ (O b o e)
 have t:=m6.kept (tk:=tk) (d:=d) R keep;have j:=get?_update_seq J (λ_=>#[]);have k:=get?_update_seq (c5i (seqObj "list" #[] 0) (c5i (seqObj "tuple" vs.toArray 0) j)) (λ_=>B);exact ⟨.ref _,_,.ref,t.give (mo:=.list ys) f Y.2.1 Y.2.2 ⟨B,_,k,h _ keep⟩,q.2 _ Y.2.1⟩
theorem a4d {x:Value} {Q:l8} (R:c6U H s.heap) (m:l.length < 64) (j:wpAny c6W A.in1 (collect x) (λvs p=>(∃ B:List Int,IntsAre vs B/\B.Perm l)/\∃ h' tk d,p={s with heap:=h',toks:=tk,drawn:=d}/\∀ b o,s.heap.get? b=some o->h'.get? b=some o) A7 s)
  (q:newList ((N0 l).map f7.int) H Q):wpAny c6W A (call (.builtin "sorted") [x]) (Got G w (j6 G) H s Q) A7 s:=by
 have c:∀ vs,(∃ B:List Int,IntsAre vs B/\B.Perm l)->vs.length < 64:=λvs ⟨B,O,U⟩=>by rw[O.length];rw[U.length_eq];exact m
 refine a5x R c j λvs r a n P E e _ J k=>i9 e λB O U=>?_;clear e;refine list_sort_tree J O (c vs ⟨B,O,U⟩) λY V f g h=>k Y ((N0 l).map f7.int) (λZ _=>?_) q;obtain rfl:V=N0 l:=List.Perm.eq_of_pairwise (le:=λa b:Int=>a<=b) (λa b _ _ i Z=>Int.le_antisymm i Z) h (a9q l) ((g.trans U).trans (a0s l).symm);exact m5.of_ints f
theorem a9j {P:List f7->Prop} {Q:Value->Shared->Prop} (y:AOk n m A) (R:c6U H s.heap) (r:j6 G s.heap v u) (h:b0E v H P)
  (q:∀ J h' tk,X7 w G a95 h' s.heap.objs.size J->(∀ x∈J,∃ i t,x.2.1=.int i/\x.2.2=.int i t)->c64 O1 H s H {s with heap:=h',toks:=tk}->P ((N0 (J.map λx=>a8K x.2.1)).map f7.int)->Q (.ref s.heap.objs.size) {s with heap:=h',toks:=tk}):wpAny c6W A (call (.type "set") [u]) Q A7 s:=by
 revert h;intro o;refine p9 o λl e I h=>?_;clear o;refine a9k (K:=a95) (D:=(List.range 17).map λ(i:Nat)=>f7.int i) (λv q=>?_) add_int y R r e (λv q=>?_) (by simp) (λv q=>?_) λJ h' tk S k N=>?_
 ·refine eE (V9 (c6u q)) λi f=>?_;clear q;subst f;rfl
 ·refine i9 (c6D q) λi _ c=>?_;clear q;subst c;rfl
 ·refine i9 (c6D q) λi U d=>?_;clear q;subst d;have:=I i U;exact c6E ⟨i.toNat,c6N (by exact (Int.toNat_lt this.1).mpr this.2),by rw[(Int.toNat_of_nonneg this.1)];rfl⟩
 have B:∀ x∈J,∃ i t,x.2.1=.int i/\x.2.2=.int i t:=λx O=>a1X (S.2 x O).1 (S.2 x O).2;have M:(J.map λx=>a8K x.2.1).Nodup:=by
  obtain ⟨⟨_,_,_,_,_,_,L,_⟩,_⟩:=S;refine List.Pairwise.map _ (λa b h=>h) (List.Pairwise.imp_of_mem (R:=λa b=>a.2.1≠b.2.1) (λ{a b} E F V e=>?_) (List.pairwise_map.mp L.ti.nod));refine u6 (B a E) λi t z _=>u6 (B b F) λj W C _=>?_;rw [z,C] at e V;exact V (c5z f7.int e)
 refine q J h' tk S B N (h _ (((a9q _).and ((a0s _).nodup_iff.mpr M)).imp λp=>by refine eA p λY Z=>?_;clear p;exact Int.lt_iff_le_and_ne.mpr ⟨Y,Z⟩) λi=>?_)
 rewrite [(a0s (J.map λx=>a8K x.2.1)).mem_iff];constructor
 ·intro U;refine i9 (c6D U) λx O g=>?_;clear U;subst g;refine u6 (B x O) λj t e _=>?_;have:=(k x.2.1).mp (c6E ⟨x,O,rfl⟩);rw [e] at this ⊢;refine i9 (c6D this) λT Y Z=>?_;cases Z;exact Y
 ·intro U;have:=(k (.int i)).mpr (c6E ⟨i,U,rfl⟩);exact i9 (c6D this) λx O e=>c6E ⟨x,O,by rw[e];rfl⟩
theorem a4H {l:List f7} (h:b1W l=true) (k:Nat):V8 k l=true:=by
 induction l with
 | nil=>rfl
 | cons v l O =>
  refine eA (c6F h) λB J=>eE (V9 (c6u B)) λi q=>?_;clear B h;subst q;exact c6R ⟨rfl,O J⟩
theorem nof {C:Prop} (h:false=true):C:=nomatch h
theorem b1H (h:a9m x=true):∃ t l,x=.tup (.str t :: l)/\b1W l=true:=by
 cases x with
 | tup l =>
  cases l with
  | nil=>exact nof h
  | cons a l =>
   cases a with
   | str t=>exact ⟨_,_,rfl,h⟩
   | _=>exact nof h
 | _=>exact nof h
theorem b1I (h:a9n x=true):∃ i l,x=.tup [.int i,.tup l]/\b1W l=true:=by
 cases x with
 | tup l =>
  cases l with
  | nil=>exact nof h
  | cons a l =>
   cases l with
   | nil=>cases a <;> exact nof h
   | cons b r =>
    cases r with
    | cons _ _=>cases a <;> first | exact nof h | (cases b <;> exact nof h)
    | nil =>
     cases a with
     | int i =>
      cases b with
      | tup l=>exact ⟨_,_,rfl,h⟩
      | _=>exact nof h
     | _=>exact nof h
 | _=>exact nof h
theorem b7C (h:a9m x=true\/a9n x=true):a2E x=true:=by
 rcases h with h | h
 ·refine u6 (b1H h) λt l B h=>?_;subst B;exact (a4H h 2:V8 2 l=true)
 ·refine u6 (b1I h) λt l q h=>?_;subst q;exact c6R ⟨rfl,c6R ⟨(a4H h 1:V8 1 l=true),rfl⟩⟩
theorem a9l {P:List f7->Prop} {Q:Value->Shared->Prop} (b:AOk n m A) (R:c6U H s.heap) (r:j6 G s.heap v u) (h:b0G v H P)
  (q:∀ B h' tk,X7 w G a2E h' s.heap.objs.size B->((∀ x∈B,a9m x.2.1=true)\/∀ x∈B,a9n x.2.1=true)->c64 O1 H s H {s with heap:=h',toks:=tk}->(∀ ys:List f7,ys.Perm (B.map (·.2.1))->P ys)->Q (.ref s.heap.objs.size) {s with heap:=h',toks:=tk}):wpAny c6W A (call (.type "set") [u]) Q A7 s:=by
 revert h;intro O;refine B0 O λa Z U e c V h=>?_;clear O;subst U;refine a9k (K:=a2E) (D:=Z) (λv q=>b1p (c6F q).2) b6r b R r (.inr ⟨a,rfl,e⟩) (λv q=>b7C (V.imp (λh=>h v q) λh=>h v q)) c (λv q=>q) λB h' tk S Y f=>?_;have mem:∀ x∈B,x.2.1∈Z:=λx J=>(Y _).mp (c6E ⟨x,J,rfl⟩);have nod:(B.map (·.2.1)).Nodup:=by obtain ⟨⟨_,_,_,_,_,_,d,_⟩,_⟩:=S;exact d.ti.nod
 exact q B h' tk S (V.imp (λh x J=>h _ (mem x J)) λh x J=>h _ (mem x J)) f λys p=>h ys (p.nodup_iff.mpr nod) λv=>p.mem_iff.trans (Y v)
theorem c3N:a6K lc w G n m:=λA s H v u Q B R r h=>by
 rcases h with h | h
 ·refine a9j B R r h λJ O Y S U q p=>⟨q,v9 q (b1F q.rel S ?_)⟩;rw [List.length_map,(a0s _).length_eq,List.length_map] at p;exact p
 ·refine a9l B R r h λJ O Y S V q p=>⟨q,v9 q (b1F q.rel S ?_)⟩;have:=p _ (.refl _);rw [List.length_map] at this;exact this
theorem b5d {α β:Type} {f:α->β} {B m:List β} (p:B.Perm m):∀ l:List α,m=l.map f->∃ J:List α,J.Perm l/\B=J.map f:=by
 induction p with
 | nil=>exact λl e=>⟨l,.refl _,e⟩
 | cons x _ g =>
  intro l e;cases l with
  | nil=>cases e
  | cons y l =>
   refine eA (List.cons.inj e) λV q=>?_;clear e;subst V;refine i9 (g l q) λJ p n=>?_;clear g;subst n;exact ⟨y :: J,p.cons _,rfl⟩
 | swap x y =>
  intro l e;cases l with
  | nil=>cases e
  | cons a l =>
  cases l with
  | nil=>cases (List.cons.inj e).2
  | cons b l =>
  refine eA (List.cons.inj e) λY q=>?_;subst Y;refine eA (List.cons.inj q) λZ c=>?_;subst Z;clear e q;subst c;exact ⟨b :: a :: l,.swap _ _ _,rfl⟩
 | trans _ _ O U =>
  intro l e;exact i9 (U l e) λh j q=>i9 (O h q) λi k d=>⟨i,k.trans j,d⟩
theorem a8O {F:Value->Prop}:∀ {vs:List Value},(∀ v∈vs,∃ a f us,v=.ref a/\IsTup h a (f :: us).toArray/\F f)->∃ fs,fs.length=vs.length/\KatTups h vs fs/\∀ f∈fs,F f:=by
 intro vs;induction vs with
 | nil=>exact λ_=>⟨[],rfl,.nil,λ_ h=>nomatch h⟩
 | cons v vs j =>
  intro q;refine p9 (j λv i=>q v (c5t _ i)) λfs O U V=>a1O (q v c5u) λa f us J B b=>?_;clear q;subst J;refine K8 B λo d Y n Z=>?_;clear B;exact ⟨f :: fs,c5z (·+1) O,.cons d Y Z rfl U,λg c=>(c6K c).elim (λe=>e▸b) (V g)⟩
theorem b5i {v:Value} (V:a9m x=true) (r:j6 G h x v):∃ b d tk us,v=.ref b/\IsTup h b (.str d tk :: us).toArray/\AI us:=by
 refine u6 (b1H V) λt l q O=>?_;clear V;subst q;refine j8 (U0 r) λb us B U Y=>?_;clear r;subst B;refine j8 (B6 Y) λu us J c Z=>?_;subst J;refine eE (a1D c) λtk a=>?_;clear Y c;subst a;exact ⟨b,_,tk,us,rfl,U,b77 O Z⟩
theorem b5j {v:Value} (e:a9n x=true) (r:j6 G h x v):∃ b i tk c us,v=.ref b/\IsTup h b [.int i tk,.ref c].toArray/\IsTup h c us.toArray/\AI us/\∃ y,D7 1 y=true/\j6 G h y (.ref c):=by
 refine u6 (b1I e) λi l q Y=>?_;clear e;subst q;refine j8 (U0 r) λb us B d f=>?_;clear r;subst B;refine j8 (B6 f) λu us O k g=>?_;subst O;refine eE (J8 k) λtk V=>?_;clear k;subst V;refine j8 (B6 g) λu us U Z j=>?_;subst U;cases a0D j;refine j8 (U0 Z) λc us J a V=>?_;clear f g;subst J;exact ⟨b,i,tk,c,us,rfl,d,a,b77 Y V,.tup l,a4H Y 0,Z⟩
theorem c3O {x y:f7} {u v:Value} {Q:Bool->Shared->Prop} (e:a9m x=true) (f:a9m y=true) (g:j6 G s.heap x u) (h:j6 G s.heap y v) (q:∀ b,Q b s):wpAny c6W A (keyLt' (tuples' true) u v) Q E s:=by
 refine a4s (b5i e g) λb t r us V B Z=>?_;clear g;subst V;refine K8 B λo d _ n c=>?_;clear B;refine a4s (b5i f h) λk p i j Y J a=>?_;clear h;subst Y;refine K8 J λm U _ l O=>?_;clear J;exact kat_lt d c U O (kat_cons (wpAny_eqBool_str (kat_go (λ_=>kat_yes (b4n q _ _ (b6b Z a))) λ_=>kat_no (oneLt_str (q _)))))
theorem c3P {x y:f7} {u v:Value} {Q:Bool->Shared->Prop} (Y:A.units+64 < cLine) (h:a9n x=true) (j:a9n y=true) (k:j6 G s.heap x u) (l:j6 G s.heap y v) (q:∀ b,Q b s):wpAny c6W A (keyLt' (tuples' true) u v) Q E s:=by
 obtain ⟨b,i,M,c,us,rfl,⟨o,g,_,n,f⟩,e,a,N,U,r⟩:=b5j h k;obtain ⟨D,I,t,H,z,rfl,⟨L,O,_,K,J⟩,B,d,P,Z,V⟩:=b5j j l;refine kat_lt g f O J (kat_cons (wpAny_eqBool_int (kat_go (λ_=>kat_yes (kat_cons ?_)) λ_=>kat_no (oneLt_int (q _)))));exact eE (a4y 1 _ U _ r) λC m=>eE (a4y 1 _ Z _ V) λF p=>(a2m m p (a3u 1 _ U).1 (a3u 1 _ Z).1 (c5r (a3u 1 _ U).2 (by decide)) Y).eq lc w _ _ (kat_go (λ_=>kat_yes (kat_nil (q _))) λ_=>kat_no (b7g (c5v (c5M _ 64) Y) e B a d _ _ q))
theorem c3U:a6O lc w G n m:=λA s H v u Q M R r h=>by
 rcases h with h | h
 ·refine a9j M R r h λI h' U S a0 z p=>⟨z,v9 z ?_⟩;obtain ⟨⟨o,ep,t,d,Y,hd,l',md⟩,ks⟩:=S;have B:=l'.ti.few;refine a4d (l:=I.map λx=>a8K x.2.1) z.rel (by rw[(c5q ..)];exact B) (a4c M.h B ⟨o,ep,t,d,Y,hd,l',md⟩ λK D d2 vs Z V=>⟨?_,K,D,d2,rfl,Z⟩) ⟨?_,p⟩
  ·have W:∀ v∈vs,∃ i t,v=.int i t:=λv g=>by
    refine i9 (c6D (V.mem_iff.mp g)) λx J a6=>?_;clear g;subst a6;exact u6 (a0 x J) λi t _ e=>⟨i,t,e⟩
   refine ⟨vs.map vint?,b4m W,(V.map vint?).trans ?_⟩;rw[c55];refine List.Perm.of_eq (c5C λx J=>?_);refine u6 (a0 x J) λi t e e'=>?_;show vint? x.2.2=a8K x.2.1;rw[e];rw[e'];rfl
  ·rw[(c5q ..)];rw[((a0s _).length_eq)];rw[(c5q ..)];unfold n8;exact b70 B
 ·refine a9l M R r h λI h' U S a7 z p=>⟨z,v9 z ?_⟩;obtain ⟨⟨o,ep,t,d,Y,hd,l',md⟩,ks⟩:=S;have B:=l'.ti.few;have hu:=M.units;refine a5x (Φ:=λvs=>vs.Perm (I.map (·.2.2))) z.rel (λvs e=>by rw[e.length_eq];rw[(c5q ..)];exact B) (a4c M.h B ⟨o,ep,t,d,Y,hd,l',md⟩ λK D d2 vs Z V=>⟨V,K,D,d2,rfl,Z⟩) λvs s2 a n P E N hk X k=>?_
  have N:vs.Perm (I.map (·.2.2)):=N;have hl:vs.length < 64:=by rw[N.length_eq];rw[(c5q ..)];exact B
  refine b5D X hl (λa8 pm=>?_) λh3 a1 K=>?_
  ·refine i9 (b5d (pm.trans N) I rfl) λl2 p2 a3=>?_;clear pm;subst a3;refine k _ (l2.map (·.2.1)) (λh4 a2=>?_) ⟨by rw[(c5q ..)];rw[p2.length_eq];unfold n8;exact b70 B,p _ (p2.map _)⟩
   have:∀ l:List El,(∀ x∈l,j6 G h4 x.2.1 x.2.2)->m5 G h4 (l.map (·.2.1)) (l.map (·.2.2)):=by
    intro l;induction l with
    | nil=>exact λ_=>.nil
    | cons x l ih=>exact λq=>.cons (q x c5u) (ih λy hy=>q y (c5t _ hy))
   exact this l2 λx J=>a1f (ks x (p2.mem_iff.mp J)).2 a2
  ·have g3:∀ b o,h'.get? b=some o->h3.get? b=some o:=λb o e=>a1 b o (hk b o e).1 (hk b o e).2;have O:∀ v∈vs,∃ x∈I,j6 G h3 x.2.1 v:=λv g=>by
    refine i9 (c6D (N.mem_iff.mp g)) λx J a5=>?_;clear g;subst a5;exact ⟨x,J,a1f (ks x J).2 g3⟩
   have gd:∀ i,i < vs.length->vs.getD i .none∈vs:=λi L=>by
    rw[c5H];rw[(c5s L)];exact List.getElem_mem L
   rcases a7 with hA | hB
   ·refine p9 (a8O (h:=h3) (F:=λf=>∃ t U,f=.str t U) (vs:=vs) λv g=>by
     refine i9 (O v g) λx J r=>?_;refine a4s (b5i (hA x J) r) λb t U us a4 ht _=>?_;clear r g;subst a4;exact ⟨b,_,us,rfl,ht,t,U,rfl⟩) λfs f1 f2 f3=>?_
    refine kat_kind (T:=.type "str") f2 (by exact c5G Nat.zero_lt_two (c5r K (c5K f1.symm))) (λf hf=>?_) (by decide) ⟨rfl,λi j C L hj q=>?_⟩
    ·refine eEE (f3 f hf) λt U q6=>?_;clear hf;subst q6;exact .of_pure rfl
    ·exact i9 (O _ (gd i L)) λx J r=>i9 (O _ (gd j hj)) λy hy r'=>c3O (hA x J) (hA y hy) r r' q
   ·refine p9 (a8O (h:=h3) (F:=λf=>∃ t U,f=.int t U) (vs:=vs) λv g=>by
     refine i9 (O v g) λx J r=>?_;clear g;obtain ⟨b,t,U,c,_,rfl,ht,_⟩:=b5j (hB x J) r;exact ⟨b,_,[.ref c],rfl,ht,t,U,rfl⟩) λfs f1 f2 f3=>?_
    refine kat_kind (T:=.type "int") f2 (by exact c5G Nat.zero_lt_two (c5r K (c5K f1.symm))) (λf hf=>?_) (by decide) ⟨rfl,λi j C L hj q=>?_⟩
    ·refine eEE (f3 f hf) λt U q7=>?_;clear hf;subst q7;exact .of_pure rfl
    ·exact i9 (O _ (gd i L)) λx J r=>i9 (O _ (gd j hj)) λy hy r'=>c3P (by show A.units+1+1+64 < cLine;exact c5v (c5I (c5o rfl:66<=200) _) hu) (hB x J) (hB y hy) r r' q
end
variable {x:Nm}{a:Nat}{l:List Nat}{Q:l8}{K:Calls}
theorem a7p:typeLookup (.type "list") (Str.ofString "keys")=pure none:=by rw[(typeLookup_type ..)];rw[builtinLookup_eq_fast];kernel_rfl
theorem b7a {a:Addr} {o:Obj} {xs:Array Value} {Q:Option Value->Shared->Prop} (Z:s.heap.get? a=some o) (V:o.cls=.type "list") (B:o.data=.seq xs k) (Y:o.dict=none) (h:A.handled=none)
  (q:∀ h' tk,(∀ b o,s.heap.get? b=some o->h'.get? b=some o)->Q none {s with heap:=h',toks:=tk}):wpAny c6W A (getAttr? (.ref a) (Str.ofString "keys")) Q A7 s:=by
 obtain ⟨c,dct,f,l⟩:=o;simp only at V B Y;subst V B Y;obtain ⟨i,g,d,tk,j⟩:=s;have U:∀ J,(⟨i,g,d,J,j⟩:Shared).TypeIs (.ref a) "list":=λ_=>⟨_,Z,rfl⟩;have m:=sub_AttributeError;have n:=F.slot_list_getattribute.lookup;have p:=F.slot_list_getattribute.bind (.ref a);have r:=am_list_getattr_none
 repeat (any_goals (first | assumption | exact U _ | ((with_reducible show wpAny _ _ (call (Value.builtin "list.__getattribute__") _ _) _ _ _);refine call_meets F.slot_list_getattribute (U _) am_entry_list_getattribute (F.args_list_getattribute_2 _ _) (meets_getattribute_miss_list a xs k l _ _ a7p (by decide +kernel) (by decide +kernel)) ⟨Z,h,λh' J e O=>?_⟩) | wp_step))
 refine eEE O.there λu v t=>?_;unfold getattributeRaised
 repeat (any_goals (first | assumption | wp_step))
 exact q h' J O.of.keeps
theorem a6b:entryFor table "dict.update.loop"=some Builtin.«dict.update.loop»:=entryFor_of_tree (by kernel_rfl)
theorem a2u:plainId "dict.update.loop"=true:=by decide +kernel
noncomputable abbrev dpV (p:Int×f7):f7:=a0q (.int p.1,p.2)
theorem b0u {b:Addr} {Q:List Value->Shared->Prop} (t:IsTup s.heap b vs.toArray) (q:Q vs s):wpAny c6W A (Builtin.Dict.pairItems (.ref b)) Q E s:=by
 refine K8 t λo B J k O=>?_;clear t;refine c5b (wpAny_typeOf ⟨o,B,J⟩ ?_);rw[(c58 (by decide))]
 refine c5b (c5b (wpAny_load B ?_));rw[O];exact c5c (c5c q)
theorem a88 {X:List Addr} (x:∀ b∈X,∃ o,h.get? b=some o/\B9 o):Q7 (·∈X) h:=λa o Y n J q _ B=>by
 refine i9 (x a J) λV e O=>?_;rw [q] at e;have U:=B8 e;clear e;subst U;exact O _ _ B
theorem b18 {I D a:Addr} {l:List (Int×f7)} {R:Result->Shared->Prop} (C:A.handled=none) (L:A.units+100 < cLine) (n:H a=some (.list (l.map dpV))) (O:a≠I) (U:D≠I) (K:l.length<=n8) (r:H I=none/\G.base I=none) :
  ∀ (k i:Nat) (s:Shared) (t:Tok),l.length - i=k->i<=l.length->s.heap.IsListIter I a i->c6U H s.heap->Acc (.dict 0) G w H s.heap D ((l.take i).map dpV) ->
   (∀ y,c64 (λb=>b=D\/b=I) H s H y->Acc (.dict 0) G w H y.heap D (l.map dpV)->R (.ok (.ret .none)) y) ->
   codeAny c6W A (.builtin "dict.update.loop" ⟨[.ref D,.ref I,.int i t,.none],[]⟩) R s:=by
 intro k;induction k with
 | zero =>
  intro i s t j F B Z acc v;refine codeAny_builtin a6b ?_;rw[(Around.under_plainId a2u _)];refine c5b (c5d ((a1Y O).next A.in1 i s H none C Z B (λb J=>c6I J▸r) ⟨_,n,(c5T (by rw[(c5q ..)];exact Nat.le_of_sub_eq_zero j)).symm⟩) (λo E p=>?_) λ_ _ e=>e.elim)
  refine eA p λe Y=>?_;clear p;subst e;have nt:Q7 (·∈[I]) s.heap:=a88 ((a1Y O).nons i _ B);refine c5b (m:=Builtin.Dict.addKeywords D []) (c5c (c5c (v E (Y.weaken λb J=>.inr (c6I J)) ?_)));have:=acc.ext Z Y.ext nt λh=>U (c6I h);rwa [List.take_of_length_le (by exact Nat.le_of_sub_eq_zero j)] at this
 | succ k M =>
  intro i s t j F B Z acc v;have x:i < l.length:=by exact c3j j
  have nt:Q7 (·∈[I]) s.heap:=a88 ((a1Y O).nons i _ B);refine codeAny_builtin a6b ?_;rw[(Around.under_plainId a2u _)];refine c5b (c5d ((a1Y O).next A.in1 i s H (some (dpV l[i])) C Z B (λb J=>c6I J▸r) ⟨_,n,by rw[c5x];rw[(c5s x)];rfl⟩) (λo E p=>?_) λ_ _ e=>e.elim)
  refine a1m p λu e ru Y g _=>?_;clear p;subst e;refine j8 (U0 ru) λb vs N t1 S=>?_;clear ru;subst N;refine j8 (B6 S) λku us P X T=>?_;subst P;refine j8 (B6 T) λvu a0 Q rv W=>?_;subst Q;clear S T;cases a0D W;have c:=acc.ext Z Y.ext nt λh=>U (c6I h);refine c5b (c5e (c5b (wpAny_tryCatch (b0u t1 (c5e ?_)))));refine c5d (b00 (by show A.units+1+64 < cLine;exact c28 L) c Y.rel ⟨rfl,rfl⟩ X rv (by rw[(c5q ..)];rw[List.length_take];exact c5r (Nat.min_le_right _ _) K) λs2 d V=>?_) (λ_ _ q=>q) λ_ _ e=>e.elim
  refine c5c ⟨plainId_quiet a2u _,M (i+1) s2 _ (by exact (Nat.sub_add_eq _ _ _).trans (c5z (· - 1) j)) x ?_ V.rel ?_ λs3 z f=>v s3 (((Y.weaken λb J=>.inr (c6I J)).trans (V.weaken λb J=>.inl J)).trans z) f⟩
  ·exact (g rfl).at λo e=>V.ext.keep I o e r.1 λh=>U h.symm
  ·rw[(List.take_succ_eq_append_getElem x)];rw[c54];exact d
theorem b6w:c7h m .dict:=λA s H vs us Q g R rv h=>by
 refine G2 h λa l T e M q=>?_;clear h;subst T;refine i9 (a0Y rv) λu S X=>?_;subst S;clear rv;cases P7 X;refine u6 (R.objs _ _ e) λws k N r=>?_;have c:=B5 R (c5w s.heap.objs.size);have P:=g.units;refine callType_codes (Q₁:=λY C=>Y=.ref s.heap.objs.size/\C={s with heap:=s.heap.push {cls:=.type "dict",data:=.dict #[]}}) F.kt_called_dict (F.kt_typeCall_dict_1 _) F.entry_dict_init (kt_code_dict_new _ ⟨rfl,rfl⟩) ?_
 rintro Y C ⟨rfl,rfl⟩
 have d:(s.heap.push {cls:=.type "dict",data:=.dict #[]}).get? s.heap.objs.size=some {cls:=.type "dict",data:=.dict #[]}:=c5j _ rfl;have O:=c5i {cls:=.type "dict",data:=.dict #[]} N;have st0:c64 O1 H s H {s with heap:=s.heap.push {cls:=.type "dict",data:=.dict #[]}}:=.push (t:=s.toks) R
 refine ⟨⟨_,d,rfl⟩,F.args_dict_init_2 _ _,?_⟩;refine c5b (c5b (wpAny_notOrdered_dict ⟨_,d,rfl⟩ ?_));refine c5c ?_;show wpAny _ _ (Builtin.Dict.updateFrom "dict.__init__" s.heap.objs.size (.ref a) [] .none) _ _ _;refine c5b (wpAny_typeOf ⟨_,O,rfl⟩ ?_);rw[(c58 (by decide))]
 refine c5b (c5d (b7a O rfl rfl rfl g.h (Q:=λr f=>r=none/\∃ J V,f={s with heap:=J,toks:=V}/\∀ b o,(s.heap.push {cls:=.type "dict",data:=.dict #[]}).get? b=some o->J.get? b=some o) λJ V U=>⟨rfl,J,V,rfl,U⟩) (λ_ f z1=>?_) λ_ _ e=>e.elim)
 obtain ⟨B,J,V,E,U⟩:=z1;subst B E;have i:c64 O1 H s H {s with heap:=J,toks:=V}:=.kept R λb o e=>U b o (c5i _ e)
 have y:s.heap.objs.size < J.objs.size:=c5n (U _ _ d);refine c5b (wpAny_rule (c5b (wpAny_pyIter_list ⟨_,U _ _ O,rfl,k,rfl⟩ (c5c ⟨plainId_quiet a2u _,?_⟩))));have I:=B5 i.rel (c5w J.objs.size);have Z:c64 O1 H s H {s with heap:=J.push {cls:=.type "list_iterator",data:=.fields #[.ref a,.int 0 0]},toks:=V}:=.kept R λb o e=>c5i _ (U b o (c5i _ e))
 refine b18 (A:=A.in1) (D:=s.heap.objs.size) (H:=H) (l:=l) g.h (by show A.units+1+100 < cLine;exact c5v (c5I (c5o rfl:101<=200) _) P) e ?_ (c5Q y) M I.2 l.length 0 _ _ rfl (c5B _) ⟨_,c5j _ rfl,rfl,rfl⟩ Z.rel
  ⟨_,a6P (.dict 0),a20 (.dict 0) (c5i _ (U _ _ d)),c.2.1,c.2.2⟩ λf j n=>?_
 ·exact c5Q (c5n (U _ _ O))
 ·refine J9 n λmo z r2 v K=>?_;clear n;refine j8 z λw G B _ W=>?_;clear z;subst W;have B:l.map dpV=w.map a0q:=B;have B:(l.map λp=>(f7.int p.1,p.2)).map a0q=w.map a0q:=by refine u7 B ?_;rw[c55];rfl
  have B:=a6u B;subst B;have st:c64 O1 H s H f:=by
   have x:=Z.no.trans j;refine ⟨x.rel,x.ext.compress λb L=>.inr ?_,x.gens,x.os⟩;rcases L with rfl | rfl
   ·exact c.1
   ·exact (B5 R (c6f y)).1
  exact ⟨rfl,.ref _,_,.ref,st.give c.1 v K r2,q G _ v⟩
section
open Classical
theorem b1Y (g:Gk G):c7h m .sorted:=λA s H vs us Q Z R F h=>by
 refine G2 h λa l C e O q=>?_;clear h;subst C;refine i9 (a0Y F) λu y E=>?_;subst y;clear F;cases P7 E;have J:l.length<=sizeLine:=by rw[sizeLine_eq];exact zo5 O
 refine a4d R O ?_ q;rcases e with e | e
 ·refine u6 (R.objs _ _ e) λY k t r=>?_;have c:l.length=Y.toList.length:=by have:=r.length;rwa [c5q] at this
  refine collect_list (vs:=Y.toList) ⟨_,t,rfl,k,by rw[Array.toArray_toList];rfl⟩ ⟨⟨l,r.toInts,.refl _⟩,_,s.toks,s.drawn,rfl,λb o e=>?_⟩ (c▸J)
  rw[(c5k _ _ λz=>(by subst z;rw [(B5 R (Nat.le_refl s.heap.objs.size)).1] at e;cases e))]
  exact c5i _ e
 ·refine u6 (a6W R e) λw K D d=>?_;clear q O;subst D;revert e;intro V;refine u6 V λL _ e _=>?_;clear V;rw [List.length_map] at J;refine kdu_collect (kdl_dict (R.sysm g e)) Z.h d J λf I acc p B=>⟨⟨_,kdy_ints ?_ λj v U=>?_,.refl _⟩,f,I,s.drawn,rfl,p⟩
  ·rw[c5V];rw[(c5q ..)];exact B.1
  ·rw [Array.getElem?_toList] at U;exact u6 (B.2 j v U) λk x i n=>⟨k,by rw[c5x];rw[i];rfl,Value.isInt_shape n⟩
theorem b8O (g:Gk G):∀ b,c7h m b
 | .len=>b8Q g
 | .sum=>b8U
 | .max=>b8R
 | .min=>b8S g
 | .sorted=>b1Y g
 | .list=>b6x
 | .tuple=>b3B
 | .dict=>b6w
 | .int=>b8P
 | .str=>b8T
theorem b14 (g:Gok G c) (q:c65):G5 lc w G (n+1):=b3L g (λb=>b8O g.toGk b) c3U c3N q
end
noncomputable def a4C (tb:String->Option Builtin) (p:Program) (w:World) (n₀:Nat) (ann:Option Value):Nat->SharedT->Thread->Option SharedT
 | 0,_,_=>none
 | n+1,s,t=>match through t with
  | true=>some s
  | false=>match stepOk n₀ ann t with
   | false=>none
   | true=>match stepT (denote tb) p w s t with
    | some (s',t')=>a4C tb p w n₀ ann n s' t'
    | none=>none
theorem b0M {U:String->Option Builtin} {p:Program} {w:World} {J:Nat} {q:Option Value}:∀ {n:Nat} {s O:SharedT} {t:Thread},a4C U p w J q n s t=some O->topRun U p w J q n s.abs t=some O.abs:=by
 intro n;induction n with
 | zero=>intro _ _ _ h;exact nomatch h
 | succ n Z =>
  intro s O t h;unfold a4C at h;unfold topRun;cases Y:through t with
  | true=>rw [Y] at h;have a:=B8 h;clear h;subst a;rfl
  | false =>
   rw [Y] at h;cases V:stepOk J q t with
   | false=>rw [V] at h;cases h
   | true =>
    rw [V] at h;cases B:stepT (denote U) p w s t with
    | none=>rw [B] at h;cases h
    | some r=>obtain ⟨b,c⟩:=r;rw [B] at h;rw[(stepT_spec B)];exact Z h
noncomputable def b1h:List Obj->Nat->BT->Option BT
 | [],_,t=>some t
 | o :: r,n,t=>match ((t.ins n o).get n).isSome with
  | true=>b1h r (n+1) (t.ins n o)
  | false=>none
theorem b4l {life:Life}:∀ {l:List Obj} {n:Nat} {t t':BT},b1h l n t=some t'->(absHeap t' (n+l.length) life).objs=(absHeap t n life).objs++l.toArray:=by
 intro r;induction r with
 | nil=>intro n t t' h;have J:=B8 h;clear h;subst J;simp
 | cons o r B =>
  intro n t t' h;unfold b1h at h;cases q:((t.ins n o).get n).isSome with
  | false=>rw [q] at h;cases h
  | true =>
   rw [q] at h;have:=B h;rw [absHeap_ins q] at this;rw[c6d];rw[(show n+(r.length+1)=n+1+r.length by exact b99)];rw[this]
   simp [Heap.push]
noncomputable def m8 (s:String):Str:=⟨((PySem.W.S.toListS s).map Char.toNat).toArray⟩
theorem a7Q:@Str.ofString=m8:=by
 funext s
 rw[Str.ofString_eq_byList];unfold Str.ofStringByList m8;rw[PySem.W.S.toListS_eq];rfl
noncomputable def At {α:Type _} {β:Type _} (F:α->β) (f:α) (b:β):Prop:=F f=b
theorem atM {α:Type _} {β:Type _} {F:α->β} {f:α} {b:β} (h:F f=b):At F f b:=h
theorem b8s {α:Type _} {β:Type _} (F:α->β) (f:α):F f=F f:=rfl
noncomputable def b3E:{F:(String->Str)->Params->Heap // At F Str.ofString boot_heap}:=by
 refine ⟨?F,?h⟩
 case h =>
  refine atM ((?z:((?F:(String->Str)->Params->Heap) Str.ofString=boot_heap)->(?F:(String->Str)->Params->Heap) Str.ofString=boot_heap) ?w)
  case w =>
   unfold boot_heap;generalize Str.ofString=f;exact b8s _ _
  case z=>intro _;exact Eq.refl boot_heap
noncomputable def b78:{h:Params->Heap // h=boot_heap}:=⟨b3E.1 m8,(c5z b3E.1 a7Q.symm).trans b3E.2⟩
noncomputable def a8c (h:Params->Heap) (w:World):Option BT:=b1h (h w.params).objs.toList 0 .nil
noncomputable def stT (h:Params->Heap) (b:BT) (w:World) (os:OsState):SharedT:=⟨b,(h w.params).objs.size,(h w.params).life,#[],boot_drawn,boot_toks,os⟩
theorem b3F {h:Params->Heap} {w:World} {b:BT} (B:a8c h w=some b) (q:OsState):(stT h b w q).abs=⟨h w.params,#[],boot_drawn,boot_toks,q⟩:=by
 have:=b4l (life:=(h w.params).life) B;unfold SharedT.abs stT;have e:(h w.params).objs.size=0+(h w.params).objs.toList.length:=by rw[(Nat.zero_add ..)];rw[c5V];rfl
 have:absHeap b (h w.params).objs.size (h w.params).life=h w.params:=by
  rw[e];show Heap.mk (absHeap b _ (h w.params).life).objs _=_;rw[this];have z:(absHeap .nil 0 (h w.params).life).objs=#[]:=rfl;rw[z];simp
 simp only [this]
noncomputable def b7e {α:Type} (h:Params->Heap) (p:Program) (f:Shared->α) (N:Nat) (b:BT) (w:World) (os:OsState):Option α :=
 match (stT h b w os).abs.heap.isNs mainGlobals with
 | true=>(a4C treeTable p w (h w.params).objs.size ((stT h b w os).abs.heap.nsMap mainGlobals "__annotations__") N (stT h b w os) (topStub p)).bind λs₁ =>
  match staticsOk (importedModules p.main.body) (stT h b w os).abs.heap s₁.abs.heap&&namesBound p s₁.abs.heap&&gensDone s₁.abs&&laidKept (stT h b w os).abs.heap s₁.abs.heap with
  | true=>some (f s₁.abs)
  | false=>none
 | false=>none
theorem b2z {p q:Program} {loose:List Str} {Xt:Shared->Bool} {α:Type} {Yf:Shared->α} {Ya:World->α} {N:Nat} (e:opening p=plainProg p.main.scope.names) (j:Nat.ble 600 N=true) (f:∀ s,fenceModules? p s=some s)
  (H:∀ w,(λo=>(a8c boot_heap w).bind λb=>b7e boot_heap p (λs=>(openSeen q loose (importedModules p.main.body) Xt true s,Yf s)) N b w o)=λ_=>some (openGood q loose,Ya w)):LeftO p q loose Xt Yf Ya N:=λw=>by
 refine i9 (c6G (boot_open (N:=N) e j f w)) λB m Z=>?_;have J:=congrFun (H w) B.os;cases c:a8c boot_heap w with
 | none=>rw [c] at J;cases J
 | some b =>
  rw [c,Option.bind_some] at J;have O:=c5z (·.1) Z;have U:=c5z (·.2.1) Z;have V:=c5z (·.2.2.1) Z;have Y:=c5z (·.2.2.2) Z;dsimp only at O U V Y;have g:(stT boot_heap b w B.os).abs=B:=by
   rewrite [b3F c];refine u7 O ?_;refine u7 V ?_;refine u7 Y ?_;have:B.gens=#[]:=U;refine u7 this ?_;rfl
  have n:(boot_heap w.params).objs.size=B.heap.objs.size:=by refine u7 O ?_;rfl
  unfold b7e at J;rw [g,n] at J;unfold openEnds;rw[m];show ((topFrom treeTable p w N B)).map _=_;unfold topFrom;cases h:B.heap.isNs mainGlobals with
  | false=>rw [h] at J;cases J
  | true =>
   rw [h] at J;refine i9 (Option.bind_eq_some_iff.mp J) λr i a=>?_;have d:=b0M i;rw [g] at d;have l:(B.gens.size==0)=true:=by
    have:B.gens=#[]:=U;rw[this];rfl
   rw[l];show ((topRun treeTable p w B.heap.objs.size _ N B (topStub p)).bind _).map _=_;rw[d];rw[(Option.bind_some ..)]
   split at a
   ·rename_i k;rw[k];exact a
   ·cases a
structure FE where
 cs:Option Str
 s:Str
 a:Addr
structure Tab where
 as:List Addr
 fns:List Str
 clss:List Str
 attrs:List Str
 cl:List (Str×Addr)
 fes:List FE
noncomputable abbrev Txt:=Arguments×List Stmt×Scope
noncomputable def cnm:Option Str->Nm
 | none=>0
 | some c=>nm c
noncomputable def a5V (x:Option (Option Value)) (v:Option Value):Bool:=x==some v
noncomputable def a21 (T:Tab) (c:Str):Option Addr:=(T.cl.find? λp=>p.1==c).map (·.2)
noncomputable def b8c (K:Frag) (e:FE) (fd:FuncData):Bool:=fd.globals==mainGlobals&&fd.closure.isEmpty&&fd.defaults==.none&&fd.builtins==builtinsNs&&codeIn K fd.code fd.qualname&&typeIn K (.ref e.a)==some (.type "function")&&A1 e.s
noncomputable def a8h (K:Frag) (T:Tab) (e:FE):Bool:=match e.cs with
 | none=>a5V (nsIn K mainGlobals e.s) (some (.ref e.a))&&T.fns.contains e.s
 | some c=>(a21 T c).isSome&&((a21 T c).all λC=>a5V (findIn K (.ref C) e.s) (some (.ref e.a)))
noncomputable def a37 (K:Frag) (T:Tab) (e:FE):Option Txt:=match K.lookup e.a with
 | some ⟨_,_,.func fd,_⟩=>(match fd.body with
  | .stmts body=>gd (b8c K e fd&&a8h K T e) (some (fd.params,body,fd.scope))
  | _=>none)
 | _=>none
noncomputable def b3M (K:Frag) (T:Tab) (p:Str×Addr):Bool:=((clsIn K p.2).any λcd=>cd.hasDict)&&a5V (findIn K (.ref p.2) "__getattribute__") (some (.builtin "object.__getattribute__"))&&a5V (findIn K (.ref p.2) "__getattr__") none &&
 a5V (findIn K (.ref p.2) "__setattr__") (some (.builtin "object.__setattr__"))&&plainOver K p.2&&makesIn K p.2&&(T.attrs.all λx=>a5V (findIn K (.ref p.2) x) none) &&
 a5V (nsIn K mainGlobals p.1) (some (.ref p.2))&&keepIn K (.ref p.2)&&A1 p.1
noncomputable def b3D (K:Frag) (T:Tab) (p:Str×Value):Bool:=a5V (nsIn K mainGlobals p.1) none&&a5V (nsIn K builtinsNs p.1) (some p.2)&&!T.fns.contains p.1&&!T.clss.contains p.1
noncomputable def a7S (K:Frag) (T:Tab):Bool:=(T.cl.all (b3M K T))&&(a1h.all λp=>(T.fns.contains p.1||T.clss.contains p.1)||b3D K T p)
noncomputable def b1M (T:Tab):Bool:=(T.clss.all λx=>(a21 T x).isSome)&&(T.fns.all λx=>!(T.clss.contains x))&&(T.fns.all λx=>T.fes.any λe=>e.cs.isNone&&e.s==x) &&
 (T.fes.all λe=>e.cs.all λc=>T.clss.contains c)
noncomputable def a3a (h:Heap):List Addr->Option Frag
 | []=>some []
 | a :: r=>match h.get? a with
  | some o=>(a3a h r).map λK=>(a,o) :: K
  | none=>none
theorem a91:∀ {B:List Addr} {K:Frag},a3a h B=some K->K.In h:=by
 intro r;induction r with
 | nil=>intro K e;have U:=B8 e;clear e;subst U;intro a o e;cases e
 | cons b r O =>
  intro K e;unfold a3a at e;cases q:h.get? b with
  | none=>rw [q] at e;cases e
  | some c =>
   rw [q] at e;refine i9 (c6G e) λZ J Y=>?_;clear e;subst Y;intro a o e;simp only [List.lookup] at e
   split at e
   ·rename_i z;have V:=B8 e;clear e;subst V;rw[(c6u z)];exact q
   ·exact O J a o e
noncomputable def a3Y (T:Tab) (s:Shared):Bool×List (Option Txt):=match a3a s.heap T.as with
 | some K=>(a7S K T&&s.heap.isNs cStatics&&(s.heap.nsMap cStatics "sys.recursionlimit").isNone&&(s.heap.get? sysModules).isSome,T.fes.map (a37 K T))
 | none=>(false,[])
structure b3s (T:Tab) (tx:List (Option Txt)) (h:Heap):Prop where
 ex:∃ K,Frag.In K h/\a7S K T=true/\T.fes.map (a37 K T)=tx
 n8:h.NoLimit
 sysm:(h.get? sysModules).isSome=true
theorem b7m {T:Tab} {B:List (Option Txt)} (e:a3Y T s=(true,B)):b3s T B s.heap:=by
 unfold a3Y at e;cases q:a3a s.heap T.as with
 | none=>rw [q] at e;cases e
 | some K =>
  rw [q] at e;injection e with e1 e2
  simp only [Bool.and_eq_true,Option.isNone_iff_eq_none] at e1;exact ⟨⟨K,a91 q,e1.1.1.1,e2⟩,⟨_,.of_isNs e1.1.1.2,e1.1.2⟩,e1.2⟩
theorem b0C {T:Tab} {q:List (Option Txt)} {h h':Heap} (x:b3s T q h) (k:∀ b o,h.get? b=some o->h'.get? b=some o):b3s T q h':=by
 obtain ⟨⟨K,a,b,c⟩,l,m⟩:=x;refine ⟨⟨K,a.keeps k,b,c⟩,l.keeps k,?_⟩;refine eE (c6J m) λo e=>?_;rw[(k _ _ e)];rfl
noncomputable def b3S (s:Str) (l:List Stmt):Option Txt:=l.findSome? λx=>PySem.W.writtenParams?.match_1 (λ_=>Option Txt) x (λn a b _ _ _ sc _ _ _=>bif n==s then some (a,b,sc) else none) λ_=>none
noncomputable def c0z (cs:Option Str) (s:Str) (l:List Stmt):Option Txt:=match cs with
 | none=>b3S s l
 | some c=>(l.findSome? λx=>PySem.W.theClassW.match_1 (λ_=>Option (List Stmt)) x (λn _ _ b _ _ _ _ _ _ _=>bif n==c then some b else none) λ_=>none).bind (b3S s)
noncomputable def b0Q (T:Tab) (p:Program):List (Option Txt):=T.fes.map λe=>c0z e.cs e.s p.main.body
noncomputable def b8w (t:Txt):Bool:=t.2.2.kind==.function&&!t.2.2.isCoroutine&&!t.2.2.isGenerator&&decide ((t.1.args.map (·.arg)).Nodup)&&t.1.args.all λa=>a78 t.2.2 a.arg
noncomputable def a6E (T:Tab) (t:Txt):Option Fn:=gd (b8w t) (trF T.fns T.clss T.attrs t.1 t.2.1 t.2.2)
noncomputable def c07 (T:Tab) (p:Program):List (Option Fn):=(b0Q T p).map λo=>o.bind (a6E T)
noncomputable def a69 (T:Tab) (fds:List Fn) (c n:Nm):Option (FE×Fn):=(T.fes.zip fds).find? λe=>Nat.beq (cnm e.1.cs) c&&Nat.beq (nm e.1.s) n
noncomputable def b12 (T:Tab) (c:Nm):Option Addr:=(T.cl.find? λp=>Nat.beq (nm p.1) c).map (·.2)
noncomputable def a92 (T:Tab) (fds:List Fn) (K:Frag) (h:Heap) (sa:Addr) (sl:List Int) (os:OsState):Gi :=
 {base:=h.get?,K:=K,fa:=λc n=>(a69 T fds c n).map (·.1.a),ca:=b12 T,sa:=sa,sl:=sl,os:=os,F:=λc n=>(a69 T fds c n).map (·.2)}
noncomputable def b6B (T:Tab):Cx:=⟨[],T.fns,T.clss,T.attrs,[]⟩
theorem b43 (x:Str):0 < nm x:=by
 have:∀ (l:List Nat) (a:Nat),0 < a->0 < l.foldl (λa c=>a * 128+c) a:=by
  intro l;induction l with
  | nil=>exact λa h=>h
  | cons c l q=>exact λa h=>q _ (c5G (Nat.mul_pos h (by decide)) (c5M _ _))
 exact this _ 1 (by decide)
theorem Z0 {x:Option (Option Value)} {v:Option Value} (h:a5V x v=true):x=some v:=c6u h
variable {K:Frag}{T:Tab}{fds:List Fn}{tx:List (Option Txt)}
structure b6o (K:Frag) (T:Tab) (e:FE) (fd:Fn) (t:Txt):Prop where
 tx:a37 K T e=some t
 tr:a6E T t=some fd
theorem b36 (O:T.fes.map (a37 K T)=tx) (J:tx.map (λo=>o.bind (a6E T))=fds.map some) {c n:Nm} {e:FE} {fd:Fn} (h:a69 T fds c n=some (e,fd)):cnm e.cs=c/\nm e.s=n/\e∈T.fes/\∃ t,b6o K T e fd t:=by
 have q:=List.find?_some h;have V:=c5W h;rw [Bool.and_eq_true] at q;refine ⟨Nat.eq_of_beq_eq_true q.1,Nat.eq_of_beq_eq_true q.2,(List.of_mem_zip V).1,?_⟩;refine eE (c6L V) λi B=>?_;rw [List.getElem?_zip_eq_some] at B;have U:=c5z (·[i]?) J;clear J;subst O;simp only [List.getElem?_map,B.1,B.2,Option.map_some] at U;refine i9 (Option.bind_eq_some_iff.mp (c5A U)) λt Y Z=>?_
 exact ⟨t,Y,Z⟩
inductive c0q (K:Frag) (e:FE) (t:Txt):Prop
 | mk:∀ name qual kV doc pm an cdv ct oc od osl,K.lookup e.a=some ⟨oc,od,.func (fnOf name qual t.1 t.2.1 t.2.2 .none kV doc pm an cdv ct),osl⟩->codeIn K cdv qual=true->c0q K e t
structure FnP (K:Frag) (T:Tab) (e:FE) (t:Txt):Prop where
 tx:c0q K e t
 ty:typeIn K (.ref e.a)=some (.type "function")
 asc:A1 e.s=true
 top:e.cs=none->nsIn K mainGlobals e.s=some (some (.ref e.a))
 cl:∀ c,e.cs=some c->∃ C,a21 T c=some C/\findIn K (.ref C) e.s=some (some (.ref e.a))
theorem b8X {e:FE} (h:a8h K T e=true) (q:e.cs=none):nsIn K mainGlobals e.s=some (some (.ref e.a)):=by
 unfold a8h at h;rw [q] at h;exact Z0 (c6F h).1
theorem c0x {e:FE} (h:a8h K T e=true) {c:Str} (q:e.cs=some c):∃ C,a21 T c=some C/\findIn K (.ref C) e.s=some (some (.ref e.a)):=by
 unfold a8h at h;rw [q] at h;refine eA (c6F h) λO B=>eE (c6J O) λC J=>?_;rw [J] at B;exact ⟨C,J,Z0 B⟩
theorem a03 {e:FE} {t:Txt} (h:a37 K T e=some t):FnP K T e t:=by
 unfold a37 at h;cases hl:K.lookup e.a with
 | none=>rw [hl] at h;exact x9 h
 | some o =>
  rw [hl] at h;obtain ⟨oc,od,data,osl⟩:=o;cases data with
  | func fd =>
   obtain ⟨name,qual,params,bd,scope,gl,clo,dv,kv,doc,pm,an,cdv,ct,blt⟩:=fd;cases bd with
   | stmts body =>
    refine eA (t3 h) λq h=>eA (c6F q) λq1 q2=>?_;have q3:=B8 h;clear h;subst q3;simp only [b8c,Bool.and_eq_true,beq_iff_eq,List.isEmpty_iff] at q1;refine eA q1 λq14 g7=>?_;clear q1;refine eA q14 λq15 g6=>?_;clear q14;refine eA q15 λq16 g5=>?_;clear q15;refine eA q16 λq17 g4=>?_;clear q16;refine eA q17 λq18 g3=>?_;clear q17;refine eA q18 λg1 g2=>?_;clear q18
    cases g1;cases g2;cases g3;clear h q;cases g4;exact ⟨⟨name,qual,kv,doc,pm,an,cdv,ct,oc,od,osl,hl,g5⟩,g6,g7,b8X q2,λ_=>c0x q2⟩
   | _=>exact x9 h
  | _=>exact x9 h
theorem a6T {c:Str} {C:Addr} (h:a21 T c=some C):(c,C)∈T.cl:=by
 refine i9 (c6G h) λp q B=>?_;clear h;subst B;refine u7 (c6u (List.find?_some (p:=λp:Str×Addr=>p.1==c) q)) ?_;exact c5W q
theorem a9N {c:Nm} {C:Addr} (h:b12 T c=some C):∃ s,(s,C)∈T.cl/\nm s=c:=by
 refine i9 (c6G h) λp q B=>?_;clear h;subst B;exact ⟨p.1,c5W q,Nat.eq_of_beq_eq_true (List.find?_some (p:=λp:Str×Addr=>Nat.beq (nm p.1) c) q)⟩
theorem b3H (ha:∀ p∈T.cl,A1 p.1=true) {c:Str} (B:A1 c=true):b12 T (nm c)=a21 T c:=by
 have:∀ l:List (Str×Addr),(∀ p∈l,A1 p.1=true)->(l.find? λp=>Nat.beq (nm p.1) (nm c))=l.find? λp=>p.1==c:=by
  intro l;induction l with
  | nil=>intro _;rfl
  | cons p l O =>
   intro h;have e:Nat.beq (nm p.1) (nm c)=(p.1==c):=by
    cases q:p.1==c with
    | true=>rw[(c6u q)];exact Nat.beq_refl _
    | false =>
     cases z:Nat.beq (nm p.1) (nm c) with
     | false=>rfl
     | true =>
      rw [O6 (h p (List.mem_cons_self)) B (Nat.eq_of_beq_eq_true z)] at q;simp at q
   refine b9 List.find?_cons ?_;refine b9 List.find?_cons ?_;rw[e];rw[(O λq J=>h q (c5t _ J))];rfl
 unfold b12 a21;rw[(this T.cl ha)];rfl
structure c3r (K:Frag) (T:Tab) (p:Str×Addr):Prop where
 ok:b3l K p.2
 at_:∀ x∈T.attrs,findIn K (.ref p.2) x=some none
 ns:nsIn K mainGlobals p.1=some (some (.ref p.2))
 keep:keepIn K (.ref p.2)=true
 asc:A1 p.1=true
set_option backward.match.sparseCases true in
theorem b81 {sa:Addr} {sl:List Int} {os:OsState} (ok:b1M T=true) (X:K.In h) (m:a7S K T=true) (j:T.fes.map (a37 K T)=tx) (n8:h.NoLimit) (sysm:(h.get? sysModules).isSome=true) (d:tx.map (λo=>o.bind (a6E T))=fds.map some)
  (script:∃ o vs n,h.get? sa=some o/\o.cls=.type "list"/\o.data=.seq vs n/\IntsAre vs.toList sl):Gok (a92 T fds K h sa sl os) (b6B T):=by
 simp only [a7S,b1M,Bool.and_eq_true,List.all_eq_true] at m ok;refine eA m λc1 c2=>?_;clear m;refine eA ok λq5 o4=>?_;clear ok;refine eA q5 λq6 o3=>?_;clear q5;refine eA q6 λo1 o2=>?_;clear q6;have D:∀ p∈T.cl,c3r K T p:=λp hp=>by
  have:=c1 p hp;simp only [b3M,Bool.and_eq_true,List.all_eq_true,Option.any_eq_true] at this;refine eA this λM b1=>?_;clear this;refine eA M λN a9=>?_;clear M;refine eA N λP a8=>?_;clear N;refine eA P λQ a7=>?_;clear P;refine eA Q λR a6=>?_;clear Q;refine eA R λS a5=>?_;clear R;refine eA S λW a4=>?_;clear S;refine eA W λa0 a3=>?_;clear W;refine eA a0 λa1 a2=>?_;clear a0
  exact ⟨⟨a1,Z0 a2,Z0 a3,Z0 a4,a5,a6⟩,λx Y=>Z0 (a7 x Y),Z0 a8,a9,b1⟩
 have V:∀ p∈T.cl,A1 p.1=true:=λp hp=>(D p hp).asc;have B:∀ e t,a37 K T e=some t->keepIn K (.ref e.a)=true:=λe t h=>by
  obtain ⟨_,_,_,_,_,_,_,_,_,_,_,hl,_⟩:=(a03 h).tx;show (match K.lookup e.a with | some ⟨_,_,.func _,_⟩=>true | some ⟨_,_,.cls _,_⟩=>_ | _=>false)=true
  rw[hl];rfl
 have row:∀ e∈T.fes,∃ i J t,T.fes[i]?=some e/\fds[i]?=some J/\b6o K T e J t:=λe he=>by
  refine eE (c6L he) λi hi=>?_;have y:=c5z (·[i]?) d;rw [<- j] at y;simp only [List.getElem?_map,hi,Option.map_some] at y;cases q:fds[i]? with
  | none=>rw [q] at y;cases y
  | some J =>
   rw [q] at y;exact i9 (Option.bind_eq_some_iff.mp (c5A y)) λt b A=>⟨i,J,t,hi,q,b,A⟩
 have b2:∀ x,T.fns.contains x=true->∃ e J t,a69 T fds 0 (nm x)=some (e,J)/\e.cs=none/\e.s=x/\b6o K T e J t:=λx Y=>by
  have:=o3 x (List.contains_iff_mem.mp Y);refine i9 (List.any_eq_true.mp this) λe0 h0 O=>?_;rw [Bool.and_eq_true] at O;refine a1O (row e0 h0) λi J t i1 i2 f0=>?_;have E:e0.s=x:=c6u O.2;have b5:e0.cs=none:=Option.isNone_iff_eq_none.mp O.1;cases q:a69 T fds 0 (nm x) with
  | none =>
   have:=List.find?_eq_none.mp q (e0,J) (List.mem_iff_getElem?.mpr ⟨i,List.getElem?_zip_eq_some.mpr ⟨i1,i2⟩⟩);rw [b5,E] at this;exact c59 (by rw[(Bool.and_eq_true ..)];exact ⟨Nat.beq_refl _,Nat.beq_refl _⟩) this
  | some p =>
   obtain ⟨e,G⟩:=p;refine b06 (b36 j d q) λU b A t' f'=>⟨e,G,t',rfl,?_,O6 (a03 f'.tx).asc (E▸(a03 f0.tx).asc) b,f'⟩;cases z:e.cs with
   | none=>rfl
   | some c=>rw [z] at U;exact c59 U (Nat.ne_of_gt (b43 c))
 have H:∀ c n J,(a92 T fds K h sa sl os).F c n=some J->∃ e t,a69 T fds c n=some (e,J)/\cnm e.cs=c/\nm e.s=n/\e∈T.fes/\b6o K T e J t:=λc n J I=>by
  refine i9 (c6G I) λc0 O c3=>?_;obtain ⟨e,G⟩:=c0;clear I;subst c3;exact b06 (b36 j d O) λU b A t f=>⟨e,t,O,U,b,A,f⟩
 refine {K:=X,sysm:=sysm,script:=script,cl:=λl C Z=>?_,at_:=λl C x Z Y=>?_,me:=λl C x J Z Y I=>?_,fn:=λx Y=>?_,cls:=λx Y=>?_,fun_:=λl name J I=>?_,keepf:=λname f hf=>?_,nolim:=λh' k=>n8.keeps k,blt:=λx v hv O U=>?_}
 ·exact i9 (a9N Z) λs u _=>(D _ u).ok
 ·exact i9 (a9N Z) λs u _=>(D _ u).at_ x (List.contains_iff_mem.mp Y)
 ·refine B0 (H _ _ _ I) λe t O U b A f=>i9 (a9N Z) λs u hn=>?_;have g:=a03 f.tx;have ex:e.s=x:=O6 g.asc Y b;cases z:e.cs with
  | none=>rw [z] at U;rw [<- hn] at U;exact c59 U.symm (Nat.ne_of_gt (b43 s))
  | some c =>
   refine i9 (g.cl c z) λC' r hf=>?_;rw [z] at U;have:c=s:=O6 (V _ (a6T r)) (V _ u) (U.trans hn.symm);have e2:b12 T l=a21 T c:=by refine u7 U ?_;exact b3H V (V _ (a6T r))
   rw [show (a92 T fds K h sa sl os).ca l=b12 T l from rfl,e2,r] at Z;have q4:=B8 Z;clear Z u;subst q4;refine ⟨e.a,?_,ex▸hf,g.ty⟩;show (a69 T fds l (nm x)).map _=_;rw[O];rfl
 ·refine Y1 (b2 x Y) λe J t O U b f=>⟨?_,e.a,?_,?_,B e t f.tx⟩
  ·have:=o2 x (List.contains_iff_mem.mp Y);rw [Bool.not_eq_true'] at this;exact this
  ·show (a69 T fds 0 (nm x)).map _=_;rw[O];rfl
  ·refine u7 b ?_;exact (a03 f.tx).top U
 ·have u:=o1 x (List.contains_iff_mem.mp Y);refine eE (c6J u) λC Z=>?_;have L:=a6T Z;refine ⟨?_,C,(b3H V (V _ L)).trans Z,(D _ L).ns,(D _ L).keep⟩;show T.fns.contains x=false;cases z:T.fns.contains x with
  | false=>rfl
  | true =>
   have:=o2 x (List.contains_iff_mem.mp z);rw [show T.clss.contains x=true from Y] at this;cases this
 ·refine B0 (H _ _ _ I) λe t O U b A f=>?_;obtain ⟨w,b0,kV,b4,pm,an,b3,ct,oc,od,b6,hl,hc⟩:=(a03 f.tx).tx;refine eA (t3 f.tr) λt1 t2=>?_;simp only [b8w,Bool.and_eq_true,beq_iff_eq,Bool.not_eq_true',decide_eq_true_eq] at t1;refine ⟨e.a,?_,⟨w,b0,t.1,t.2.1,t.2.2,kV,b4,pm,an,b3,ct,oc,od,b6,hl,hc,t2,t1.1.1.1.1,t1.1.1.1.2,t1.1.1.2,t1.1.2,t1.2⟩,B e t f.tx⟩;show (a69 T fds l name).map _=_
  rw[O];rfl
 ·refine i9 (c6G hf) λb7 O b8=>?_;obtain ⟨e,J⟩:=b7;clear hf;subst b8;exact b06 (b36 j d O) λ_ _ _ t f=>B e t f.tx
 ·have L:(x,v)∈a1h:=N7 hv;have:=c2 _ L;rw [show (b6B T).fns.contains x=T.fns.contains x from rfl] at O;rw [show (b6B T).clss.contains x=T.clss.contains x from rfl] at U;rw [O,U] at this;simp only [Bool.or_self,Bool.false_or,b3D,Bool.and_eq_true] at this;exact ⟨Z0 this.1.1.1,Z0 this.1.1.2⟩
variable {K:Calls}
noncomputable def a4B (T:Tab):List (Nm×Nm):=T.fes.map λe=>(cnm e.cs,nm e.s)
theorem b7L (T:Tab) (fds:List Fn) (K:Frag) (h:Heap) (J:Addr) (O:List Int) (B:OsState):(a92 T fds K h J O B).F=b5O (a4B T) fds:=by
 funext c n
 have:∀ (l:List FE) (fds:List Fn),(((l.zip fds).find? λe=>Nat.beq (cnm e.1.cs) c&&Nat.beq (nm e.1.s) n).map λe=>e.2)=(((l.map λe=>(cnm e.cs,nm e.s)).zip fds).find? λe=>Nat.beq e.1.1 c&&Nat.beq e.1.2 n).map λe=>e.2:=by
  intro l;induction l with
  | nil=>intro fds;rfl
  | cons e l q =>
   intro fds;cases fds with
   | nil=>rfl
   | cons U fds =>
    rw[List.zip_cons_cons];rw[c6a];rw[List.zip_cons_cons];refine b9 List.find?_cons ?_;refine b9 List.find?_cons ?_;dsimp only
    split
    ·rfl
    ·exact q fds
 exact this T.fes fds
theorem b2Z {args:List WData} (h:WShape.hasAll [] args [.list .int]=true):∃ l:List Int,args=[.list (l.map WData.int)]:=by
 have one:∀ {q:List WData},WShape.hasItems [] q .int=true->∃ l:List Int,[WData.list q]=[.list (l.map WData.int)]:=λh=>by refine eE (items_int h) λl e=>?_;exact ⟨l,c5z (λx=>[WData.list x]) e⟩
 cases args with
 | nil=>exact nomatch (show false=true from h)
 | cons x r =>
  refine eA (c6F (show (WShape.has [] x (.list .int)&&WShape.hasAll [] r [])=true from h)) λB J=>?_;cases r with
  | cons y r=>exact nomatch (show false=true from J)
  | nil =>
   cases x with
   | list q=>exact one ((Bool.or_false _).symm.trans (show (WShape.hasItems [] q .int||false)=true from B))
   | _=>exact nomatch (show false=true from B)
theorem b62 {n:Int} {B:List Int} {z:List WData} {r:Option WData} (h:WTm.holds [] (.and (.not (.lt (.lit (.int n)) (.len (.arg 0)))) (.lit (.bool true))) {args:=[.list (B.map WData.int)],res:=r,after:=z}=true):(B.length:Int)<=n:=by
 have q:∀ d:Bool,WTm.holds [] (.and (.not (.lit (.bool d))) (.lit (.bool true))) {args:=[],res:=none,after:=[]}=true->d=false:=λd=>by cases d <;> first | exact λ_=>rfl | exact λh=>nomatch (show false=true from h)
 have:=q (decide (n < ((B.map WData.int).length:Nat))) h;rw [List.length_map] at this;exact Int.not_lt.mp (c6j this)
theorem b2R {v s:List WData}:(WShape.has [] (.bool true) .bool&&WTm.holds [] (.eq .res (.lit (.bool true))) {args:=v,res:=some (.bool true),after:=s})=true:=by
 have q:∀ d:Bool,d=true->WTm.holds [] (.lit (.bool d)) {args:=[],res:=none,after:=[]}=true:=λd e=>by rw[e];rfl
 exact q (same (.bool true) (.bool true)) (by decide +kernel)
theorem b2o {B:Str->Option Addr}:∀ {l:List Int} {vs:List Value} {q:List Addr},ReadsAllW [] B h vs (l.map WData.int) q->IntsAre vs l:=by
 intro l;induction l with
 | nil =>
  intro _ _ z;cases z;exact .nil
 | cons i l J =>
  intro _ _ z;cases z with
  | cons r rs =>
   cases r with
   | int _ t=>exact .cons i t (J rs)
inductive c0u (h:Heap) (vals:List Value) (l:List Int):Prop
 | mk:∀ sa o vs k,vals=[.ref sa]->h.get? sa=some o->o.cls=.type "list"->o.data=.seq vs k->IntsAre vs.toList l->c0u h vals l
theorem b2U {O:Str->Option Addr} {l:List Int} {q:List Value} {J:List Addr} (r:ReadsAllW [] O h q [.list (l.map WData.int)] J):c0u h q l:=by
 cases r with
 | cons Z rs =>
 cases rs;cases Z with
 | list Y U V B=>exact ⟨_,_,_,_,rfl,Y,U,V,b2o B⟩
theorem c0Y {K:Frag} {O:Addr} {J:Str->Option Value} {x:Str} {v:Value} (q:h.Ns O J) (X:K.In h) (e:nsIn K O x=some (some v)):J x=some v:=by
 refine Y1 q λo i g a B _ Y=>?_;clear q;unfold nsIn at e
 split at e
 ·rename_i c d U n j Z;have:=X _ _ Z;rw [a] at this;have b:=B8 this;clear this a;subst b;injection B with B _
  subst B
  split at e
  ·rename_i f V;cases e;refine u7 (Y x) ?_;rewrite [nsFind,findBy];refine u7 Array.find?_toList ?_;rw[V];rfl
  ·split at e <;> cases e
 ·cases e
theorem b4z {l:OpenLaw} {w:World} {T:Tab} {M:List (Option Txt)} {fds:List Fn} {F:b1T} {i B:Shared} {args:List WData} {U:List Value} {P:List Addr} {a:Addr} (ok:b1M T=true) (S:b3s T M B.heap)
  (y:M.map (λo=>o.bind (a6E T))=fds.map some) (hF:b5O (a4B T) fds=F) {D:Str->Option Value} (r:B.heap.Ns mainGlobals D) (p:D l.name=some (.ref a)) (Y:T.fns.contains l.name=true)
  (hg:B.gens=#[]) (c:l.row.claim.pre args=true) (u:ReadsAllW [] (classAt i.heap) B.heap U args P) (V:l.most=some 63) (O:l.bound=none)
  (C:∀ J:List Int,J.length<=63->∃ n,n<=40/\(j3 F n).call 0 (nm l.name) [.fz J] (λ_=>none) λv _=>v=.bool true) :
  wpAny (model l.prog w) callerA (call (.ref a) U) (λv j=>GoodWG l.row.claim (classAt i.heap) (ExcName.means i.heap) args B (.ok (.ret v)) j)
   (λe j=>GoodWG l.row.claim (classAt i.heap) (ExcName.means i.heap) args B (.error e) j) B:=by
 obtain ⟨⟨K,X,m,A⟩,n8,sysm⟩:=S;refine eA (c6F c) λp1 p2=>eE (b2Z p1) λJ q2=>?_;clear p1 c;subst q2;have s:l.pre=.and (.not (.lt (.lit (.int (63:Nat))) (.len (.arg 0)))) (.lit (.bool true)):=by
  unfold OpenLaw.pre;rw[V];rw[O];rfl
 have Z:J.length<=63:=Int.ofNat_le.mp (b62 ((c5z (λt=>WTm.holds [] t _) s).symm.trans p2));obtain ⟨d,o,vs,k,rfl,ho,hc,hd,hi⟩:=b2U u;have g:Gok (a92 T fds K B.heap d J B.os) (b6B T):=b81 ok X m A n8 sysm y ⟨o,vs,k,ho,hc,hd,hi⟩;refine i9 (C J Z) λn I H=>?_;have ha:(a92 T fds K B.heap d J B.os).fa 0 (nm l.name)=some a:=by
  refine a02 (g.fn l.name Y) λ_ f Q W _=>?_;rw[Q];have:D l.name=some (.ref f):=c0Y r X W;rw [p] at this;injection this with this
  injection this with this
  rw[this];rfl
 have R:y5 (a92 T fds K B.heap d J B.os) w (λ_=>none) B.heap:=⟨λb L e=>⟨e,rfl⟩,λb mo e=>nomatch e⟩
 rw [<- hF,<-b7L T fds K B.heap d J B.os] at H;refine c5d (G5.call (vs:=[.fz J]) (us:=[.ref d]) (cn:=0) (name:=nm l.name) (a9Y (b6J λ_ g h=>b14 g h) g n) ?_ R (.cons (show j6 _ _ (.fz J) _ from ⟨rfl,rfl⟩) .nil) ha H) (λv j N=>?_) λ_ _ e=>e.elim
 ·refine ⟨rfl,?_,?_⟩
  ·show 1+claimMargin+6 * n+5<=990;unfold claimMargin;exact c4w I
  ·show 4+200 * n+200<=9900;exact c4x I
 ·refine j8 N λx H' E G q=>?_;clear N;subst q;replace E:=a6I E;subst E;refine ⟨.inl ⟨_,.bool true,[],rfl,λ_=>rfl,.bool true,?_,λ_=>⟨.nil,λ_ h=>nomatch h⟩⟩,.of_keep λb L e=>G.ext.keep b L e rfl λz=>z,G.os,.of_eq (G.gens.trans hg)⟩
  exact b2R
noncomputable abbrev O5:Nm:=408450923
noncomputable abbrev w6:Nm:=879154534510834
noncomputable abbrev w4:Nm:=421097712
noncomputable abbrev D9:Nm:=7348374206323
noncomputable abbrev K3:Nm:=2064649317178152661732
noncomputable abbrev Y4:Nm:=2064649317178423326711
noncomputable abbrev W0:Nm:=16130072790460625636
noncomputable abbrev a0U:Nm:=264275112598906913764467
noncomputable abbrev w9:Nm:=16130072790460838135
noncomputable abbrev P9:Nm:=4329883444823366612884780148
noncomputable abbrev a1s:Nm:=2064649317181367825907
noncomputable abbrev a1t:Nm:=2064649317182995346163
noncomputable abbrev n_a:Nm:=225
noncomputable abbrev w8:Nm:=60605332325
noncomputable abbrev b4V:Nm:=3699300
noncomputable abbrev v6:Nm:=7761242453860
noncomputable abbrev n_b:Nm:=226
noncomputable abbrev X0:Nm:=475559787
noncomputable abbrev a0J:Nm:=3716327
noncomputable abbrev n_c:Nm:=227
noncomputable abbrev a7x:Nm:=477722220
noncomputable abbrev n_d:Nm:=228
noncomputable abbrev U6:Nm:=479818480
noncomputable abbrev T0:Nm:=2110270205568046969586
noncomputable abbrev K9:Nm:=7861369123955
noncomputable abbrev U2:Nm:=3750629
noncomputable abbrev Y5:Nm:=61683135219
noncomputable abbrev W1:Nm:=7900837279588
noncomputable abbrev D4:Nm:=484012772
noncomputable abbrev I9:Nm:=484079460
noncomputable abbrev W3:Nm:=7931166521971
noncomputable abbrev a16:Nm:=484126964
noncomputable abbrev a0l:Nm:=7932776905204
noncomputable abbrev l6:Nm:=61974869860
noncomputable abbrev a1u:Nm:=61980899816
noncomputable abbrev b8l:Nm:=3797748
noncomputable abbrev M3:Nm:=1019790029748206
noncomputable abbrev N8:Nm:=486274917
noncomputable abbrev M4:Nm:=1019892022866162
noncomputable abbrev M8:Nm:=73491040912375915632965422232691
noncomputable abbrev a17:Nm:=488206564
noncomputable abbrev w5:Nm:=488206576
noncomputable abbrev a2s:Nm:=1023845527599731
noncomputable abbrev t9:Nm:=488208741
noncomputable abbrev a3j:Nm:=62777799416
noncomputable abbrev Y6:Nm:=2157386236156440050163
noncomputable abbrev T6:Nm:=8036890161911
noncomputable abbrev a7y:Nm:=62788204528
noncomputable abbrev Y7:Nm:=62788205039
noncomputable abbrev a6q:Nm:=1028727313560037
noncomputable abbrev a5b:Nm:=492565742
noncomputable abbrev n_k:Nm:=235
noncomputable abbrev N9:Nm:=494499956
noncomputable abbrev m7:Nm:=3863780
noncomputable abbrev n6:Nm:=494563955
noncomputable abbrev a3k:Nm:=63314852846
noncomputable abbrev b1s:Nm:=3879152
noncomputable abbrev a1v:Nm:=496532069
noncomputable abbrev c0X:Nm:=3879159
noncomputable abbrev Q0:Nm:=63564184052
noncomputable abbrev Y8:Nm:=2184048733627862383973
noncomputable abbrev Z8:Nm:=1041782929879284
noncomputable abbrev a0m:Nm:=496761459
noncomputable abbrev b0i:Nm:=498628069
noncomputable abbrev J4:Nm:=498628473
noncomputable abbrev w3:Nm:=498628971
noncomputable abbrev l9:Nm:=63824508403
noncomputable abbrev a07:Nm:=1045836823361907
noncomputable abbrev Y9:Nm:=63832896485
noncomputable abbrev W6:Nm:=8170610750180
noncomputable abbrev a7z:Nm:=498858484
noncomputable abbrev U1:Nm:=238
noncomputable abbrev B2:Nm:=500953701
noncomputable abbrev r9:Nm:=64122073843
noncomputable abbrev a0n:Nm:=134473735405565926
noncomputable abbrev G0:Nm:=1050784625686899
noncomputable abbrev X9:Nm:=3929957
noncomputable abbrev a18:Nm:=30704
noncomputable abbrev a2t:Nm:=64401060594
noncomputable abbrev a5c:Nm:=503165682
noncomputable abbrev B3:Nm:=64629668211
noncomputable abbrev a2J:Nm:=3946480
noncomputable abbrev Z9:Nm:=1067823836836580
noncomputable abbrev a3l:Nm:=8342373988334
noncomputable abbrev a3T:Nm:=1067828169570661
noncomputable abbrev a0K:Nm:=3979255
noncomputable abbrev t6:Nm:=509344755
noncomputable abbrev a3m:Nm:=8376232343668
noncomputable abbrev J5:Nm:=511275758
noncomputable abbrev f8:Nm:=511276646
noncomputable abbrev K4:Nm:=2248622967450708571764
noncomputable abbrev a3n:Nm:=8376773588581
noncomputable abbrev a7A:Nm:=511341550
noncomputable abbrev a3U:Nm:=511343973
noncomputable abbrev a19:Nm:=17569645154069754610
noncomputable abbrev a4w:Nm:=65452028659
noncomputable abbrev a1w:Nm:=511440613
noncomputable abbrev a2T:Nm:=511457268
noncomputable abbrev a7B:Nm:=513308133
noncomputable abbrev b0j:Nm:=513375348
noncomputable abbrev D1:Nm:=65718024549
noncomputable abbrev a3V:Nm:=513538163
noncomputable abbrev a3W:Nm:=513636718
noncomputable abbrev L9:Nm:=8447885834099
noncomputable abbrev M9:Nm:=66240330469
noncomputable abbrev I0:Nm:=1089678813591399
noncomputable abbrev a6r:Nm:=4059385
noncomputable abbrev a0a:Nm:=1089816225266291
noncomputable abbrev n_x:Nm:=248
noncomputable abbrev n_y:Nm:=249
noncomputable def a2R:Fn:=⟨[f8,w5],
 (d9 (p7 (R6 (d6 f8) w5) (d6 w5))
 j9)⟩
noncomputable def a4U:Fn:=⟨[f8,n_c],
 (d9 (z5 (D3 (a3J (d6 m7) [B2] true (w7 (l4 (n7 (d6 f8) w5) a0n (d7 (d6 n_c) h9))) [m7] true (w7 (a0f (d6 B2) (j7 (.int 1)))) y9)))
 j9)⟩
noncomputable def a28:Fn:=⟨[f8,n_c],
 (d9 (p7 (K1 [(l5 J5),(l5 I0)]) (z0 (d7 a0e (d7 (G9 (d7 (l4 (n7 (d6 f8) w5) I9 (d7 (d6 n_c) h9)) h9)) h9))))
 (d9 (a5q (o7 .ne (d6 I0) (G9 h9))
  (d9 (p7 (l5 t9) (l4 (d6 I0) a2J h9))
  (d9 (G6 (o7 .notin (d6 t9) (d6 J5))
   (d9 (p7 (a0W (d6 J5) (d6 t9)) (j7 (.bool true)))
   (d9 (y8 (l4 (d6 I0) W1 (d7 (l4 (d6 f8) n6 (d7 (d6 t9) h9)) h9)))
   j9))
   j9)
  j9)))
 (d9 (z5 (O3 .sorted (d7 (d6 J5) h9)))
 j9)))⟩
noncomputable def a0C:Fn:=⟨[f8,n_c],
 (d9 (p7 (K1 [(l5 l6),(l5 a1w),(l5 J4)]) (z0 (d7 a0e (d7 (l4 (d6 f8) Z9 (d7 (d6 n_c) h9)) (d7 (a24 (j7 (.int 1))) h9)))))
 (d9 (a5q (o7 .gt (O3 .len (d7 (d6 l6) h9)) (d6 J4))
  (d9 (p7 (l5 J4) (O3 .len (d7 (d6 l6) h9)))
  (d9 (Q6 [t9] true (w7 (d6 a1w))
   (d9 (G6 (A8 (o7 .notin (d6 t9) (d6 l6)) (A8 (o7 .eq (t8 (d6 m7) [m7] true (w7 (l4 (d6 f8) n6 (d7 (d6 t9) h9))) (A8 (o7 .notin (d6 m7) (d6 l6)) y9)) (G9 h9)) y9))
    (d9 (p7 (a0W (d6 l6) (d6 t9)) (D0 T0 (d7 (t8 (m9 (d6 l6) (d6 m7)) [m7] true (w7 (l4 (d6 f8) n6 (d7 (d6 t9) h9))) y9) h9)))
    j9)
    j9)
   j9))
  j9)))
 (d9 (z5 (d6 l6))
 j9)))⟩
noncomputable def a1T:Fn:=⟨[f8,n_c],
 (d9 (z5 (R0 (o7 .notin (l4 (n7 (d6 f8) w5) I9 (d7 (d6 n_c) h9)) (l4 (d6 f8) M8 (d7 (d6 n_c) h9)))))
 j9)⟩
noncomputable def a4l:Fn:=⟨[f8,n_c,a5c],
 (d9 (p7 (K1 [(l5 l6),(l5 a1w),(l5 T6)]) (z0 (d7 a0e (d7 (l4 (d6 f8) Z9 (d7 (d6 n_c) h9)) (d7 (j7 (.bool true)) h9)))))
 (d9 (a5q (a2C (d6 T6))
  (d9 (p7 (l5 T6) (j7 (.bool false)))
  (d9 (Q6 [t9] true (w7 (d6 a1w))
   (d9 (Q6 [B2] true (w7 (l4 (n7 (d6 f8) w5) a0n (d7 (d6 t9) h9)))
    (d9 (G6 (o7 .eq (t8 (d6 m7) [m7] true (w7 (a0f (d6 B2) (j7 (.int 1)))) (A8 (o7 .notin (d6 m7) (d6 l6)) y9)) (G9 h9))
     (d9 (p7 (l5 M9) (a3I a5c (d7 (t8 (m9 (d6 l6) (d6 m7)) [m7] true (w7 (a0f (d6 B2) (j7 (.int 1)))) y9) h9)))
     (d9 (G6 (R4 (o7 .notin (d6 t9) (d6 l6)) (R4 (o7 .lt (d6 M9) (m9 (d6 l6) (d6 t9))) a5h))
      (d9 (p7 (K1 [(a0W (d6 l6) (d6 t9)),(l5 T6)]) (z0 (d7 (d6 M9) (d7 (j7 (.bool true)) h9))))
      j9)
      j9)
     j9))
     j9)
    j9))
   j9))
  j9)))
 (d9 (z5 (m9 (d6 l6) (l4 (n7 (d6 f8) w5) I9 (d7 (d6 n_c) h9))))
 j9)))⟩
noncomputable def a1U:Fn:=⟨[f8,n_c],
 (d9 (z5 (l4 (d6 f8) Q0 (d7 (d6 n_c) (d7 (j7 (.fn a19)) h9))))
 j9)⟩
noncomputable def a27:Fn:=⟨[f8,n_c],
 (d9 (z5 (z0 (d7 (l4 (d6 f8) Q0 (d7 (d6 n_c) (d7 (j7 (.fn T0)) h9))) (d7 (l4 (l4 (d6 f8) M8 (d7 (d6 n_c) h9)) b8l (d7 (l4 (n7 (d6 f8) w5) I9 (d7 (d6 n_c) h9)) (d7 (a24 (j7 (.int 1))) h9))) h9))))
 j9)⟩
noncomputable def a8C:Fn:=⟨[n6],
 (d9 (z5 (A6 .add (j7 (.int 1)) (O3 .sum (d7 (d6 n6) h9))))
 j9)⟩
noncomputable def a68:Fn:=⟨[n6],
 (d9 (z5 (A6 .add (j7 (.int 1)) (O3 .max (d7 (A6 .add (d6 n6) (G9 (d7 (j7 (.int 0)) h9))) h9))))
 j9)⟩
noncomputable def b6I:Fn:=⟨[b0j],
 (d9 (z5 (b6H (R0 (o7 .ne (d6 b0j) (j7 (.str "")))) (R0 (o7 .eq (t8 (d6 a7A) [a7A] true (w7 (d6 b0j)) (A8 (R4 (a2C (l4 (d6 a7A) a6q h9)) (R4 (o7 .isin (d6 a7A) (j7 (.str "()[]{},:"))) a5h)) y9)) (G9 h9)))))
 j9)⟩
noncomputable def a4k:Fn:=⟨[f8],
 (d9 (p7 (R6 (d6 f8) r9) (G9 h9))
 (d9 (p7 (R6 (d6 f8) G0) a0e)
 (d9 (p7 (R6 (d6 f8) a0a) (G9 h9))
 (d9 (p7 (R6 (d6 f8) K9) (G9 h9))
 j9))))⟩
noncomputable def a8u:Fn:=⟨[f8],
 (d9 (z5 (O3 .len (d7 (n7 (d6 f8) r9) h9)))
 j9)⟩
noncomputable def a8v:Fn:=⟨[f8,a18,n6],
 (d9 (p7 (l5 B2) (A6 .add (z0 (d7 (d6 a18) h9)) (O3 .tuple (d7 (d6 n6) h9))))
 (d9 (G6 (o7 .isin (d6 B2) (n7 (d6 f8) G0))
  (d9 (z5 (m9 (n7 (d6 f8) G0) (d6 B2)))
  j9)
  j9)
 (d9 (y8 (l4 (d6 f8) a3T (d7 (d6 a18) h9)))
 (d9 (Q6 [m7] true (w7 (a0f (d6 B2) (j7 (.int 1))))
  (d9 (G6 (a5L (a6S .le .lt (j7 (.int 0)) (d6 m7) (O3 .len (d7 (n7 (d6 f8) r9) h9))))
   (d9 b5p
   j9)
   j9)
  j9))
 (d9 (p7 (a0W (n7 (d6 f8) G0) (d6 B2)) (O3 .len (d7 (n7 (d6 f8) r9) h9)))
 (d9 (y8 (l4 (n7 (d6 f8) r9) v6 (d7 (d6 B2) h9)))
 (d9 (y8 (l4 (n7 (d6 f8) a0a) v6 (d7 (A6 .add (j7 (.int 1)) (O3 .sum (d7 (t8 (m9 (n7 (d6 f8) a0a) (d6 m7)) [m7] true (w7 (a0f (d6 B2) (j7 (.int 1)))) y9) h9))) h9)))
 (d9 (y8 (l4 (n7 (d6 f8) K9) v6 (d7 (A6 .add (j7 (.int 1)) (O3 .max (d7 (A6 .add (t8 (m9 (n7 (d6 f8) K9) (d6 m7)) [m7] true (w7 (a0f (d6 B2) (j7 (.int 1)))) y9) (G9 (d7 (j7 (.int 0)) h9))) h9))) h9)))
 (d9 (z5 (A6 .sub (O3 .len (d7 (n7 (d6 f8) r9) h9)) (j7 (.int 1))))
 j9)))))))))⟩
noncomputable def a4T:Fn:=⟨[f8,a18],
 (d9 (G6 (R4 (a5L (a2C (D0 a7y (d7 (d6 a18) h9)))) (R4 (o7 .eq (m9 (d6 a18) (j7 (.int 0))) (j7 (.str "?"))) a5h))
  (d9 b5p
  j9)
  j9)
 j9)⟩
noncomputable def b2e:Fn:=⟨[f8,U1],
 (d9 (z5 (m9 (m9 (n7 (d6 f8) r9) (d6 U1)) (j7 (.int 0))))
 j9)⟩
noncomputable def a8t:Fn:=⟨[f8,U1],
 (d9 (z5 (a0f (m9 (n7 (d6 f8) r9) (d6 U1)) (j7 (.int 1))))
 j9)⟩
noncomputable def a29:Fn:=⟨[f8],
 (d9 (p7 (R6 (d6 f8) w8) (G9 h9))
 (d9 (p7 (R6 (d6 f8) a0m) (G9 h9))
 (d9 (p7 (R6 (d6 f8) W6) (G9 h9))
 j9)))⟩
noncomputable def a5P:Fn:=⟨[f8],
 (d9 (y8 (l4 (n7 (d6 f8) w8) v6 (d7 (O3 .len (d7 (n7 (d6 f8) w8) h9)) h9)))
 (d9 (y8 (l4 (n7 (d6 f8) a0m) v6 (d7 (G9 (d7 (O3 .len (d7 (n7 (d6 f8) a0m) h9)) h9)) h9)))
 (d9 (z5 (A6 .sub (O3 .len (d7 (n7 (d6 f8) w8) h9)) (j7 (.int 1))))
 j9)))⟩
noncomputable def a5Q:Fn:=⟨[f8],
 (d9 (z5 (O3 .len (d7 (n7 (d6 f8) w8) h9)))
 j9)⟩
noncomputable def a5O:Fn:=⟨[f8,n_a],
 (d9 (a5q (o7 .ne (m9 (n7 (d6 f8) w8) (d6 n_a)) (d6 n_a))
  (d9 (p7 (l5 n_a) (m9 (n7 (d6 f8) w8) (d6 n_a)))
  j9))
 (d9 (z5 (d6 n_a))
 j9))⟩
noncomputable def a4X:Fn:=⟨[f8,n_a,n_b],
 (d9 (p7 (K1 [(l5 N9),(l5 N8)]) (O3 .sorted (d7 (G9 (d7 (l4 (d6 f8) I9 (d7 (d6 n_a) h9)) (d7 (l4 (d6 f8) I9 (d7 (d6 n_b) h9)) h9))) h9)))
 (d9 (G6 (o7 .eq (d6 N9) (d6 N8))
  (d9 (z5 (j7 .none))
  j9)
  j9)
 (d9 (p7 (a0W (n7 (d6 f8) w8) (d6 N8)) (d6 N9))
 (d9 (y8 (l4 (m9 (n7 (d6 f8) a0m) (d6 N9)) W1 (d7 (m9 (n7 (d6 f8) a0m) (d6 N8)) h9)))
 (d9 (y8 (l4 (n7 (d6 f8) W6) v6 (d7 (z0 (d7 (d6 N9) (d7 (d6 N8) h9))) h9)))
 (d9 (z5 (z0 (d7 (d6 N9) (d7 (d6 N8) h9))))
 j9))))))⟩
noncomputable def a3M:Fn:=⟨[f8,n_a],
 (d9 (z5 (O3 .sorted (d7 (m9 (n7 (d6 f8) a0m) (l4 (d6 f8) I9 (d7 (d6 n_a) h9))) h9)))
 j9)⟩
noncomputable def a4m:Fn:=⟨[f8],
 (d9 (p7 (R6 (d6 f8) X0) (a8s O5 h9))
 (d9 (p7 (R6 (d6 f8) L9) (a8s D9 h9))
 (d9 (p7 (R6 (d6 f8) Y5) (G9 h9))
 (d9 (p7 (R6 (d6 f8) a0l) (G9 h9))
 (d9 (p7 (R6 (d6 f8) a3k) a0e)
 (d9 (p7 (R6 (d6 f8) w8) a0e)
 (d9 (p7 (R6 (d6 f8) I0) (G9 h9))
 j9)))))))⟩
noncomputable def a8z:Fn:=⟨[f8],
 (d9 (z5 (l4 (n7 (d6 f8) X0) a3U h9))
 j9)⟩
noncomputable def a8y:Fn:=⟨[f8,U1],
 (d9 (z5 (A6 .add (z0 (d7 (l4 (n7 (d6 f8) X0) a18 (d7 (d6 U1) h9)) h9)) (O3 .tuple (d7 (t8 (l4 (d6 f8) I9 (d7 (d6 m7) h9)) [m7] true (w7 (l4 (n7 (d6 f8) X0) n6 (d7 (d6 U1) h9))) y9) h9))))
 j9)⟩
noncomputable def a9X:Fn:=⟨[f8,a18,G0],
 (d9 (p7 (l5 U1) (l4 (n7 (d6 f8) X0) a7B (d7 (d6 a18) (d7 (d6 G0) h9))))
 (d9 (G6 (o7 .lt (d6 U1) (l4 (n7 (d6 f8) L9) a3U h9))
  (d9 (z5 (d6 U1))
  j9)
  j9)
 (d9 (y8 (l4 (n7 (d6 f8) L9) b0i h9))
 (d9 (p7 (a0W (n7 (d6 f8) w8) (d6 U1)) (G9 h9))
 (d9 (Q6 [n_c] true (w7 (D3 (t8 (l4 (d6 f8) I9 (d7 (d6 m7) h9)) [m7] true (w7 (d6 G0)) y9)))
  (d9 (y8 (l4 (m9 (n7 (d6 f8) w8) (d6 n_c)) v6 (d7 (d6 U1) h9)))
  j9))
 (d9 (y8 (l4 (d6 f8) Z8 (d7 (d6 U1) h9)))
 (d9 (z5 (d6 U1))
 j9)))))))⟩
noncomputable def a4V:Fn:=⟨[f8,U1],
 (d9 (p7 (l5 a2t) (l4 (n7 (d6 f8) a3k) K4 (d7 (l4 (d6 f8) B2 (d7 (d6 U1) h9)) (d7 (d6 U1) h9))))
 (d9 (G6 (o7 .ne (l4 (d6 f8) I9 (d7 (d6 a2t) h9)) (l4 (d6 f8) I9 (d7 (d6 U1) h9)))
  (d9 (y8 (l4 (d6 f8) a5b (d7 (d6 a2t) (d7 (d6 U1) (d7 (z0 (d7 (j7 (.str "like")) h9)) h9)))))
  j9)
  j9)
 j9))⟩
noncomputable def a8w:Fn:=⟨[f8,U1],
 (d9 (z5 (l4 (n7 (d6 f8) L9) I9 (d7 (d6 U1) h9)))
 j9)⟩
noncomputable def a63:Fn:=⟨[f8,n_a,n_b,a3l],
 (d9 (z5 (l4 (d6 f8) a5b (d7 (d6 n_a) (d7 (d6 n_b) (d7 (d6 a3l) h9)))))
 j9)⟩
noncomputable def a8x:Fn:=⟨[f8,n_a,n_b,a3l],
 (d9 (y8 (l4 (n7 (d6 f8) Y5) v6 (d7 (z0 (d7 (d6 n_a) (d7 (d6 n_b) (d7 (d6 a3l) h9)))) h9)))
 (d9 (p7 (l5 W6) (l4 (n7 (d6 f8) L9) Y9 (d7 (d6 n_a) (d7 (d6 n_b) h9))))
 (d9 (G6 (o7 .is (d6 W6) (j7 .none))
  (d9 (z5 (j7 (.bool false)))
  j9)
  j9)
 (d9 (p7 (K1 [(l5 N9),(l5 N8)]) (d6 W6))
 (d9 (y8 (l4 (n7 (d6 f8) a0l) v6 (d7 (A6 .sub (O3 .len (d7 (n7 (d6 f8) Y5) h9)) (j7 (.int 1))) h9)))
 (d9 (y8 (l4 (n7 (d6 f8) I0) W1 (d7 (m9 (n7 (d6 f8) w8) (d6 N8)) h9)))
 (d9 (p7 (a0W (n7 (d6 f8) w8) (d6 N9)) (A6 .add (m9 (n7 (d6 f8) w8) (d6 N9)) (l4 (n7 (d6 f8) w8) a2J (d7 (d6 N8) h9))))
 (d9 (z5 (j7 (.bool true)))
 j9))))))))⟩
noncomputable def a5N:Fn:=⟨[f8],
 (d9 (a5q (o7 .gt (O3 .len (d7 (n7 (d6 f8) I0) h9)) (j7 (.int 0)))
  (d9 (y8 (l4 (d6 f8) Z8 (d7 (l4 (n7 (d6 f8) I0) a2J h9) h9)))
  j9))
 j9)⟩
noncomputable def a4W:Fn:=⟨[f8,n_c],
 (d9 (z5 (l4 (n7 (d6 f8) L9) a07 (d7 (d6 n_c) h9)))
 j9)⟩
noncomputable def a4n:Fn:=⟨[f8,n_c],
 (d9 (z5 (D3 (t8 (l4 (d6 f8) B2 (d7 (d6 U1) h9)) [U1] true (w7 (l4 (d6 f8) a07 (d7 (d6 n_c) h9))) y9)))
 j9)⟩
noncomputable def a8B:Fn:=⟨[D4,J4],
 (d9 (p7 (l5 a2T) (m9 (d6 D4) (j7 (.str "spot"))))
 (d9 (p7 (a0W (d6 D4) (j7 (.str "spot"))) (A6 .add (d6 a2T) (j7 (.int 1))))
 (d9 (z5 (A6 .mod (a3L (o7 .lt (d6 a2T) (O3 .len (d7 (m9 (d6 D4) (j7 (.str "cells"))) h9))) (m9 (m9 (d6 D4) (j7 (.str "cells"))) (d6 a2T)) (A6 .fdiv (A6 .add (A6 .add (A6 .mul (A6 .mul (j7 (.int 9)) (d6 a2T)) (d6 a2T)) (A6 .mul (j7 (.int 5)) (d6 a2T))) (j7 (.int 4))) (j7 (.int 2)))) (d6 J4)))
 j9)))⟩
noncomputable def a64:Fn:=⟨[w5,t6,a18,n6],
 (d9 (p7 (l5 U1) (l4 (d6 w5) b4V (d7 (d6 a18) (d7 (d6 n6) h9))))
 (d9 (G6 (o7 .eq (d6 U1) (O3 .len (d7 (d6 t6) h9)))
  (d9 (y8 (l4 (d6 t6) v6 (d7 (A6 .add (z0 (d7 (d6 a18) h9)) (d6 n6)) h9)))
  j9)
  j9)
 (d9 (z5 (R0 (o7 .eq (m9 (d6 t6) (d6 U1)) (A6 .add (z0 (d7 (d6 a18) h9)) (d6 n6)))))
 j9)))⟩
noncomputable def a8A:Fn:=⟨[D4,w5,t6,B3],
 (d9 (p7 (K1 [(l5 a6r),(l5 n_x),(l5 n_y)]) (z0 (d7 (D0 w9 (d7 (d6 D4) (d7 (j7 (.int 5)) h9))) (d7 (D0 w9 (d7 (d6 D4) (d7 (O3 .len (d7 (d6 t6) h9)) h9))) (d7 (D0 w9 (d7 (d6 D4) (d7 (O3 .len (d7 (d6 t6) h9)) h9))) h9)))))
 (d9 (G6 (A8 (o7 .lt (d6 a6r) (j7 (.int 2))) (A8 (o7 .lt (O3 .len (d7 (d6 t6) h9)) (j7 (.int 8))) y9))
  (d9 (z5 (D0 K3 (d7 (d6 w5) (d7 (d6 t6) (d7 (m9 (j7 (.str "fh")) (d6 a6r)) (d7 (z0 (d7 (d6 n_x) h9)) h9))))))
  j9)
  j9)
 (d9 (G6 (A8 (o7 .eq (d6 a6r) (j7 (.int 4))) (A8 (o7 .lt (O3 .len (d7 (d6 t6) h9)) (j7 (.int 8))) y9))
  (d9 (z5 (D0 K3 (d7 (d6 w5) (d7 (d6 t6) (d7 (j7 (.str "g")) (d7 (z0 (d7 (d6 n_x) (d7 (d6 n_y) h9))) h9))))))
  j9)
  j9)
 (d9 (y8 (l4 (d6 B3) v6 (d7 (z0 (d7 (d6 n_x) (d7 (d6 n_y) h9))) h9)))
 (d9 (y8 (l4 (d6 w5) Y9 (d7 (d6 n_x) (d7 (d6 n_y) (d7 (z0 (d7 (j7 (.str "told")) (d7 (A6 .add (j7 (.str "t")) (O3 .str (d7 (O3 .len (d7 (d6 B3) h9)) h9))) h9))) h9)))))
 (d9 (z5 (j7 (.bool true)))
 j9))))))⟩
noncomputable def a66:Fn:=⟨[t6,B3],
 (d9 (p7 (K1 [(l5 l9),(l5 M3)]) (z0 (d7 (a6Y (O3 .len (d7 (d6 t6) h9))) (d7 (j7 (.bool true)) h9))))
 (d9 (a5q (a2C (d6 M3))
  (d9 (p7 (l5 M3) (j7 (.bool false)))
  (d9 (p7 (K1 [(l5 W3),(l5 U2)]) (z0 (d7 a0e (d7 (O3 .list (d7 (d6 B3) h9)) h9))))
  (d9 (Q6 [U1,a0K] false (b1b (d6 t6))
   (d9 (p7 (l5 a17) (A6 .add (z0 (d7 (m9 (d6 a0K) (j7 (.int 0))) h9)) (O3 .tuple (d7 (t8 (m9 (d6 l9) (d6 m7)) [m7] true (w7 (a0f (d6 a0K) (j7 (.int 1)))) y9) h9))))
   (d9 (y8 (l4 (d6 U2) v6 (d7 (z0 (d7 (l4 (d6 W3) K4 (d7 (d6 a17) (d7 (d6 U1) h9))) (d7 (d6 U1) h9))) h9)))
   j9)))
  (d9 (Q6 [n_a,n_b] false (w7 (d6 U2))
   (d9 (G6 (o7 .ne (m9 (d6 l9) (d6 n_a)) (m9 (d6 l9) (d6 n_b)))
    (d9 (p7 (l5 a1v) (m9 (d6 l9) (d6 n_b)))
    (d9 (p7 (l5 l9) (t8 (a3L (o7 .eq (d6 w3) (d6 a1v)) (m9 (d6 l9) (d6 n_a)) (d6 w3)) [w3] true (w7 (d6 l9)) y9))
    (d9 (p7 (l5 M3) (j7 (.bool true)))
    j9)))
    j9)
   j9))
  j9)))))
 (d9 (z5 (d6 l9))
 j9)))⟩
noncomputable def a5R:Fn:=⟨[r9,a7z],
 (d9 (p7 (l5 l6) (O3 .dict (d7 (t8 (z0 (d7 (d6 w3) (d7 (G9 h9) h9))) [w3,n6] false (w7 (d6 r9)) y9) h9)))
 (d9 (Q6 [U6] true (N4 (d7 (j7 (.int 1)) (d7 (A6 .add (d6 a7z) (j7 (.int 1))) h9)))
  (d9 (p7 (l5 a1u) (G9 h9))
  (d9 (Q6 [w3,n6] false (w7 (d6 r9))
   (d9 (p7 (l5 a16) (t8 (d6 m7) [m7] true (w7 (d6 n6)) (A8 (R4 (o7 .eq (m9 (d6 l6) (d6 m7)) (G9 h9)) (R4 (o7 .ge (m9 (m9 (d6 l6) (d6 m7)) (j7 (.int 0))) (d6 U6)) a5h)) y9)))
   (d9 (p7 (l5 a3V) (t8 (d6 m7) [m7] true (w7 (d6 n6)) (A8 (o7 .isin (A6 .sub (d6 U6) (j7 (.int 1))) (m9 (d6 l6) (d6 m7))) y9)))
   (d9 (G6 (A8 (o7 .eq (d6 a16) (G9 h9)) (A8 (R4 (o7 .ne (d6 a3V) (G9 h9)) (R4 (A8 (o7 .eq (d6 n6) (z0 h9)) (A8 (o7 .eq (d6 U6) (j7 (.int 1))) y9)) a5h)) y9))
    (d9 (y8 (l4 (d6 a1u) v6 (d7 (d6 w3) h9)))
    j9)
    j9)
   j9))))
  (d9 (Q6 [w3] true (w7 (D3 (d6 a1u)))
   (d9 (y8 (l4 (m9 (d6 l6) (d6 w3)) v6 (d7 (d6 U6) h9)))
   j9))
  j9))))
 (d9 (z5 (d6 l6))
 j9)))⟩
noncomputable def a67:Fn:=⟨[r9,a7z],
 (d9 (p7 (l5 D1) (O3 .dict (d7 (t8 (z0 (d7 (d6 w3) (d7 a0e h9))) [w3,n6] false (w7 (d6 r9)) y9) h9)))
 (d9 (Q6 [a0J] true (N4 (d7 (j7 (.int 1)) (d7 (A6 .add (d6 a7z) (j7 (.int 1))) h9)))
  (d9 (Q6 [w3,n6] false (w7 (d6 r9))
   (d9 (G6 (o7 .eq (O3 .len (d7 (d6 n6) h9)) (j7 (.int 2)))
    (d9 (p7 (l5 Y7) (R0 (o7 .ne (t8 (d6 X9) [X9] true (w7 (m9 (d6 D1) (m9 (d6 n6) (j7 (.int 0))))) (A8 (o7 .isin (A6 .sub (A6 .sub (d6 a0J) (j7 (.int 1))) (d6 X9)) (m9 (d6 D1) (m9 (d6 n6) (j7 (.int 1))))) y9)) (G9 h9))))
    j9)
    (d9 (p7 (l5 Y7) (a3L (o7 .eq (d6 n6) (z0 h9)) (R0 (o7 .eq (d6 a0J) (j7 (.int 1)))) (R0 (o7 .isin (A6 .sub (d6 a0J) (j7 (.int 1))) (m9 (d6 D1) (m9 (d6 n6) (j7 (.int 0))))))))
    j9))
   (d9 (G6 (a2C (d6 Y7))
    (d9 (p7 (a0W (m9 (d6 D1) (d6 w3)) (d6 a0J)) (j7 (.bool true)))
    j9)
    j9)
   j9)))
  j9))
 (d9 (z5 (O3 .dict (d7 (t8 (z0 (d7 (d6 w3) (d7 (a3L (o7 .ne (m9 (d6 D1) (d6 w3)) a0e) (O3 .min (d7 (m9 (d6 D1) (d6 w3)) h9)) (j7 .none)) h9))) [w3] true (w7 (d6 D1)) y9) h9)))
 j9)))⟩
noncomputable def a65:Fn:=⟨[r9,w3],
 (d9 (p7 (K1 [(l5 J5),(l5 J4)]) (z0 (d7 (G9 (d7 (d6 w3) h9)) (d7 (j7 (.int 0)) h9))))
 (d9 (a5q (o7 .gt (O3 .len (d7 (d6 J5) h9)) (d6 J4))
  (d9 (p7 (l5 J4) (O3 .len (d7 (d6 J5) h9)))
  (d9 (Q6 [t9,n6] false (w7 (d6 r9))
   (d9 (p7 (l5 J5) (A6 .add (d6 J5) (t8 (d6 m7) [m7] true (w7 (D3 (d6 n6))) (A8 (A8 (o7 .isin (d6 t9) (d6 J5)) (A8 (o7 .notin (d6 m7) (d6 J5)) y9)) y9))))
   j9))
  j9)))
 (d9 (z5 (d6 J5))
 j9)))⟩
noncomputable def a4o:Fn:=⟨[w5,t6,B3,a1w],
 (d9 (p7 (K1 [(l5 l9),(l5 M4)]) (z0 (d7 (D0 a1s (d7 (d6 t6) (d7 (d6 B3) h9))) (d7 (a8s w6 (d7 (d6 w5) h9)) h9))))
 (d9 (p7 (l5 r9) (D3 (t8 (z0 (d7 (m9 (d6 l9) (d6 U1)) (d7 (O3 .tuple (d7 (t8 (m9 (d6 l9) (d6 m7)) [m7] true (w7 (a0f (m9 (d6 t6) (d6 U1)) (j7 (.int 1)))) y9) h9)) h9))) [U1] true (N4 (d7 (O3 .len (d7 (d6 t6) h9)) h9)) y9)))
 (d9 (p7 (l5 J4) (a4t (d6 l9)))
 (d9 (p7 (K1 [(l5 K9),(l5 a4w)]) (z0 (d7 (D0 a0U (d7 (d6 r9) (d7 (A6 .mul (j7 (.int 2)) (d6 J4)) h9))) (d7 (D0 a1t (d7 (d6 r9) (d7 (j7 (.int 12)) h9))) h9))))
 (d9 (p7 (K1 [(l5 n_a),(l5 n_b),(l5 n_c),(l5 n_d)]) (d6 a1w))
 (d9 (G6 (o7 .isnot (l4 (d6 M4) Y6 (d7 (d6 n_a) h9)) (R0 (o7 .gt (m9 (m9 (d6 K9) (m9 (d6 l9) (d6 n_a))) (a24 (j7 (.int 1)))) (d6 J4))))
  (d9 (z5 (j7 (.bool false)))
  j9)
  j9)
 (d9 (p7 (l5 l6) (m9 (d6 K9) (m9 (d6 l9) (d6 n_b))))
 (d9 (G6 (o7 .ne (l4 (d6 M4) a2s (d7 (d6 n_b) h9)) (z0 (d7 (m9 (d6 l6) (j7 (.int 0))) (d7 (a3L (o7 .gt (m9 (d6 l6) (a24 (j7 (.int 1)))) (d6 J4)) (a24 (j7 (.int 1))) (m9 (d6 l6) (a24 (j7 (.int 1))))) h9))))
  (d9 (z5 (j7 (.bool false)))
  j9)
  j9)
 (d9 (p7 (K1 [(l5 U2),(l5 Q0)]) (z0 (d7 (m9 (d6 a4w) (m9 (d6 l9) (d6 n_c))) (d7 (l4 (d6 M4) Y8 (d7 (d6 n_c) h9)) h9))))
 (d9 (G6 (b3G (o7 .isnot (d6 U2) (j7 .none)) (o7 .ne (d6 Q0) (d6 U2)) (o7 .le (d6 Q0) (j7 (.int 12))))
  (d9 (z5 (j7 (.bool false)))
  j9)
  j9)
 (d9 (z5 (R0 (o7 .eq (l4 (d6 M4) Z9 (d7 (d6 n_d) h9)) (O3 .sorted (d7 (t8 (l4 (d6 l9) a3j (d7 (d6 X9) h9)) [X9] true (w7 (D0 Y4 (d7 (d6 r9) (d7 (m9 (d6 l9) (d6 n_d)) h9)))) y9) h9)))))
 j9)))))))))))⟩
noncomputable def c0G:Fn:=⟨[a3m],
 (d9 (p7 (l5 D4) (a8q ["cells","spot"] (d7 (t8 (A6 .mod (O3 .int (d7 (d6 a7x) h9)) (j7 (.int 1000003))) [a7x] true (w7 (b30 (d6 a3m) (j7 (.int 50)))) y9) (d7 (j7 (.int 0)) h9))))
 (d9 (p7 (K1 [(l5 w5),(l5 t6),(l5 B3)]) (z0 (d7 (a8s w4 h9) (d7 (G9 h9) (d7 (G9 h9) h9)))))
 (d9 (Q6 [n_k] true (N4 (d7 (A6 .add (j7 (.int 2)) (D0 w9 (d7 (d6 D4) (d7 (j7 (.int 2)) h9)))) h9))
  (d9 (G6 (a5L (a2C (D0 K3 (d7 (d6 w5) (d7 (d6 t6) (d7 (m9 (j7 (.str "abc")) (d6 n_k)) (d7 (z0 h9) h9)))))))
   (d9 (z5 (j7 (.bool false)))
   j9)
   j9)
  j9))
 (d9 (Q6 [a3W] true (N4 (d7 (A6 .add (j7 (.int 1)) (D0 w9 (d7 (d6 D4) (d7 (j7 (.int 2)) h9)))) h9))
  (d9 (Q6 [b1s] true (N4 (d7 (A6 .add (j7 (.int 3)) (D0 w9 (d7 (d6 D4) (d7 (j7 (.int 5)) h9)))) h9))
   (d9 (G6 (a5L (a2C (D0 W0 (d7 (d6 D4) (d7 (d6 w5) (d7 (d6 t6) (d7 (d6 B3) h9)))))))
    (d9 (z5 (j7 (.bool false)))
    j9)
    j9)
   j9))
  (d9 (y8 (l4 (d6 w5) a3n h9))
  j9)))
 (d9 (z5 (D0 P9 (d7 (d6 w5) (d7 (d6 t6) (d7 (d6 B3) (d7 (t8 (D0 w9 (d7 (d6 D4) (d7 (O3 .len (d7 (d6 t6) h9)) h9))) [a3W] true (N4 (d7 (j7 (.int 4)) h9)) y9) h9))))))
 j9)))))⟩
noncomputable def a8D:List Fn:=[a8C,a68,a2R,a4U,a28,a0C,a1T,a4l,a1U,a27,b6I,a4k,a8u,a8v,a4T,b2e,a8t,a29,a5P,a5Q,a5O,a4X,a3M,a4m,a8z,a8y,a9X,a4V,a8w,a63,a8x,a5N,a4W,a4n,a8B,a64,a8A,a66,a5R,a67,a65,a4o,c0G]
noncomputable def b4v:List (Nm×Nm):=[(0,a19),(0,T0),(w6,a87),(w6,n6),(w6,Z9),(w6,M8),(w6,Y6),(w6,Q0),(w6,Y8),(w6,a2s),(0,a7y),(O5,a87),(O5,a3U),(O5,a7B),(O5,a3T),(O5,a18),(O5,n6),(D9,a87),(D9,b0i),(D9,a3U),(D9,I9),(D9,Y9),(D9,a07),(w4,a87),(w4,a3U),(w4,B2),(w4,b4V),(w4,Z8),(w4,I9),(w4,Y9),(w4,a5b),(w4,a3n),(w4,a07),(w4,a0n),(0,w9),(0,K3),(0,W0),(0,a1s),(0,a0U),(0,a1t),(0,Y4),(0,P9),(0,c0X)]
noncomputable def FT:b1T:=b5O b4v a8D
end Mine.Internal
namespace Mine.Internal
set_option Elab.async false
set_option maxHeartbeats 0
open PySem PySem.W PyProof.Rows
noncomputable def T03:Tab where
 as:=[3,0,109,108,263,262,345,344,477,476,28,27,35,34,49,48,68,67,75,74,80,79,87,86,92,91,99,98,106,105,159,158,173,172,180,179,185,184,192,191,220,219,227,226,281,280,288,287,295,294,302,301,309,308,316,315,363,362,370,369,375,374,380,379,394,393,401,400,415,414,422,421,429,428,450,449,455,454,488,487,495,494,502,501,507,506,512,511,517,516,522,521,527,526,532,531]
 fns:=[(m8 "size_over"),(m8 "depth_over"),(m8 "is_op"),(m8 "_law_draw"),(m8 "_law_added"),(m8 "_law_deed"),(m8 "_law_marks"),(m8 "_law_depths"),(m8 "_law_sizes"),(m8 "_law_below"),(m8 "_law_is_right"),(m8 "law")]
 clss:=[(m8 "Grammar"),(m8 "Bank"),(m8 "Unions"),(m8 "Heap")]
 attrs:=[(m8 "heap"),(m8 "nodes"),(m8 "numbers"),(m8 "weights"),(m8 "depths"),(m8 "above"),(m8 "lots"),(m8 "merged"),(m8 "bank"),(m8 "unions"),(m8 "edges"),(m8 "forest"),(m8 "known"),(m8 "waiting")]
 cl:=[((m8 "Grammar"),109),((m8 "Bank"),263),((m8 "Unions"),345),((m8 "Heap"),477)]
 fes:=[⟨none,(m8 "size_over"),28⟩,⟨none,(m8 "depth_over"),35⟩,⟨some (m8 "Grammar"),(m8 "__init__"),49⟩,⟨some (m8 "Grammar"),(m8 "kids"),68⟩,⟨some (m8 "Grammar"),(m8 "reached"),75⟩,⟨some (m8 "Grammar"),(m8 "greatest_depths"),80⟩,⟨some (m8 "Grammar"),(m8 "is_endless"),87⟩,⟨some (m8 "Grammar"),(m8 "least"),92⟩,⟨some (m8 "Grammar"),(m8 "least_size"),99⟩,⟨some (m8 "Grammar"),(m8 "heights"),106⟩,⟨none,(m8 "is_op"),159⟩,⟨some (m8 "Bank"),(m8 "__init__"),173⟩,⟨some (m8 "Bank"),(m8 "size"),180⟩,⟨some (m8 "Bank"),(m8 "take"),185⟩,⟨some (m8 "Bank"),(m8 "require"),192⟩,⟨some (m8 "Bank"),(m8 "op"),220⟩,⟨some (m8 "Bank"),(m8 "kids"),227⟩,⟨some (m8 "Unions"),(m8 "__init__"),281⟩,⟨some (m8 "Unions"),(m8 "make"),288⟩,⟨some (m8 "Unions"),(m8 "size"),295⟩,⟨some (m8 "Unions"),(m8 "find"),302⟩,⟨some (m8 "Unions"),(m8 "merge"),309⟩,⟨some (m8 "Unions"),(m8 "members"),316⟩,⟨some (m8 "Heap"),(m8 "__init__"),363⟩,⟨some (m8 "Heap"),(m8 "size"),370⟩,⟨some (m8 "Heap"),(m8 "node"),375⟩,⟨some (m8 "Heap"),(m8 "add"),380⟩,⟨some (m8 "Heap"),(m8 "look_at"),394⟩,⟨some (m8 "Heap"),(m8 "find"),401⟩,⟨some (m8 "Heap"),(m8 "merge"),415⟩,⟨some (m8 "Heap"),(m8 "join"),422⟩,⟨some (m8 "Heap"),(m8 "settle"),429⟩,⟨some (m8 "Heap"),(m8 "members"),450⟩,⟨some (m8 "Heap"),(m8 "nodes_of"),455⟩,⟨none,(m8 "_law_draw"),488⟩,⟨none,(m8 "_law_added"),495⟩,⟨none,(m8 "_law_deed"),502⟩,⟨none,(m8 "_law_marks"),507⟩,⟨none,(m8 "_law_depths"),512⟩,⟨none,(m8 "_law_sizes"),517⟩,⟨none,(m8 "_law_below"),522⟩,⟨none,(m8 "_law_is_right"),527⟩,⟨none,(m8 "law"),532⟩]
noncomputable def b8E:{F:(String->Str)->Program // At F Str.ofString PySem.Challenge.pw_pq0065_03}:=by
 refine ⟨?F,?h⟩
 case h =>
  refine atM ((?z:((?F:(String->Str)->Program) Str.ofString=PySem.Challenge.pw_pq0065_03)->(?F:(String->Str)->Program) Str.ofString=PySem.Challenge.pw_pq0065_03) ?w)
  case w =>
   unfold PySem.Challenge.pw_pq0065_03;generalize Str.ofString=f;exact b8s _ _
  case z=>intro _;exact Eq.refl PySem.Challenge.pw_pq0065_03
noncomputable def a6M:{p:Program // p=PySem.Challenge.pw_pq0065_03}:=⟨b8E.1 m8,(c5z b8E.1 a7Q.symm).trans b8E.2⟩
noncomputable def a2p:List Str:=[m8 "_wall",m8 "size_over",m8 "depth_over",m8 "Grammar",m8 "HeapError",m8 "TermFault",m8 "is_op",m8 "Bank",m8 "Unions",m8 "Heap",m8 "_law_draw",m8 "_law_added",m8 "_law_deed",m8 "_law_marks",m8 "_law_depths",m8 "_law_sizes",m8 "_law_below",m8 "_law_is_right"]
noncomputable def lhsF {α:Type} (f:Shared->α) (h:Params->Heap) (p:Program) (w:World) (os:OsState):=(a8c h w).bind λb=>b7e h p f 4000 b w os
noncomputable def seenF (ks:List Nat) (l:List Str) (p:Program) (s:Shared):=openSeen (view p ks) l (importedModules p.main.body) (λ_=>true) true s
noncomputable def goodF (ks:List Nat) (l:List Str) (p:Program):=openGood (view p ks) l
end Mine.Internal
section
set_option Elab.async false
set_option maxHeartbeats 0
lay_quick Mine.Internal.lhsF
lay_quick Mine.Internal.seenF
lay_quick Mine.Internal.goodF
end
section
set_option Elab.async false
set_option maxHeartbeats 0
open PySem PySem.W PyProof.Rows
theorem Mine.Internal.mini03:Mine.Internal.c07 Mine.Internal.T03 Mine.Internal.a6M.1=Mine.Internal.a8D.map some:=by kernel_rfl
theorem Mine.Internal.seen03:∀ w,PySem.W.Fast.tw4264726734810522163 (λs=>(PySem.W.Fast.tw4036098521264024637 [24] Mine.Internal.a2p Mine.Internal.a6M.1 s,Mine.Internal.a3Y Mine.Internal.T03 s)) Mine.Internal.b78.1 Mine.Internal.a6M.1 w=λ_=>some (PySem.W.Fast.tw4065217944589469274 [24] Mine.Internal.a2p Mine.Internal.a6M.1,true,Mine.Internal.b0Q Mine.Internal.T03 Mine.Internal.a6M.1):=by
 intro w;kernel_rfl
namespace Mine.Internal
variable {k:Nat}{t:SetTable}{x:Nm}{H:Hp}{o:N2}{v:f7}{u:Value}{h:Heap}{a:Nat}{vs:List Value}{xs:List f7}{l:List Nat}{es:List (f7×f7)}{s:Shared}{Q:l8}{d:Addr}{e:Ev}{r:En}{i m:Nat}{j:Int}{K:Calls}
theorem m3 (q:Q v H):j7 v K r H Q:=q
theorem f6 (h:r x=some v) (q:Q v H):d6 x K r H Q:=⟨v,h,q⟩
theorem D2 {es:Lv} (h:es K r H λvs q=>Q (.tup vs) q):z0 es K r H Q:=h
theorem a0x {es:Lv} (h:es K r H λvs q=>∀ a,q a=none->Q (.ref a) (q.set a (.list vs))):G9 es K r H Q:=h
theorem i8 {Q:List f7->Hp->Prop} (q:Q [] H):h9 K r H Q:=q
theorem d8 {es:Lv} {Q:List f7->Hp->Prop} (h:e K r H λv q=>es K r q λvs B=>Q (v :: vs) B):d7 e es K r H Q:=h
theorem C5 {o:BOp} {a b:Ev} (h:a K r H λv q=>b K r q λw B=>a4h o v w B Q):A6 o a b K r H Q:=h
theorem a9z {a:Ev} (h:a K r H λv q=>∃ i,v=.int i/\Q (.int (-i)) q):a24 a K r H Q:=h
theorem c1d {a b:Ev} (h:a K r H λv q=>∃ t,v=.bool t/\(t=true->b K r q Q)/\(t=false->Q v q)):b6H a b K r H Q:=h
theorem a0Z {c:Cv} (h:c K r H λb q=>Q (.bool b) q):R0 c K r H Q:=h
theorem a9y {c:Cv} {a b:Ev} (h:c K r H λt q=>(t=true->a K r q Q)/\(t=false->b K r q Q)):a3L c a b K r H Q:=h
theorem a5C (h:e K r H λv q=>b02 v x q Q):n7 e x K r H Q:=h
theorem B7 {e i:Ev} (h:e K r H λv q=>i K r q λw B=>a7g v w B Q):m9 e i K r H Q:=h
theorem M0 {b:BI} {q:Lv} (h:q K r H λvs B=>biW b vs B Q):O3 b q K r H Q:=h
theorem M7 {f:Nm} {q:Lv} (h:q K r H λvs B=>K.call 0 f vs B Q):D0 f q K r H Q:=h
theorem b1Q {c:Nm} {q:Lv} (h:q K r H λvs B=>b2H K c vs B Q):a8s c q K r H Q:=h
theorem b94 {m:Nm} {B:Lv} (h:e K r H λv q=>∃ k,b8m K.has q v m k/\B K r q λvs J=>S8 K k v m vs J Q):l4 e m B K r H Q:=h
theorem t0 {o:COp} {a b:Ev} {Q:F7} (h:a K r H λv q=>b K r q λw B=>P0 o v w B Q):o7 o a b K r H Q:=h
theorem V1 {Q:F7} (q:Q true H):y9 K r H Q:=q
theorem F6 {c B:Cv} {Q:F7} (h:c K r H λb q=>(b=true->B K r q Q)/\(b=false->Q false q)):A8 c B K r H Q:=h
theorem b1R {c:Cv} {Q:F7} (h:c K r H λb q=>Q (!b) q):a5L c K r H Q:=h
theorem a2W {Q:F7} (h:e K r H λv q=>∃ b,v=.bool b/\Q b q):a2C e K r H Q:=h
theorem a79 {a d c x:Nat} {fs:List (Nm×f7)} {u:f7} (B:H a=some (.inst c d)) (J:H d=some (.ns fs)) (O:a0i fs x=some u) (q:Q u H):b02 (.ref a) x H Q:=⟨c,d,fs,u,⟨a,rfl,B,J⟩,O,q⟩
theorem b1t {l:Nat} (h:i < l) (q:l<=n8):a1x l (i:Int)=some i:=by
 unfold a1x;rw[(c58 q)];rw[(c58 ⟨c5N _,by exact c6P h⟩)];rfl
theorem I4 {x:f7} (h:H a=some (.list xs)) (J:xs.length<=n8) (B:xs[i]?=some x) (q:Q x H):a7g (.ref a) (.int (i:Nat)) H Q :=
 .inr (.inl ⟨xs,i,i,x,.inr ⟨a,rfl,h⟩,rfl,b1t (c6C B).1 J,B,q⟩)
theorem a7h {x:f7} (J:xs.length<=n8) (B:xs[i]?=some x) (q:Q x H):a7g (.tup xs) (.int (i:Nat)) H Q :=
 .inr (.inl ⟨xs,i,i,x,.inl rfl,rfl,b1t (c6C B).1 J,B,q⟩)
theorem D8 (h:H a=some (.list xs)) (B:xs.length<=n8) (q:Q (.int (xs.length:Nat)) H):biW .len [.ref a] H Q:=⟨.ref a,xs,rfl,.inl (.inr ⟨a,rfl,h⟩),B,q⟩
theorem b0k {i j:Int} {Q:F7} (q:Q (!decide (i=j)) H):P0 .ne (.int i) (.int j) H Q:=.inl ⟨decide (i=j),.inl (.inl ⟨rfl,rfl,by
 refine D5 (decide_eq_decide ..) ?_;exact ⟨λe=>by rw[e];rfl,λe=>by injection e⟩⟩),q⟩
theorem a1S {i j:Int} {Q:F7} (q:Q (decide (i=j)) H):P0 .eq (.int i) (.int j) H Q:=⟨decide (i=j),.inl (.inl ⟨rfl,rfl,by
 refine D5 (decide_eq_decide ..) ?_;exact ⟨λe=>by rw[e];rfl,λe=>by injection e⟩⟩),q⟩
theorem lt_int {i j:Int} {Q:F7} (q:Q (decide (i < j)) H):P0 .lt (.int i) (.int j) H Q:=⟨i,j,rfl,rfl,q⟩
theorem gt_int {i j:Int} {Q:F7} (q:Q (decide (i > j)) H):P0 .gt (.int i) (.int j) H Q:=⟨i,j,rfl,rfl,q⟩
theorem K7 {i j:Int} (q:Q (.int (i+j)) H):a4h .add (.int i) (.int j) H Q:=.inl ⟨i,j,rfl,rfl,q⟩
theorem a4G {l m:List f7} (B:l.length+m.length<=n8) (q:Q (.tup (l++m)) H):a4h .add (.tup l) (.tup m) H Q:=.inr (.inr (.inl ⟨l,m,rfl,rfl,B,q⟩))
theorem sub_int {i j:Int} (q:Q (.int (i - j)) H):a4h .sub (.int i) (.int j) H Q:=⟨i,j,rfl,rfl,q⟩
theorem F0 {Q:A2} (h:e K r H λ_ q=>Q .next r q):y8 e K r H Q:=h
theorem t7 {t:Tv} {Q:A2} (h:e K r H λv q=>t K v r q λJ B=>Q .next J B):p7 t e K r H Q:=h
theorem y0 {Q:a2F} (h:Q (r.set x v) H):l5 x K v r H Q:=h
theorem A4 {Q:A2} (h:e K r H λv q=>Q (.ret v) r q):z5 e K r H Q:=h
theorem J7 {c:Cv} {a b:Bv} {Q:A2} (h:c K r H λt q=>(t=true->a K r q Q)/\(t=false->b K r q Q)):G6 c a b K r H Q:=h
theorem b03 {Q:A2} (h:Q .next r H):j9 K r H Q:=h
theorem f9 {s b:Bv} {Q:A2} (h:s K r H λf B q=>a2D f (b K B q Q) λv=>Q (.ret v) B q):d9 s b K r H Q:=h
variable {p:Array Nat}{y:Ev}{E:Value->Shared->Prop}{I:Addr}{ep:Nat}{one:Bool}{acc:List f7}{it:It}{L:List El}{up:List Nat}{g:Nat}
theorem b95 {c:En->Hp->F7->Prop} {b:En->Hp->A2->Prop} {Q:A2} (I:Nat->En->Hp->Prop)
  (h:∀ k r H,I k r H->∀ W:A2,(∀ B J q,B < k->I B J q->W .next J q)->c r H λt q=>(t=true->b r q W)/\(t=false->Q .next r q)) :
  ∀ m k r H,k < m->I k r H->b6a c b m r H Q:=by
 intro m;induction m with
 | zero=>intro _ _ _ U _;exact c59 U (c6A _)
 | succ m Z=>intro k r H U Y;exact h k r H Y _ λB J q V O=>Z B J q (c5G V (c5L U)) O
theorem a5t {c:Cv} {b:Bv} {Q:A2} (I:Nat->En->Hp->Prop) (k:Nat) (O:I k r H)
  (h:∀ k r H,I k r H->∀ W:A2,(∀ B J q,B < k->I B J q->W .next J q)->c K r H λt q=>(t=true->b K r q W)/\(t=false->Q .next r q)):a5q c b K r H Q :=
 ⟨k+1,b95 I h (k+1) k r H (c5J k) O⟩
theorem a0g {t:List Nm} {b:En->Hp->A2->Prop} {src:Src} {Q:A2} (l:List f7) (I:Nat->En->Hp->Prop)
  (d:∀ i r H,I i r H->src.next H i l[i]?) (a:∀ r H,I l.length r H->Q .next r H)
  (h:∀ i v r H,l[i]?=some v->I i r H->∀ W:A2,(∀ J B,I (i+1) J B->W .next J B)->(∀ v J B,Q (.ret v) J B->W (.ret v) J B)->∃ Z,a0F t one v r Z/\b Z H W) :
  ∀ m i r H,l.length - i < m->i<=l.length->I i r H->a5T t one b src m i r H Q:=by
 intro m;induction m with
 | zero=>intro _ _ _ Y _ _;exact c59 Y (c6A _)
 | succ m f =>
  intro i r H Y c U;refine ⟨l[i]?,d i r H U,λe=>?_,λv e=>?_⟩
  ·rw [List.getElem?_eq_none_iff] at e;clear Y;obtain rfl:i=l.length:=Nat.le_antisymm c e;exact a r H U
  ·have O:=(c6C e).1;exact h i v r H e U _ (λJ B V=>f (i+1) J B (by exact c5G (Nat.sub_succ_lt_self _ _ O) (c5L Y)) O V) λv J B q=>q
theorem a6V {turn:f7->Hp->(List f7->Hp->Prop)->Prop} {src:Src} {Q:List f7->Hp->Prop} (l:List f7) (I:Nat->List f7->Hp->Prop)
  (b:∀ i acc H,I i acc H->src.next H i l[i]?) (Z:∀ acc H,I l.length acc H->Q acc H)
  (h:∀ i v acc H,l[i]?=some v->I i acc H->acc.length<=n8/\∀ W:List f7->Hp->Prop,(∀ xs B,I (i+1) (acc++xs) B->W xs B)->turn v H W) :
  ∀ m i acc H,l.length - i < m->i<=l.length->I i acc H->a01 turn src m i acc H Q:=by
 intro m;induction m with
 | zero=>intro _ _ _ U _ _;exact c59 U (c6A _)
 | succ m c =>
  intro i acc H U a J;refine ⟨l[i]?,b i acc H J,λe=>?_,λv e=>?_⟩
  ·rw [List.getElem?_eq_none_iff] at e;clear U;obtain rfl:i=l.length:=Nat.le_antisymm a e;exact Z acc H J
  ·have q:=(c6C e).1;exact eA (h i v acc H e J) λV Y=>⟨V,Y _ λxs B O=>c (i+1) (acc++xs) B (by exact c5G (Nat.sub_succ_lt_self _ _ q) (c5L U)) q O⟩
theorem D6:a0F [x] true v r (r.set x v):=.inl ⟨rfl,x,rfl,rfl⟩
theorem b5r {t:List Nm} {b:Bv} {Q:A2} (h:it.iv K r H λsrc q=>∃ n,a5T t one (b K) src n 0 r q Q):Q6 t one it b K r H Q:=h
theorem o8 {n:Nat} {c f:Nm} {vs:List f7} {fd:Fn} (J:FT c f=some fd) (O:vs.length=fd.params.length)
  (h:fd.body (j3 FT n) (bindL fd.params vs En.nil) H λB _ q=>a2D B (Q .none q) λv=>Q v q):(j3 FT (n+1)).call c f vs H Q:=⟨fd,J,O,h⟩
inductive Slot where
 | eg (k:Nat) | lot (i:Nat) | us (i:Nat) | ow (k:Nat)
 deriving DecidableEq
noncomputable abbrev A0:=Slot->Option N2
noncomputable def upd (C:A0) (s:Slot) (o:N2):A0:=λt=>if t=s then some o else C t
noncomputable def M6 (lay:Slot->Nat) (s:Slot) (a:Nat):Slot->Nat:=λt=>if t=s then a else lay t
theorem C0 {C:A0} {s:Slot}:upd C s o s=some o:=c58 rfl
theorem j5 {C:A0} {s t:Slot} (h:t≠s):upd C s o t=C t:=c57 h
theorem a2x {lay:Slot->Nat} {s:Slot}:M6 lay s a s=a:=c58 rfl
theorem Q2 {lay:Slot->Nat} {s t:Slot} (h:t≠s):M6 lay s a t=lay t:=c57 h
structure J1 (lay:Slot->Nat) (C:A0) (H:Hp):Prop where
 at_:∀ s o,C s=some o->H (lay s)=some o
 inj:∀ s t o p,C s=some o->C t=some p->lay s=lay t->s=t
noncomputable def m4 (H H':Hp):Prop:=∀ a o,H a=some o->H' a=some o
theorem m4.refl (H:Hp):m4 H H:=λ_ _ e=>e
theorem m4.trans {H q B:Hp} (x:m4 H q) (y:m4 q B):m4 H B:=λa o e=>y a o (x a o e)
theorem m4.new (h:H a=none):m4 H (H.set a o):=λb p e=>by
 unfold Hp.set;rw[(c57 (λz=>by rw [z,h] at e;cases e))];exact e
theorem l0:(H.set a o) a=some o:=c58 rfl
theorem C8 {a b:Nat} (h:b≠a):(H.set a o) b=H b:=c57 h
theorem J1.keep {lay:Slot->Nat} {C:A0} {H q:Hp} (x:J1 lay C H) (k:m4 H q):J1 lay C q:=⟨λs o e=>k _ _ (x.at_ s o e),x.inj⟩
theorem J1.put {lay:Slot->Nat} {C:A0} (x:J1 lay C H) {s:Slot} {o p:N2} (h:C s=some p):J1 lay (upd C s o) (H.set (lay s) o):=by
 have B:∀ t q,upd C s o t=some q->∃ J,C t=some J:=λt q e=>by
  by_cases z:t=s
  ·exact ⟨p,z▸h⟩
  ·rw [j5 z] at e;exact ⟨q,e⟩
 refine ⟨λt q e=>?_,λt u q J e O z=>?_⟩
 ·by_cases z:t=s
  ·clear B h;subst z;rw [C0] at e;have U:=B8 e;clear e;subst U;exact l0
  ·rw [j5 z] at e;rw[(C8 λw=>z (x.inj t s q p e h w))];exact x.at_ t q e
 ·exact eE (B t q e) λ_ a=>eE (B u J O) λ_ b=>x.inj t u _ _ a b z
theorem J1.take {lay:Slot->Nat} {C:A0} (x:J1 lay C H) {s:Slot} (h:H a=none):J1 (M6 lay s a) (upd C s o) (H.set a o):=by
 have B:∀ t q,C t=some q->lay t≠a:=λt q e z=>by
  have:=x.at_ t q e;rw [z,h] at this;cases this
 refine ⟨λt q e=>?_,λt u q O e J z=>?_⟩
 ·by_cases w:t=s
  ·subst w;rw [C0] at e;have U:=B8 e;clear e;subst U;rw[a2x];exact l0
  ·rw [j5 w] at e;rw[(Q2 w)];rw[(C8 (B t q e))];exact x.at_ t q e
 ·by_cases w:t=s <;> by_cases v:u=s
  ·rw[w];rw[v];rfl
  ·rw [j5 v] at J;rw [w,a2x,Q2 v] at z;exact c59 z.symm (B u O J)
  ·rw [j5 w] at e;rw [v,a2x,Q2 w] at z;exact c59 z (B t q e)
  ·rw [j5 w] at e;rw [j5 v] at J;rw [Q2 w,Q2 v] at z;exact x.inj t u q O e J z
noncomputable abbrev G7:=String×List Nat
noncomputable def iL (l:List Nat):List f7:=l.map λ(i:Nat)=>f7.int i
noncomputable def s9 (x:G7):f7:=.tup (.str x.1 :: iL x.2)
structure St where
 nd:List G7
 up:List Nat
 kn:List (G7×Nat)
 us:List (Nat×List Nat)
 wt:List Nat
 m:Nat
 e:Nat
 f:Nat
noncomputable def a7e (lay:Slot->Nat):List (Nm×f7):=[(X0,.ref (lay (.eg 2))),(L9,.ref (lay (.eg 8))),(Y5,.ref (lay (.eg 13))),(a0l,.ref (lay (.eg 14))),(a3k,.ref (lay (.eg 15))),(w8,.ref (lay (.eg 16))),(I0,.ref (lay (.eg 17)))]
noncomputable def a9F (lay:Slot->Nat):List (Nm×f7):=[(r9,.ref (lay (.eg 4))),(G0,.ref (lay (.eg 5))),(a0a,.ref (lay (.eg 6))),(K9,.ref (lay (.eg 7)))]
noncomputable def b8x (lay:Slot->Nat):List (Nm×f7):=[(w8,.ref (lay (.eg 10))),(a0m,.ref (lay (.eg 11))),(W6,.ref (lay (.eg 12)))]
noncomputable def S7 (lay:Slot->Nat) (n:Nat):List f7:=(List.range n).map λi=>f7.ref (lay (.lot i))
noncomputable def a09 (nd:List G7):List (f7×f7):=nd.zipIdx.map λp=>(s9 p.1,f7.int p.2)
noncomputable def knV (kn:List (G7×Nat)):List (f7×f7):=kn.map λp=>(s9 p.1,f7.int p.2)
noncomputable def Z4 (lay:Slot->Nat) (us:List (Nat×List Nat)):List (f7×f7):=us.map λp=>(f7.int p.1,f7.ref (lay (.us p.1)))
structure Hd (lay:Slot->Nat) (C:A0):Prop where
 c0:C (.eg 0)=some (.inst w4 (lay (.eg 1)))
 c1:C (.eg 1)=some (.ns (a7e lay))
 c2:C (.eg 2)=some (.inst O5 (lay (.eg 3)))
 c3:C (.eg 3)=some (.ns (a9F lay))
 c8:C (.eg 8)=some (.inst D9 (lay (.eg 9)))
 c9:C (.eg 9)=some (.ns (b8x lay))
noncomputable def c0O:Slot->Bool
 | .eg k=>k==0||k==1||k==2||k==3||k==8||k==9
 | _=>false
noncomputable def c3H:Slot->Bool
 | .eg _=>true
 | _=>false
theorem Hd.upd {lay:Slot->Nat} {C:A0} {s:Slot} (h:Hd lay C) (J:c0O s=false):Hd lay (upd C s o):=by
 have q:∀ t,c0O t=true->t≠s:=λt B e=>by rw [e,J] at B;cases B
 exact ⟨(j5 (q _ rfl)).trans h.c0,(j5 (q _ rfl)).trans h.c1,(j5 (q _ rfl)).trans h.c2,(j5 (q _ rfl)).trans h.c3,(j5 (q _ rfl)).trans h.c8,(j5 (q _ rfl)).trans h.c9⟩
theorem Hd.take {lay:Slot->Nat} {C:A0} {s:Slot} (h:Hd lay C) (q:c3H s=false):Hd (M6 lay s a) (Mine.Internal.upd C s o):=by
 cases s with
 | eg k=>cases q
 | lot i=>exact ⟨h.c0,h.c1,h.c2,h.c3,h.c8,h.c9⟩
 | us i=>exact ⟨h.c0,h.c1,h.c2,h.c3,h.c8,h.c9⟩
 | ow i=>exact ⟨h.c0,h.c1,h.c2,h.c3,h.c8,h.c9⟩
structure Up (up:List Nat):Prop where
 le:∀ (i p:Nat),up[i]?=some p->p<=i
noncomputable def a5p (up:List Nat):Nat->Nat->Nat
 | 0,i=>i
 | f+1,i=>match up[i]? with
  | some p=>if p=i then i else a5p up f p
  | none=>i
noncomputable def g8 (up:List Nat) (i:Nat):Nat:=a5p up i i
noncomputable def c0r (C:A0) (up:List Nat) (i:Nat):Prop:=∃ xs:List Nat,C (.lot i)=some (.list (iL xs))/\xs.Nodup/\(∀ j∈xs,j < up.length/\g8 up j=g8 up i)/\(g8 up i=i->∀ j,j < up.length->g8 up j=i->j∈xs)
structure EG (lay:Slot->Nat) (C:A0) (st:St):Prop extends Hd lay C where
 c4:C (.eg 4)=some (.list (st.nd.map s9))
 c5:∃ ep,C (.eg 5)=some (.dict (a09 st.nd) ep)
 c6:∃ l:List Int,C (.eg 6)=some (.list (l.map f7.int))/\l.length=st.nd.length
 c7:∃ l:List Int,C (.eg 7)=some (.list (l.map f7.int))/\l.length=st.nd.length
 c10:C (.eg 10)=some (.list (iL st.up))
 c11:C (.eg 11)=some (.list (S7 lay st.up.length))
 cl:∀ i,i < st.up.length->c0r C st.up i
 c12:∃ xs,C (.eg 12)=some (.list xs)/\xs.length=st.m
 c13:∃ xs,C (.eg 13)=some (.list xs)/\xs.length=st.e
 c14:∃ xs,C (.eg 14)=some (.list xs)/\xs.length=st.f
 c15:∃ ep,C (.eg 15)=some (.dict (knV st.kn) ep)
 c16:∃ ep,C (.eg 16)=some (.dict (Z4 lay st.us) ep)
 cu:∀ p∈st.us,C (.us p.1)=some (.list (iL p.2))
 c17:C (.eg 17)=some (.list (iL st.wt))
theorem b0A (u:Up up):∀ f i,i<=f->a5p up f i=a5p up i i:=by
 intro f;induction f using Nat.strongRecOn with
 | ind f B =>
  intro i q;cases f with
  | zero =>
   obtain rfl:i=0:=by exact Nat.eq_zero_of_le_zero q
   rfl
  | succ f =>
   cases i with
   | zero =>
    unfold a5p;cases e:up[0]? with
    | none=>rfl
    | some p =>
     have:=u.le 0 p e;clear e;obtain rfl:p=0:=by exact Nat.eq_zero_of_le_zero this
     simp
   | succ i =>
    unfold a5p;cases e:up[i+1]? with
    | none=>rfl
    | some p =>
     dsimp only;by_cases z:p=i+1
     ·rw[(c58 z)];rw[(c58 z)];rfl
     ·have:=u.le _ p e;rw[(c57 z)];rw[(c57 z)];rw[(B f (c5J f) p (c2o q z this))];by_cases w:i < f
      ·rw[(B i (zo2 w) p (c0c z this))];rfl
      ·obtain rfl:i=f:=by exact Nat.eq_of_lt_succ_of_not_lt q w
       rw[(B i (c5J _) p (c0c z this))];rfl
theorem A3 (u:Up up) {i p:Nat} (e:up[i]?=some p):g8 up i=if p=i then i else g8 up p:=by
 unfold g8;cases i with
 | zero =>
  have:=u.le 0 p e;clear e;obtain rfl:p=0:=by exact Nat.eq_zero_of_le_zero this
  rfl
 | succ i =>
  conv=>lhs;unfold a5p
  rw[e];dsimp only;by_cases z:p=i+1
  ·rw[(c58 z)];rw[(c58 z)];rfl
  ·have:=u.le _ p e;rw[(c57 z)];rw[(c57 z)];rw[(b0A u i p (c0c z this))];rfl
theorem b1c {x:Nat} (h:l[i]?=some x):(iL l)[i]?=some (.int x):=by
 unfold iL;rw[c5x];rw[h];rfl
theorem n0 (l:List Nat):(iL l).length=l.length:=c5q ..
theorem b8d {n:Nat} {lay:Slot->Nat} {C:A0} {st:St} (L:J1 lay C H) (E:EG lay C st) (u:Up st.up) (l:∀ p∈st.up,p < st.up.length) (m:st.up.length<=n8) (ha:a < st.up.length) (q:Q (.int (g8 st.up a:Nat)) H) :
  (j3 FT (n+1)).call D9 I9 [.ref (lay (.eg 8)),.int (a:Nat)] H Q:=by
 refine o8 rfl rfl ?_;have o:=L.at_ _ _ E.c8;have s:=L.at_ _ _ E.c9;have v:=L.at_ _ _ E.c10;have O:∀ {r:En} {i p:Nat} {Q:l8},r f8=some (.ref (lay (.eg 8)))->r n_a=some (.int (i:Nat))->st.up[i]?=some p->Q (.int (p:Nat)) H->m9 (n7 (d6 f8) w8) (d6 n_a) (j3 FT n) r H Q:=λU B f q =>
  B7 (a5C (f6 U (a79 o s rfl (f6 B (I4 v (by rw[(n0 ..)];exact m) (b1c f) q)))))
 refine f9 (a5t (λk Z b=>b=H/\Z f8=some (.ref (lay (.eg 8)))/\Z n_a=some (.int (k:Nat))/\k < st.up.length/\g8 st.up k=g8 st.up a) a ⟨rfl,rfl,rfl,ha,rfl⟩ λk Z b c W g=>?_);refine a59 c λw U B j d=>?_;clear c v s o L;subst w;have J:=c5s j;generalize st.up[k]=p at J;have Y:=A3 u J;refine t0 (O U B J (f6 B (b0k ⟨λt=>?_,λt=>?_⟩)))
 ·have V:p≠k:=λe=>by clear Y J g d j B;subst e;simp at t
  rw [if_neg V] at Y;have:=u.le _ _ J;exact f9 (t7 (O U B J (y0 (g p _ _ (by exact c6v this V) ⟨rfl,U,rfl,l p (c5p J),Y.symm.trans d⟩))))
 ·have h:p=k:=by
   have t:decide ((p:Int)=(k:Nat))=true:=by simpa using t
   have:=c5y t;exact zo6 this
  rw [if_pos h] at Y;refine f9 (A4 (f6 B ?_));show Q _ _;refine u7 Y ?_;rw[d];exact q
theorem E9 (u:Up up) (B:∀ p∈up,p < up.length):∀ a,a < up.length->g8 up a < up.length:=by
 intro a;induction a using Nat.strongRecOn with
 | ind a J =>
  intro q;have e:=c5s q;rw[(A3 u e)]
  split
  ·exact q
  ·rename_i h;have:=u.le _ _ e;exact J _ (b6d h this) (B _ (c5p e))
theorem b1C (u:Up up):∀ a,a < up.length->g8 up a<=a:=by
 intro a;induction a using Nat.strongRecOn with
 | ind a J =>
  intro q;have e:=c5s q;rw[(A3 u e)]
  split
  ·exact c5w _
  ·rename_i h;have:=u.le _ _ e;have B:=J up[a] (b6d h this) (by exact c5v this q)
   exact c5r B this
theorem I3 (u:Up up):∀ a,a < up.length->up[g8 up a]?=some (g8 up a):=by
 intro a;induction a using Nat.strongRecOn with
 | ind a B =>
  intro q;have e:=c5s q;rw[(A3 u e)]
  split
  ·rename_i h;rw[e];rw[h];rfl
  ·rename_i h;have:=u.le _ _ e;exact B _ (b6d h this) (by exact c5v this q)
theorem a7W (u:Up up) (h:k < g):Up (up.set g k):=⟨λi p e=>by
 rw [List.getElem?_set] at e
 split at e
 ·rename_i z
  split at e
  ·have q:=B8 e;clear e;subst q;exact c5r (c6f h) (c5K z)
  ·cases e
 ·exact u.le i p e⟩
theorem b89 (l:∀ p∈up,p < up.length) (h:k < up.length):∀ p∈up.set g k,p < (up.set g k).length:=λp B=>by
 rw[c6B];rcases List.mem_or_eq_of_mem_set B with q | rfl
 ·exact l p q
 ·exact h
theorem a3o (u:Up up) (l:∀ p∈up,p < up.length) (U:up[k]?=some k) (J:up[g]?=some g) (h:k < g):∀ a,a < up.length->g8 (up.set g k) a=if g8 up a=g then k else g8 up a:=by
 have Y:g < up.length:=(c6C J).1;have Z:g8 (up.set g k) k=k:=by
  have:(up.set g k)[k]?=some k:=by refine b9 (List.getElem?_set_ne (by exact Ne.symm (c5Q h))) ?_;exact U
  rw[(A3 (a7W u h) this)];rw[(c58 rfl)];rfl
 intro a;induction a using Nat.strongRecOn with
 | ind a V =>
  intro O;have e:=c5s O;by_cases z:a=g
  ·clear V;subst z;have B:(up.set a k)[a]?=some k:=by refine b9 (List.getElem?_set_self Y) ?_;rfl
   rw[(A3 (a7W u h) B)];rw[(c57 (by exact c5Q h))];rw[Z];rw[(A3 u J)];rw[(c58 rfl)];rw[(c58 rfl)];rfl
  ·have B:(up.set g k)[a]?=some up[a]:=by refine b9 (List.getElem?_set_ne (λq=>z q.symm)) ?_;exact e
   rw[(A3 (a7W u h) B)];rw[(A3 u e)];by_cases w:up[a]=a
   ·rw[(c58 w)];rw[(c58 w)];rw[(c57 z)];rfl
   ·have:=u.le _ _ e;rw[(c57 w)];rw[(c57 w)];exact V _ (b6d w this) (l _ (c5p e))
theorem a0b (u:Up up) (ha:a < up.length):g8 up (g8 up a)=g8 up a:=by
 rw[(A3 u (I3 u a ha))];rw[(c58 rfl)];rfl
theorem a0c (u:Up up) (h:up[a]?=some a):g8 up a=a:=by rw[(A3 u h)];rw[(c58 rfl)];rfl
theorem a3A (u:Up up):Up (up++[up.length]):=⟨λi p e=>by
 by_cases h:i < up.length
 ·rw [List.getElem?_append_left h] at e;exact u.le i p e
 ·rw [List.getElem?_append_right (zo7 h)] at e;have:=c5p e;have:=c6I this;exact Nat.not_lt.mp (this▸h)⟩
theorem b51 (h:a < up.length):(up++[up.length])[a]?=up[a]?:=c6s h
theorem a7V:(up++[up.length])[up.length]?=some up.length:=by simp
theorem U9 (u:Up up) (l:∀ p∈up,p < up.length):∀ a,a < up.length->g8 (up++[up.length]) a=g8 up a:=by
 intro a;induction a using Nat.strongRecOn with
 | ind a B =>
  intro q;have e:=c5s q;rw[(A3 (a3A u) ((b51 q).trans e))];rw[(A3 u e)]
  split
  ·rfl
  ·rename_i h;have:=u.le _ _ e;exact B _ (b6d h this) (l _ (c5p e))
theorem a0o {α:Type} {l m:List α} (h:l.Nodup) (s:∀ a∈l,a∈m):l.length<=m.length:=by
 classical
 induction l generalizing m with
 | nil=>exact c5B _
 | cons a l J =>
  rw [List.nodup_cons] at h;have q:=s a (c5u);have:=J (m:=m.erase a) h.2 λb B=>(List.mem_erase_of_ne λe=>h.1 (by refine u7 e ?_;exact B)).mpr (s b (c5t _ B))
  rw [List.length_erase_of_mem q] at this;have:=List.length_pos_of_mem q;rw[c6d];exact c1v ‹_› this
theorem I6 {n:Nat} (h:l.Nodup) (s:∀ a∈l,a < n):l.length<=n:=by
 have:=a0o h (m:=List.range n) λa q=>c6N (s a q);rwa [c6b] at this
section
variable {n:Nat}
theorem C6 {m c:Nm} {q:Lv} {a d:Nat} {fs:List (Nm×f7)} (V:(FT c m).isSome=true) (J:H a=some (.inst c d)) (O:H d=some (.ns fs)) (U:a0i fs m=none)
  (Y:∀ Q:l8,Q (.ref a) H->e (j3 FT n) r H Q) (h:q (j3 FT n) r H λvs B=>(j3 FT n).call c m (.ref a :: vs) B Q):l4 e m q (j3 FT n) r H Q :=
 Y _ ⟨.inst c,⟨d,fs,⟨a,rfl,J,O⟩,U,by rw[(a54 ..)];exact V⟩,h⟩
theorem a5D {e i:Ev} (h:e K r H λv q=>i K r q λw B=>a7P v w B Q):a0f e i K r H Q:=h
theorem a1z {l:List f7} (B:l.length+1<=n8) (q:Q (.tup l) H):a7P (.tup (v :: l)) (.int 1) H Q:=⟨v :: l,1,rfl,rfl,by exact Int.le_refl 1,by simp;exact Int.le_add_of_nonneg_left (c5N _),B,q⟩
structure Ok (st:St):Prop where
 up:Up st.up
 lt:∀ p∈st.up,p < st.up.length
 small:st.up.length<=17
 nd:st.nd.length<=17
 two:∀ x∈st.nd,x.2.length<=2
variable {lay:Slot->Nat}{C:A0}{st:St}
theorem y7 (h:k<=17):k<=n8:=c5r h (by decide)
theorem O4 (L:J1 lay C H) (E:Hd lay C) (B:∀ Q:l8,Q (.ref (lay (.eg 0))) H->e K r H Q) (h:a0i (a7e lay) x=some v) (q:Q v H):n7 e x K r H Q :=
 a5C (B _ (a79 (L.at_ _ _ E.c0) (L.at_ _ _ E.c1) h q))
theorem a1L (L:J1 lay C H) (E:Hd lay C) (B:∀ Q:l8,Q (.ref (lay (.eg 2))) H->e K r H Q) (h:a0i (a9F lay) x=some v) (q:Q v H):n7 e x K r H Q :=
 a5C (B _ (a79 (L.at_ _ _ E.c2) (L.at_ _ _ E.c3) h q))
theorem a2h (L:J1 lay C H) (E:Hd lay C) (B:∀ Q:l8,Q (.ref (lay (.eg 8))) H->e K r H Q) (h:a0i (b8x lay) x=some v) (q:Q v H):n7 e x K r H Q :=
 a5C (B _ (a79 (L.at_ _ _ E.c8) (L.at_ _ _ E.c9) h q))
theorem o9 (h:r x=some v):∀ Q:l8,Q v H->d6 x K r H Q:=λ_ q=>⟨v,h,q⟩
theorem b8y (L:J1 lay C H) (E:EG lay C st) (o:Ok st) (q:Q (.int (st.up.length:Nat)) H):(j3 FT (n+1)).call D9 a3U [.ref (lay (.eg 8))] H Q:=by
 refine o8 rfl rfl (f9 (A4 (M0 (d8 (a2h L E.toHd (o9 rfl) rfl (i8 (D8 (L.at_ _ _ E.c10) ?_ ?_)))))))
 ·rw[(n0 ..)];exact y7 o.small
 ·rw[(n0 ..)];exact q
theorem a40 (L:J1 lay C H) (E:EG lay C st) (o:Ok st) (ha:a < st.up.length) (q:Q (.int (g8 st.up a:Nat)) H):(j3 FT (n+2)).call w4 I9 [.ref (lay (.eg 0)),.int (a:Nat)] H Q:=by
 refine o8 rfl rfl (f9 (A4 (C6 (rfl) (L.at_ _ _ E.c8) (L.at_ _ _ E.c9) rfl (λ_ q=>O4 L E.toHd (o9 rfl) rfl q) (d8 (f6 rfl (i8 (b8d L E o.up o.lt (y7 o.small) ha ?_)))))));exact q
theorem bop (L:J1 lay C H) (E:EG lay C st) (o:Ok st) {x:G7} (B:st.nd[i]?=some x) (q:Q (.str x.1) H):(j3 FT (n+1)).call O5 a18 [.ref (lay (.eg 2)),.int (i:Nat)] H Q:=by
 refine o8 rfl rfl (f9 (A4 (B7 (B7 (a1L L E.toHd (o9 rfl) rfl (f6 rfl (I4 (x:=s9 x) (L.at_ _ _ E.c4) ?_ ?_ (m3 (a7h (i:=0) ?_ rfl ?_)))))))))
 ·rw[(c5q ..)];exact y7 o.nd
 ·rw[c5x];rw[B];rfl
 ·show (iL x.2).length+1<=n8;have:=o.two x (c5p B);rw[(n0 ..)];unfold n8;exact zo1 this
 ·exact q
theorem c0v (L:J1 lay C H) (E:EG lay C st) (o:Ok st) {x:G7} (B:st.nd[i]?=some x) (q:Q (.tup (iL x.2)) H):(j3 FT (n+1)).call O5 n6 [.ref (lay (.eg 2)),.int (i:Nat)] H Q:=by
 refine o8 rfl rfl (f9 (A4 (a5D (B7 (a1L L E.toHd (o9 rfl) rfl (f6 rfl (I4 (x:=s9 x) (L.at_ _ _ E.c4) ?_ ?_ (m3 (a1z (v:=.str x.1) ?_ ?_)))))))))
 ·rw[(c5q ..)];exact y7 o.nd
 ·rw[c5x];rw[B];rfl
 ·have:=o.two x (c5p B);rw[(n0 ..)];unfold n8;exact zo1 this
 ·exact q
theorem b2f {α β:Type} (l:List α) (g:α->List β) (i:Nat):((l.take i).flatMap g).length<=(l.flatMap g).length:=by
 have:=c5z List.length (c5z (List.flatMap g) (List.take_append_drop i l));rw [List.flatMap_append,List.length_append] at this;exact Nat.le.intro this
theorem B1 {α β:Type} (l:List α) (g:α->β):(l.flatMap λa=>[g a])=l.map g:=(List.map_eq_flatMap ..).symm
noncomputable def a71 (it:It) (K:Calls) (r:En) (H:Hp) (L:List f7):Prop:=∀ R:Src->Hp->Prop,(∀ src H1,m4 H H1->(∀ H',m4 H1 H'->∀ i,src.next H' i L[i]?)->R src H1)->it.iv K r H R
end
variable {α:Type}{l:List α}{elt:c6S}{ifs:List c6S}{g:α->List f7}{f:α->f7}
theorem O0 {turn:f7->Hp->(List f7->Hp->Prop)->Prop} {src:Src} {U:Hp} {Q:List f7->Hp->Prop} (c:∀ B,m4 U B->∀ i,src.next B i (l.map f)[i]?) (b:(l.flatMap g).length<=n8)
  (h:∀ a∈l,∀ B,m4 U B->∀ P:List f7->Hp->Prop,(∀ O,m4 B O->P (g a) O)->turn (f a) B P) (q:∀ B,m4 U B->Q (l.flatMap g) B):∃ n,a01 turn src n 0 [] U Q:=by
 refine ⟨(l.map f).length+1,a6V (l.map f) (λi acc H=>m4 U H/\acc=(l.take i).flatMap g) (λi acc H J=>c H J.1 i) (λacc H J=>?_) (λi v acc H Y J=>?_) _ 0 [] U (c5J _) (c5B _) ⟨.refl _,rfl⟩⟩
 ·rw[J.2];rw[(c5q ..)];rw[c6n];exact q H J.1
 ·rw [List.getElem?_map] at Y;refine i9 (c6G Y) λa V d=>?_;clear Y;subst d;rw[J.2];refine ⟨c5r (b2f l g i) b,λW Z=>h a (c5p V) H J.1 W λO k=>Z _ _ ⟨J.1.trans k,?_⟩⟩;rw[c6k];rw[V];rw[List.flatMap_append];exact c5z (_++·) (c6o _).symm
theorem X5 {elt:Ev} {ifs:Cv} (b:(l.flatMap g).length<=n8) (O:a71 it K r H (l.map f))
  (h:∀ a∈l,∀ B,m4 H B->∀ P:List f7->Hp->Prop,(∀ J,m4 B J->P (g a) J)->a2g elt ifs K (r.set x (f a)) B P)
  (q:∀ B a,m4 H B->B a=none->Q (.ref a) (B.set a (.list (l.flatMap g)))):t8 elt [x] true it ifs K r H Q :=
 O _ λsrc e V c=>O0 c b (λv d B U P Y=>⟨_,D6,h v d B (V.trans U) P Y⟩) λB U a Z=>q B a (V.trans U) Z
variable {l:List Nat}
theorem a1p {l:List f7} (J:∀ Q:l8,(∀ q,m4 H q->Q (.tup l) q)->e K r H Q):a71 (w7 e) K r H l:=λR B=>J _ λq k=>.inl ⟨l,rfl,B _ q k λ_ _ _=>rfl⟩
theorem b4p {l:List f7} (J:∀ Q:l8,(∀ a q,m4 H q->q a=some (.list l)->Q (.ref a) q)->e K r H Q):a71 (w7 e) K r H l :=
 λR B=>J _ λa q k h=>.inr (.inr (.inl ⟨a,l,rfl,h,B _ q k λU O i=>⟨l,O _ _ h,rfl⟩⟩))
theorem a2b (k:Nat):C7 0 (k:Nat)=iL (List.range k):=by
 unfold C7 iL;rw[(Int.sub_zero ..)];rw[(Int.toNat_natCast ..)];exact c5C λi _=>c5z f7.int (Int.zero_add _)
theorem b85 {e:Lv} (B:k<=n8) (O:∀ Q:List f7->Hp->Prop,(∀ q,m4 H q->Q [.int (k:Nat)] q)->e K r H Q):a71 (N4 e) K r H (iL (List.range k)) :=
 λR J=>O _ λq U=>.inl ⟨k,rfl,by have:=B;exact c25,by have:=B;exact c6Q B,J _ q U λ_ _ i=>c5z (·[i]?) (a2b k).symm⟩
theorem G4 {elt:Ev} {P:List f7->Hp->Prop} (h:elt K r H λx q=>P [x] q):a2g elt y9 K r H P:=⟨λ_=>h,λe=>nomatch e⟩
theorem a5A (h:H a=some (.list xs)) (B:xs.length<=n8) (q:Q (.tup xs) H):biW .tuple [.ref a] H Q:=⟨.ref a,xs,rfl,.inr ⟨a,rfl,h⟩,B,q⟩
theorem b1O (B:xs.length<=n8) (q:Q (.tup xs) H):biW .tuple [.tup xs] H Q:=⟨.tup xs,xs,rfl,.inl rfl,B,q⟩
theorem a7t (h:v∈iL l):∃ i,i∈l/\v=.int (i:Nat):=by
 refine i9 (c6D h) λi q B=>?_;clear h;subst B;exact ⟨i,q,rfl⟩
section
variable {g n:Nat}{lay:Slot->Nat}{C:A0}{st:St}
noncomputable def x8 (up:List Nat) (x:G7):G7:=(x.1,x.2.map (g8 up))
theorem b8e (L:J1 lay C H) (E:EG lay C st) (o:Ok st) (h:Nat.beq f8 x=false) (c:r f8=some (.ref (lay (.eg 0)))) (b:l.length<=n8) (Z:∀ k∈l,k < st.up.length)
  (O:a71 it (j3 FT (n+2)) r H (iL l)) (q:∀ B a,m4 H B->B a=none->Q (.ref a) (B.set a (.list (iL (l.map (g8 st.up)))))):t8 (l4 (d6 f8) I9 (d7 (d6 x) h9)) [x] true it y9 (j3 FT (n+2)) r H Q:=by
 have e:(l.flatMap λi=>[f7.int (g8 st.up i:Nat)])=iL (l.map (g8 st.up)):=by rw[(B1 ..)];unfold iL;rw[c55];rfl
 refine X5 (l:=l) (f:=λi=>.int (i:Nat)) (g:=λi=>[.int (g8 st.up i:Nat)]) (by rw[(B1 ..)];rw[(c5q ..)];exact b) O (λi Y B k P V=>?_) (by rw[e];exact q)
 have d:(r.set x (.int (i:Nat))) f8=some (.ref (lay (.eg 0))):=by unfold En.set;rw[h];exact c
 have U:(r.set x (.int (i:Nat))) x=some (.int (i:Nat)):=by unfold En.set;rw[(Nat.beq_refl ..)];rfl
 have J:=L.keep k;exact G4 (C6 rfl (J.at_ _ _ E.c0) (J.at_ _ _ E.c1) rfl (o9 d) (d8 (f6 U (i8 (a40 J E o (Z i Y) (V B (.refl _)))))))
theorem b8h (L:J1 lay C H) (E:EG lay C st) (o:Ok st) (Y:∀ x∈st.nd,∀ k∈x.2,k < st.up.length) {x:G7} (J:st.nd[i]?=some x) (q:∀ O,m4 H O->Q (s9 (x8 st.up x)) O):(j3 FT (n+3)).call w4 B2 [.ref (lay (.eg 0)),.int (i:Nat)] H Q:=by
 have B:=o.two x (c5p J);refine o8 rfl rfl (f9 (A4 (C5 (D2 (d8 (C6 (rfl) (L.at_ _ _ E.c2) (L.at_ _ _ E.c3) rfl (λ_ q=>O4 L E.toHd (o9 rfl) rfl q) (d8 (f6 rfl (i8 (bop L E o J (i8 (M0 (d8 (b8e (n:=n) (l:=x.2) L E o rfl rfl ?_ (Y x (c5p J)) (a1p λR U=>C6 (rfl) (L.at_ _ _ E.c2) (L.at_ _ _ E.c3) rfl (λ_ q=>O4 L E.toHd (o9 rfl) rfl q) (d8 (f6 rfl (i8 (c0v L E o J (U H (.refl _))))))) λO a k V=>i8 (a5A l0 ?_ (a4G ?_ ?_))))))))))))))))
 ·unfold n8;exact zo0 B
 ·rw[(n0 ..)];rw[(c5q ..)];unfold n8;exact zo0 B
 ·rw[(n0 ..)];rw[(c5q ..)];show 1+_<=_;unfold n8;exact zo8 B
 ·exact q _ (k.trans (.new V))
variable {as:Lv}
theorem I5 (J:∀ Q:l8,Q (.ref a) H->e K r H Q) (B:H a=some (.list xs)) (h:as K r H λvs q=>S8 K (.lst .append) (.ref a) v6 vs q Q):l4 e v6 as K r H Q :=
 J _ ⟨.lst .append,⟨⟨a,xs,rfl,B⟩,rfl⟩,h⟩
theorem a5a (J:∀ Q:l8,Q (.ref a) H->e K r H Q) (B:H a=some (.list xs)) (h:as K r H λvs q=>S8 K (.lst .extend) (.ref a) W1 vs q Q):l4 e W1 as K r H Q :=
 J _ ⟨.lst .extend,⟨⟨a,xs,rfl,B⟩,rfl⟩,h⟩
theorem b4S (J:∀ Q:l8,Q (.ref a) H->e K r H Q) (B:H a=some (.list xs)) (h:as K r H λvs q=>S8 K (.lst .pop) (.ref a) a2J vs q Q):l4 e a2J as K r H Q :=
 J _ ⟨.lst .pop,⟨⟨a,xs,rfl,B⟩,rfl⟩,h⟩
theorem b9a (J:∀ Q:l8,Q (.ref a) H->e K r H Q) (B:H a=some (.dict es ep)) (h:as K r H λvs q=>S8 K (.dct .pop) (.ref a) a2J vs q Q):l4 e a2J as K r H Q :=
 J _ ⟨.dct .pop,⟨⟨a,es,ep,rfl,B⟩,rfl⟩,h⟩
theorem b4T (J:∀ Q:l8,Q (.ref a) H->e K r H Q) (B:H a=some (.dict es ep)) (h:as K r H λvs q=>S8 K (.dct .setdefault) (.ref a) K4 vs q Q):l4 e K4 as K r H Q :=
 J _ ⟨.dct .setdefault,⟨⟨a,es,ep,rfl,B⟩,rfl⟩,h⟩
theorem G1 {ys:List f7} (h:H a=some (.list ys)) (B:ys.length<=n8) (q:Q .none (H.set a (.list (ys++[v])))):S8 K (.lst .append) (.ref a) v6 [v] H Q:=⟨a,ys,rfl,h,v,rfl,B,q⟩
theorem a4F {b:Nat} {xs ys:List f7} (h:H a=some (.list xs)) (J:H b=some (.list ys)) (B:b≠a) (O:xs.length+ys.length<=n8) (q:Q .none (H.set a (.list (xs++ys)))):S8 K (.lst .extend) (.ref a) W1 [.ref b] H Q:=⟨a,xs,rfl,h,b,ys,rfl,B,J,O,q⟩
theorem b3t (h:H a=some (.list xs)) (B:xs.length<=n8) (J:xs.getLast?=some v) (q:Q v (H.set a (.list xs.dropLast))):S8 K (.lst .pop) (.ref a) a2J [] H Q:=⟨a,xs,rfl,h,v,rfl,B,J,q⟩
theorem b8J {k v:f7} (h:H a=some (.dict es ep)) (B:J6 es k) (J:es.length<=n8) (O:B4 es k=some v) (q:Q v (H.set a (.dict (a4i es k) (ep+1)))):S8 K (.dct .pop) (.ref a) a2J [k] H Q:=⟨a,es,ep,rfl,h,k,v,rfl,B,J,O,q⟩
theorem b8I {k d:f7} (h:H a=some (.dict es ep)) (B:J6 es k) (q:Q ((B4 es k).getD d) H):S8 K (.dct .get) (.ref a) b8l [k,d] H Q:=⟨a,es,ep,rfl,h,k,d,rfl,B,q⟩
theorem b3u {k d:f7} (h:H a=some (.dict es ep)) (q:J6 es k) (B:es.length<=n8) (J:∀ v,B4 es k=some v->Q v H) (O:B4 es k=none->Q d (H.set a (.dict (es++[(k,d)]) (ep+1)))):S8 K (.dct .setdefault) (.ref a) K4 [k,d] H Q :=
 ⟨a,es,ep,rfl,h,k,d,rfl,q,B,J,O⟩
theorem a6Z:Slot.eg k≠.lot i:=λe=>nomatch e
theorem K2:Slot.lot i≠.eg k:=λe=>nomatch e
theorem N1:Slot.us i≠.eg k:=λe=>nomatch e
theorem a6a:Slot.eg k≠.us i:=λe=>nomatch e
theorem b55:Slot.us i≠.lot k:=λe=>nomatch e
theorem b0e:Slot.lot i≠.us k:=λe=>nomatch e
structure O9 (lay:Slot->Nat) (C:A0) (lay':Slot->Nat) (C':A0):Prop where
 eg:∀ k,lay' (.eg k)=lay (.eg k)
 lay:∀ k,lay' (.ow k)=lay (.ow k)
 con:∀ k,C' (.ow k)=C (.ow k)
theorem O9.refl (lay:Slot->Nat) (C:A0):O9 lay C lay C:=⟨λ_=>rfl,λ_=>rfl,λ_=>rfl⟩
theorem O9.trans {O U V:Slot->Nat} {q B J:A0} (x:O9 O q U B) (y:O9 U B V J):O9 O q V J:=⟨λk=>(y.eg k).trans (x.eg k),λk=>(y.lay k).trans (x.lay k),λk=>(y.con k).trans (x.con k)⟩
variable {A:Around}{D:Addr}
noncomputable def St.made (st:St):St:={st with up:=st.up++[st.up.length]}
theorem a1o:iL l++[f7.int (i:Nat)]=iL (l++[i]):=by unfold iL;rw[c54];rfl
theorem c1c (L:J1 lay C H) (E:EG lay C st) (o:Ok st) (q:∀ V f r,J1 V f r->EG V f st.made->O9 lay C V f->Q (.int (st.up.length:Nat)) r):(j3 FT (n+1)).call D9 b0i [.ref (lay (.eg 8))] H Q:=by
 have J:st.up.length<=n8:=y7 o.small;have B:(S7 lay st.up.length).length=st.up.length:=by unfold S7;rw[(c5q ..)];rw[c6b];rfl
 have Z:=L.put (o:=.list (iL (st.up++[st.up.length]))) E.c10;have g:=E.toHd.upd (s:=.eg 10) (o:=.list (iL (st.up++[st.up.length]))) rfl;have Y:(upd C (.eg 10) (.list (iL (st.up++[st.up.length])))) (.eg 11)=some (.list (S7 lay st.up.length)):=(j5 (by decide)).trans E.c11
 refine o8 rfl rfl (f9 (F0 (I5 (λ_ q=>a2h L E.toHd (o9 rfl) rfl q) (L.at_ _ _ E.c10) (d8 (M0 (d8 (a2h L E.toHd (o9 rfl) rfl (i8 (D8 (L.at_ _ _ E.c10) ?_ (i8 (G1 (L.at_ _ _ E.c10) ?_ ?_)))))))))))
 ·rw[(n0 ..)];exact J
 ·rw[(n0 ..)];exact J
 rw[(n0 ..)];rw[a1o];refine f9 (F0 (I5 (λ_ q=>a2h Z g (o9 rfl) rfl q) (Z.at_ _ _ Y) (d8 (a0x (d8 (M0 (d8 (a2h Z g (o9 rfl) rfl (i8 (D8 (Z.at_ _ _ Y) ?_ (i8 λa G=>?_)))))))))))
 ·rw[B];exact J
 rw[B];have t:=Z.take (s:=.lot st.up.length) (o:=.list [.int (st.up.length:Nat)]) G;have x:=g.take (s:=.lot st.up.length) (o:=.list [.int (st.up.length:Nat)]) (a:=a) rfl;have k:S7 (M6 lay (.lot st.up.length) a) st.up.length=S7 lay st.up.length:=by
  refine c5C λi c=>?_;(rewrite [Q2 λe=>?_];try rfl);injection e with e
  exact c59 (c6O c) (by exact e▸c5U _)
 have h:=t.put (s:=.eg 11) (o:=.list (S7 (M6 lay (.lot st.up.length) a) (st.up.length+1))) ((j5 a6Z).trans Y);have m:=x.upd (s:=.eg 11) (o:=.list (S7 (M6 lay (.lot st.up.length) a) (st.up.length+1))) rfl;refine i8 (G1 (t.at_ (.eg 11) _ ((j5 a6Z).trans Y)) (by rw[B];exact J) ?_)
 have l:S7 lay st.up.length++[.ref a]=S7 (M6 lay (.lot st.up.length) a) (st.up.length+1):=by
  unfold S7;rw[List.range_succ];rw[c54];show _=S7 _ _++[f7.ref (M6 _ _ _ _)];rw[k];rw[a2x];rfl
 rw[l];refine f9 (A4 (C5 (M0 (d8 (a2h h m (o9 rfl) rfl (i8 (D8 (h.at_ (.eg 10) (.list (iL (st.up++[st.up.length]))) ?_) ?_ (m3 (sub_int ?_)))))))))
 ·exact (j5 (by decide)).trans ((j5 a6Z).trans C0)
 ·rw[(n0 ..)];rw[c50];have:=o.small;show st.up.length+1<=n8;unfold n8;exact c5v this (c5o rfl)
 rw[(n0 ..)];rw[c50];have y:(((st.up.length+[st.up.length].length:Nat):Int) - 1)=(st.up.length:Nat):=by
  show ((st.up.length+1:Nat):Int) - 1=_;exact Int.sub_eq_iff_eq_add.mpr rfl
 rw[y];refine q _ _ _ h ?_ ⟨λ_=>rfl,λ_=>rfl,λ_=>rfl⟩;exact {m with
  c4:=E.c4,c5:=E.c5,c6:=E.c6,c7:=E.c7
  c10:=rfl
  c11:=by rw[(show (St.made st).up.length=st.up.length+1 from c50)];exact C0
  cl:=λi c=>by
   by_cases z:i=st.up.length
   ·subst z;refine ⟨[st.up.length],(j5 K2).trans C0,List.nodup_cons.mpr ⟨c5P,c6r⟩,λj O=>?_,λ_ j O e=>?_⟩
    ·rw[(c6I O)];exact ⟨c,rfl⟩
    ·have O:j < (st.up++[st.up.length]).length:=O;have e:g8 (st.up++[st.up.length]) j=st.up.length:=e;rw [List.length_append] at O;refine c6M (Decidable.byContradiction λM=>?_);have U:j < st.up.length:=c6v (c5L O) M;rw [U9 o.up o.lt j U] at e;exact c59 (E9 o.up o.lt j U) (by rw[e];exact c5U _)
   ·rw [show (St.made st).up.length=st.up.length+1 from List.length_append] at c;have d:i < st.up.length:=c6v (c5L c) z;refine J9 (E.cl i d) λN A K D F=>?_;have v:=U9 o.up o.lt i d;refine ⟨N,(j5 K2).trans ((j5 (λe=>by injection e with e;exact z e)).trans ((j5 K2).trans A)),K,λj O=>?_,λe j O u=>?_⟩
    ·refine eA (D j O) λa b=>⟨?_,(U9 o.up o.lt j a).trans (b.trans v.symm)⟩;show j < (st.up++[st.up.length]).length;rw[c50];exact c6y a
    ·have O:j < (st.up++[st.up.length]).length:=O;rw [List.length_append] at O;by_cases w:j=st.up.length
     ·clear O;subst w;exact c59 ((a0c (a3A o.up) a7V).symm.trans u).symm z
     ·have U:j < st.up.length:=c6v (c5L O) w;exact F (v.symm.trans e) j U ((U9 o.up o.lt j U).symm.trans u)
  c12:=E.c12,c13:=E.c13,c14:=E.c14,c15:=E.c15,c16:=E.c16
  cu:=λp I=>(j5 N1).trans ((j5 b55).trans ((j5 N1).trans (E.cu p I)))
  c17:=E.c17}
theorem c04 (x y:Int):N0 [x,y]=[min x y,max x y]:=by
 unfold N0;have e:[x,y].mergeSort (λa b=>decide (a<=b))=if x<=y then [x,y] else [y,x]:=by
  simp [List.mergeSort,List.MergeSort.Internal.splitInTwo,List.merge]
 rw[e];by_cases h:x<=y
 ·rw[(c58 h)];rw[(Int.min_eq_left h)];rw[(Int.max_eq_right h)];rfl
 ·rw[(c57 h)];rw[(Int.min_eq_right (by exact Int.le_of_not_le h))];rw[(Int.max_eq_left (by exact Int.le_of_not_le h))];rfl
theorem b1j {Q:F7} (q:(v=.none->Q true H)/\(v≠.none->Q false H)):P0 .is v .none H Q:=by
 refine .inl ⟨rfl,?_⟩;by_cases h:v=.none
 ·have e:=q.1 h;rwa [<- @decide_eq_true _ (Classical.propDecidable _) h] at e
 ·have e:=q.2 h;rwa [<- @decide_eq_false _ (Classical.propDecidable _) h] at e
theorem b5J {e i:Ev} {Q:a2F} (B:∀ Q:l8,Q (.ref a) H->e K r H Q) (J:∀ Q:l8,Q (.int (k:Nat)) H->i K r H Q) (h:H a=some (.list xs)) (O:k < xs.length) (U:xs.length<=n8) (q:Q r (H.set a (.list (xs.set k v)))):a0W e i K v r H Q :=
 B _ (J _ (.inl ⟨a,xs,k,rfl,h,rfl,c5N _,by exact c6P O,U,q⟩))
theorem a3g {x y:Nm} {v w:f7} {u:f7} {Q:a2F} (h:a1E H u [v,w]) (q:Q ((r.set x v).set y w) H):K1 [l5 x,l5 y] K u r H Q:=⟨[v,w],h,rfl,v,[w],rfl,w,[],rfl,rfl,q⟩
theorem b50 (L:J1 lay C H) (E:EG lay C st) (o:Ok st) (ha:a < st.up.length) (q:Q (.int (g8 st.up a:Nat)) H):(j3 FT (n+1)).call D9 I9 [.ref (lay (.eg 8)),.int (a:Nat)] H Q :=
 b8d L E o.up o.lt (y7 o.small) ha q
noncomputable def St.joined (st:St) (k g:Nat):St:={st with up:=st.up.set g k,m:=st.m+1}
variable {x1 x3:Nat}{X:Addr->Prop}{S:Addr}
theorem b83 {k v:Nat}:(iL l).set k (.int (v:Nat))=iL (l.set k v):=by
 unfold iL;rw[List.map_set];rfl
theorem a7q (h:i < m):(S7 lay m)[i]?=some (.ref (lay (.lot i))):=by
 unfold S7;rw[c5x];refine b9 (List.getElem?_range h) ?_;rfl
theorem b0R (L:J1 lay C H) (E:EG lay C st) (o:Ok st) (Z:k < g) (u:g < st.up.length) (rk:st.up[k]?=some k) (rg:st.up[g]?=some g) (hm:st.m<=17) (K:r f8=some (.ref (lay (.eg 8)))) (F:r N9=some (.int (k:Nat))) (G:r N8=some (.int (g:Nat)))
  (q:∀ N A,J1 lay N A->EG lay N (st.joined k g)->O9 lay C lay N->Q (.tup [.int (k:Nat),.int (g:Nat)]) A) {B:Prop} :
  (d9 (p7 (a0W (n7 (d6 f8) w8) (d6 N8)) (d6 N9))
  (d9 (y8 (l4 (m9 (n7 (d6 f8) a0m) (d6 N9)) W1 (d7 (m9 (n7 (d6 f8) a0m) (d6 N8)) h9)))
  (d9 (y8 (l4 (n7 (d6 f8) W6) v6 (d7 (z0 (d7 (d6 N9) (d7 (d6 N8) h9))) h9)))
  (d9 (z5 (z0 (d7 (d6 N9) (d7 (d6 N8) h9))))
  j9)))) (j3 FT n) r H (λfl _ A=>a2D fl B λv=>Q v A):=by
 have U:st.up.length<=n8:=y7 o.small;have x:(S7 lay st.up.length).length=st.up.length:=by unfold S7;rw[(c5q ..)];rw[c6b];rfl
 have Y:=L.put (o:=.list (iL (st.up.set g k))) E.c10;have P:=E.toHd.upd (s:=.eg 10) (o:=.list (iL (st.up.set g k))) rfl;have y:(upd C (.eg 10) (.list (iL (st.up.set g k)))) (.eg 11)=some (.list (S7 lay st.up.length)):=(j5 (by decide)).trans E.c11
 have rs:=a3o o.up o.lt rk rg Z;have V:=a0c o.up rk;have t:=a0c o.up rg;refine J9 (E.cl k (c6i Z u)) λd x1 xn S x3=>J9 (E.cl g u) λf y1 yn T y3=>?_;have xl:d.length<=17:=c5r (I6 xn λj J=>(S j J).1) o.small;have yl:f.length<=17:=c5r (I6 yn λj J=>(T j J).1) o.small;refine i9 E.c12 λR m1 m2=>?_;have M:(upd C (.eg 10) (.list (iL (st.up.set g k)))) (.lot k)=some (.list (iL d)):=(j5 K2).trans x1
 have ng:(upd C (.eg 10) (.list (iL (st.up.set g k)))) (.lot g)=some (.list (iL f)):=(j5 K2).trans y1;refine f9 (t7 (f6 F (b5J (λ_ q=>a2h L E.toHd (o9 K) rfl q) (o9 G) (L.at_ _ _ E.c10) (by rw[(n0 ..)];exact u) (by rw[(n0 ..)];exact U) ?_)))
 rw[b83];refine f9 (F0 (a5a (λ_ q=>B7 (a2h Y P (o9 K) rfl (f6 F (I4 (Y.at_ _ _ y) (by rw[x];exact U) (a7q (by exact c6i Z u)) q)))) (Y.at_ _ _ M) (d8 (B7 (a2h Y P (o9 K) rfl (f6 G (I4 (Y.at_ _ _ y) (by rw[x];exact U) (a7q u) (i8 (a4F (Y.at_ _ _ M) (Y.at_ _ _ ng) ?_ ?_ ?_)))))))))
 ·intro e;have:=Y.inj _ _ _ _ ng M e;injection this with this
  exact c5Q Z this.symm
 ·rw[(n0 ..)];rw[(n0 ..)];unfold n8;exact c5r (c6q xl yl) (c5o rfl)
 rw[(show iL d++iL f=iL (d++f) from (c54 ..).symm)];have D:=Y.put (o:=.list (iL (d++f))) M;have W:=P.upd (s:=.lot k) (o:=.list (iL (d++f))) rfl;have l:(upd (upd C (.eg 10) (.list (iL (st.up.set g k)))) (.lot k) (.list (iL (d++f)))) (.eg 12)=some (.list R):=(j5 a6Z).trans ((j5 (by decide)).trans m1)
 have L3:=D.put (o:=.list (R++[.tup [.int (k:Nat),.int (g:Nat)]])) l;have E3:=W.upd (s:=.eg 12) (o:=.list (R++[.tup [.int (k:Nat),.int (g:Nat)]])) rfl;refine f9 (F0 (I5 (λ_ q=>a2h D W (o9 K) rfl q) (D.at_ _ _ l) (d8 (D2 (d8 (f6 F (d8 (f6 G (i8 (i8 (G1 (D.at_ _ _ l) ?_ ?_)))))))))))
 ·rw[m2];unfold n8;exact c5r hm (c5o rfl)
 refine f9 (A4 (D2 (d8 (f6 F (d8 (f6 G (i8 ?_)))))));refine q _ _ L3 ?_ ⟨λ_=>rfl,λ_=>rfl,λ_=>rfl⟩;have c:(st.joined k g).up.length=st.up.length:=c6B;exact {E3 with
  c4:=E.c4,c5:=E.c5,c6:=E.c6,c7:=E.c7
  c10:=rfl
  c11:=by rw[c];exact E.c11
  cl:=λi I=>by
   rw [c] at I;by_cases z:i=k
   ·clear c E3 L3 l W D ng M x1 y P Y q F rk;subst z;have e:g8 (st.up.set g i) i=i:=by rw[(rs i (c6i Z u))];rw[(c57 (c2q Z V))];exact V
    refine ⟨d++f,(j5 K2).trans C0,List.nodup_append.mpr ⟨xn,yn,λa X b hb z=>?_⟩,λj J=>?_,λ_ j J O=>?_⟩
    ·rw [z] at X;have:=(S b X).2.symm.trans (T b hb).2;exact c5Q Z (V.symm.trans (this.trans t))
    ·show j < (st.up.set g i).length/\g8 (st.up.set g i) j=g8 (st.up.set g i) i;rw[e];rcases c6H J with h | h
     ·refine eA (S j h) λa b=>?_;rw[c6B];rw[(rs j a)];rw[b];rw[V];rw[(c57 (by exact c5Q Z))];exact ⟨a,rfl⟩
     ·refine eA (T j h) λa b=>?_;rw[c6B];rw[(rs j a)];rw[b];rw[t];rw[(c58 rfl)];exact ⟨a,rfl⟩
    ·have J:j < (st.up.set g i).length:=J;have O:g8 (st.up.set g i) j=i:=O;rw [List.length_set] at J;rw [rs j J] at O;refine List.mem_append.mpr ?_;by_cases w:g8 st.up j=g
     ·exact .inr (y3 t j J w)
     ·rw [if_neg w] at O;exact .inl (x3 V j J O)
   ·refine J9 (E.cl i I) λzs z1 zn z2 z3=>⟨zs,(j5 K2).trans ((j5 (λe=>by injection e with e;exact z e)).trans ((j5 K2).trans z1)),zn,λj J=>?_,λe j J O=>?_⟩
    ·refine eA (z2 j J) λa b=>?_;show j < (st.up.set g k).length/\g8 (st.up.set g k) j=g8 (st.up.set g k) i;rw[c6B];rw[(rs j a)];rw[(rs i I)];rw[b];exact ⟨a,rfl⟩
    ·have J:j < (st.up.set g k).length:=J;rw [List.length_set] at J;have O:g8 (st.up.set g k) j=i:=O;have e:g8 (st.up.set g k) i=i:=e;rw [rs j J] at O;rw [rs i I] at e;by_cases w:g8 st.up j=g
     ·rw [if_pos w] at O;exact c59 O.symm z
     ·rw [if_neg w] at O;by_cases w2:g8 st.up i=g
      ·rw [if_pos w2] at e;exact c59 e.symm z
      ·rw [if_neg w2] at e;exact z3 e j J O
  c12:=⟨_,C0,by rw[c50];rw[m2];rfl⟩
  c13:=E.c13
  c14:=E.c14
  c15:=E.c15,c16:=E.c16
  cu:=λp hp=>(j5 N1).trans ((j5 b55).trans ((j5 N1).trans (E.cu p hp)))
  c17:=E.c17}
variable {x:G7}
theorem a4e {l:List Int} (h:H a=some (.list (l.map f7.int))) (B:l.length < 64) (q:∀ b,H b=none->Q (.ref b) (H.set b (.list ((N0 l).map f7.int)))):biW .sorted [.ref a] H Q :=
 ⟨a,l,rfl,.inl h,B,by rw[(c5q ..)];rewrite [N0];rw[(List.length_mergeSort ..)];unfold n8;exact b70 B,q⟩
theorem b9Y (L:J1 lay C H) (E:EG lay C st) (o:Ok st) {a b:Nat} (ha:a < st.up.length) (V:b < st.up.length) (p:st.m<=17)
  (w:g8 st.up a=g8 st.up b->∀ q,m4 H q->Q .none q)
  (x:g8 st.up a≠g8 st.up b->∀ J q,J1 lay J q->EG lay J (st.joined (min (g8 st.up a) (g8 st.up b)) (max (g8 st.up a) (g8 st.up b)))->O9 lay C lay J ->
   Q (.tup [.int (min (g8 st.up a) (g8 st.up b):Nat),.int (max (g8 st.up a) (g8 st.up b):Nat)]) q):(j3 FT (n+2)).call D9 Y9 [.ref (lay (.eg 8)),.int (a:Nat),.int (b:Nat)] H Q:=by
 have y:=E9 o.up o.lt a ha;have A:=E9 o.up o.lt b V;have U:st.up[min (g8 st.up a) (g8 st.up b)]?=some (min (g8 st.up a) (g8 st.up b)):=by
  rcases c5Z (g8 st.up a) (g8 st.up b) with z | z
  ·rw[(Nat.min_eq_left z)];exact I3 o.up a ha
  ·rw[(Nat.min_eq_right z)];exact I3 o.up b V
 have O:st.up[max (g8 st.up a) (g8 st.up b)]?=some (max (g8 st.up a) (g8 st.up b)):=by
  rcases c5Z (g8 st.up a) (g8 st.up b) with z | z
  ·rw[(Nat.max_eq_right z)];exact I3 o.up b V
  ·rw[(Nat.max_eq_left z)];exact I3 o.up a ha
 refine o8 rfl rfl (f9 (t7 (M0 (d8 (a0x (d8 (C6 (rfl) (L.at_ _ _ E.c8) (L.at_ _ _ E.c9) rfl (o9 rfl) (d8 (f6 rfl (i8 (b50 L E o ha (d8 (C6 (rfl) (L.at_ _ _ E.c8) (L.at_ _ _ E.c9) rfl (o9 rfl) (d8 (f6 rfl (i8 (b50 L E o V (i8 λc j=>i8 (a4e (l:=[(g8 st.up a:Int),(g8 st.up b:Int)]) l0 (c5o rfl) λd k=>?_)))))))))))))))))));have r:m4 H (H.set c (.list [.int (g8 st.up a:Nat),.int (g8 st.up b:Nat)])):=.new j
 have Z:=r.trans (.new (o:=.list ((N0 [(g8 st.up a:Int),(g8 st.up b:Int)]).map f7.int)) k);have f:=L.keep Z;have i:(N0 [(g8 st.up a:Int),(g8 st.up b:Int)]).map f7.int=[.int (min (g8 st.up a) (g8 st.up b):Nat),.int (max (g8 st.up a) (g8 st.up b):Nat)]:=by
  have u:min (g8 st.up a:Int) (g8 st.up b:Int)=((min (g8 st.up a) (g8 st.up b):Nat):Int):=by exact c27
  have v:max (g8 st.up a:Int) (g8 st.up b:Int)=((max (g8 st.up a) (g8 st.up b):Nat):Int):=by exact c26
  rw[(c04 ..)];rw[u];rw[v];rfl
 generalize g:(Hp.set (H.set c (.list [.int (g8 st.up a:Nat),.int (g8 st.up b:Nat)])) d (.list ((N0 [(g8 st.up a:Int),(g8 st.up b:Int)]).map f7.int)))=h at Z f;have Y:h d=some (.list [.int (min (g8 st.up a) (g8 st.up b):Nat),.int (max (g8 st.up a) (g8 st.up b):Nat)]):=by refine u7 g ?_;rw[i];exact l0
 clear g;refine a3g (.inr ⟨d,rfl,Y⟩) (f9 (J7 (t0 (f6 rfl (f6 rfl (a1S ⟨λt=>?_,λt=>?_⟩))))))
 ·have t:=c5y t;exact f9 (A4 (m3 (w (c4D t) _ Z)))
 ·have t:=c6j t;refine b0R (B:=True) f E o (c1K t) (by exact Nat.max_lt.mpr ⟨y,A⟩) U O p rfl rfl rfl λJ q l e s=>x (c1L t) J q l e s
section
open Classical
variable {ug:List Nat}
theorem a8E {α:Type} {l:List α} {f:α->f7×f7} {k:f7} {x:α} (h:x∈l) (B:(f x).1=k) (q:∀ y∈l,(f y).1=k->y=x):B4 (l.map f) k=some (f x).2:=by
 unfold B4;have:((l.map f).find? λp=>decide (p.1=k))=some (f x):=by
  induction l with
  | nil=>cases h
  | cons y l O =>
   rw[c6a];refine b9 List.find?_cons ?_;by_cases e:(f y).1=k
   ·rw[(c6h e)];rw[(q y (c5u) e)];rfl
   ·rw[(c5Y e)];refine O ?_ λz J=>q z (c5t _ J);rcases c6K h with rfl | h
    ·exact c59 B e
    ·exact h
 rw[this];rfl
theorem a6c {α:Type} {l:List α} {f:α->f7×f7} {k:f7} (h:∀ y∈l,(f y).1≠k):B4 (l.map f) k=none:=by
 unfold B4;have:((l.map f).find? λp=>decide (p.1=k))=none:=by
  refine D5 (List.find?_eq_none ..) ?_;intro p q;refine i9 (c6D q) λy B J=>?_;clear q;subst J;simpa using h y B
 rw[this];rfl
theorem b1i {α:Type} {l:List α} {f:α->f7×f7} {g:α->Nat} (h:∀ y,(f y).1=.int (g y:Nat)) (i:Nat):J6 (l.map f) (.int (i:Nat)):=by
 refine ⟨rfl,λp q=>?_⟩;refine i9 (c6D q) λy _ B=>?_;clear q;subst B;rw[(h y)];rfl
noncomputable def O8 (us:List (Nat×List Nat)) (k g:Nat) (ug:List Nat):List (Nat×List Nat):=(us.filter λp=>p.1 != g).map λp=>if p.1=k then (k,p.2++ug) else p
theorem b6C {lay:Slot->Nat} {us:List (Nat×List Nat)}:a4i (Z4 lay us) (.int (g:Nat))=Z4 lay (us.filter λp=>p.1 != g):=by
 unfold a4i Z4;rw[List.filter_map]
 congr 1
 refine List.filter_congr λp _=>?_;show decide (f7.int (p.1:Nat)≠f7.int (g:Nat))=_;by_cases e:p.1=g
 ·rw[e];simp
 ·have:f7.int (p.1:Nat)≠f7.int (g:Nat):=λz=>by injection z with z;exact e (Int.ofNat_inj.mp z)
  rw[(c6h this)];simp [e]
end
variable {ug:List Nat}
structure Us (st:St):Prop where
 nod:(st.us.map (·.1)).Nodup
 has:∀ c,c < st.up.length->g8 st.up c=c->∃ u,(c,u)∈st.us
 len:st.us.length<=17
 small:∀ p∈st.us,p.2.length<=100000
 wt:st.wt.length<=100000
 m:st.m<=17
 e:st.e<=100000
 f:st.f<=100000
noncomputable def St.edge (st:St):St:={st with e:=st.e+1}
noncomputable def St.join (st:St) (k g:Nat) (ug:List Nat):St:={st with up:=st.up.set g k,m:=st.m+1,e:=st.e+1,f:=st.f+1,wt:=st.wt++ug,us:=O8 st.us k g ug}
theorem b54 (u:Us st) {c:Nat} {V:List Nat} (h:(c,V)∈st.us):B4 (Z4 lay st.us) (.int (c:Nat))=some (.ref (lay (.us c))):=by
 refine a8E (f:=λp:Nat×List Nat=>(f7.int (p.1:Nat),f7.ref (lay (.us p.1)))) h rfl λy O e=>?_;have e:y.1=c:=by injection e with e;exact zo6 e
 refine eE (c6L h) λi B=>eE (c6L O) λj q=>?_;have J:=c6C B;have:i=j:=(List.getElem?_inj (by simpa using J.1) u.nod).mp (by rw[c5x];rw[c5x];rw[B];rw[q];exact c5z some e.symm)
 subst this;rw [B] at q;have U:=B8 q;clear q e O;subst U;rfl
theorem a6H {us:List (Nat×List Nat)} (c:Nat):J6 (Z4 lay us) (.int (c:Nat)):=b1i (g:=λp=>p.1) (λ_=>rfl) c
theorem a0h {i x:f7} (h:H a=some (.dict es ep)) (B:J6 es i) (J:B4 es i=some x) (q:Q x H):a7g (.ref a) i H Q:=.inr (.inr ⟨a,es,ep,x,rfl,h,B,J,q⟩)
theorem b2c (L:J1 lay C H) (E:EG lay C st) (J:C (.eg 13)=some (.list xs)) (O:xs.length=st.e):J1 lay (upd C (.eg 13) (.list (xs++[v]))) (H.set (lay (.eg 13)) (.list (xs++[v])))/\EG lay (upd C (.eg 13) (.list (xs++[v]))) st.edge :=
 ⟨L.put J,{E.toHd.upd (s:=.eg 13) (o:=.list (xs++[v])) rfl with
  c4:=E.c4,c5:=E.c5,c6:=E.c6,c7:=E.c7,c10:=E.c10,c11:=E.c11
  cl:=λi q=>(E.cl i q).imp λ_=>And.imp_left (j5 K2).trans
  c12:=E.c12
  c13:=⟨_,C0,by rw[c50];rw[O];rfl⟩
  c14:=E.c14,c15:=E.c15,c16:=E.c16
  cu:=λp B=>(j5 N1).trans (E.cu p B)
  c17:=E.c17}⟩
theorem Ok.edge (o:Ok st):Ok st.edge:=⟨o.up,o.lt,o.small,o.nd,o.two⟩
variable {p:Nat}
theorem b6G {us:List (Nat×List Nat)} (h:(B4 (Z4 lay us) (.int (k:Nat))).isSome=true):J2 (Z4 lay us) (.int (k:Nat)) (.ref a)=Z4 (M6 lay (.us k) a) (us.map λp=>if p.1=k then (k,p.2++ug) else p):=by
 unfold J2;rw[(c58 h)];unfold Z4;rw[c55];rw[c55];refine c5C λp _=>?_;show (@ite _ (f7.int (p.1:Nat)=f7.int (k:Nat)) (Classical.propDecidable _) (f7.int (p.1:Nat),f7.ref a) (f7.int (p.1:Nat),f7.ref (lay (.us p.1))))=(f7.int ((if p.1=k then (k,p.2++ug) else p).1:Nat),f7.ref (M6 lay (.us k) a (.us (if p.1=k then (k,p.2++ug) else p).1)))
 by_cases e:p.1=k
 ·refine b9 (c58 (by rw[e];rfl)) ?_;rw[(c58 e)];rw[a2x];rw[e];rfl
 ·rw[(c57 (λz=>e (by injection z with z;exact zo6 z)))];rw[(c57 e)];rw[(Q2 (λz=>e (by injection z)))];rfl
theorem add_list {a b:Nat} {xs ys:List f7} (B:H a=some (.list xs)) (J:H b=some (.list ys)) (O:xs.length+ys.length<=n8) (q:∀ c,H c=none->Q (.ref c) (H.set c (.list (xs++ys)))):a4h .add (.ref a) (.ref b) H Q :=
 .inr (.inr (.inr ⟨a,b,xs,ys,rfl,rfl,B,J,by rw[c50];exact O,q⟩))
theorem a2e {e i:Ev} {k:f7} {Q:a2F} (B:∀ Q:l8,Q (.ref a) H->e K r H Q) (J:∀ Q:l8,Q k H->i K r H Q) (h:H a=some (.dict es ep)) (O:J6 es k) (U:es.length<=n8) (q:Q r (H.set a (.dict (J2 es k v) (dep es k ep)))):a0W e i K v r H Q :=
 B _ (J _ (.inr ⟨a,es,ep,rfl,h,O,U,q⟩))
theorem b2n {uk ug:List Nat} (L:J1 lay C H) (E:EG lay C (st.edge.joined k g)) (u:Us st) (N:(k,uk)∈st.us) (X:(g,ug)∈st.us) (a4:k≠g) (D:r f8=some (.ref (lay (.eg 0)))) (A:r N9=some (.int (k:Nat))) (b:r N8=some (.int (g:Nat)))
  (q:∀ U C' W,J1 U C' W->EG U C' (st.join k g ug)->O9 lay C U C'->Q (.bool true) W) {B:Prop} :
  (d9 (y8 (l4 (n7 (d6 f8) a0l) v6 (d7 (A6 .sub (O3 .len (d7 (n7 (d6 f8) Y5) h9)) (j7 (.int 1))) h9)))
  (d9 (y8 (l4 (n7 (d6 f8) I0) W1 (d7 (m9 (n7 (d6 f8) w8) (d6 N8)) h9)))
  (d9 (p7 (a0W (n7 (d6 f8) w8) (d6 N9)) (A6 .add (m9 (n7 (d6 f8) w8) (d6 N9)) (l4 (n7 (d6 f8) w8) a2J (d7 (d6 N8) h9))))
  (d9 (z5 (j7 (.bool true)))
  j9)))) (j3 FT n) r H (λfl _ W=>a2D fl B λv=>Q v W):=by
 refine i9 E.c13 λes e1 e2=>i9 E.c14 λx f1 f2=>eE E.c16 λV a1=>?_;have m1:(st.edge.joined k g).m=st.m+1:=rfl;have e3:es.length=st.e+1:=e2;have um:=u.m;have ue:=u.e;refine f9 (F0 (I5 (λ_ q=>O4 L E.toHd (o9 D) rfl q) (L.at_ _ _ f1) (d8 (C5 (M0 (d8 (O4 L E.toHd (o9 D) rfl (i8 (D8 (L.at_ _ _ e1) ?_ (m3 (sub_int (i8 (G1 (L.at_ _ _ f1) ?_ ?_)))))))))))))
 ·rw[e3];unfold n8;exact c5v ue (c5o rfl)
 ·have:=u.f;rw[f2];unfold n8;show st.f<=_;exact c5r this (c5o rfl)
 generalize f7.int (_:Int)=y;have Y:=L.put (o:=.list (x++[y])) f1;have T:=E.toHd.upd (s:=.eg 14) (o:=.list (x++[y])) rfl;have gk:=b54 (lay:=lay) u N;have gg:=b54 (lay:=lay) u X;have F:(upd C (.eg 14) (.list (x++[y]))) (.eg 16)=some (.dict (Z4 lay st.us) V):=(j5 (by decide)).trans a1
 have O:(upd C (.eg 14) (.list (x++[y]))) (.eg 17)=some (.list (iL st.wt)):=(j5 (by decide)).trans E.c17
 have h:(upd C (.eg 14) (.list (x++[y]))) (.us g)=some (.list (iL ug)):=(j5 N1).trans (E.cu _ X);have R:(upd C (.eg 14) (.list (x++[y]))) (.us k)=some (.list (iL uk)):=(j5 N1).trans (E.cu _ N);generalize d:upd C (.eg 14) (.list (x++[y]))=t at Y T F O h R;refine f9 (F0 (a5a (λ_ q=>O4 Y T (o9 D) rfl q) (Y.at_ _ _ O) (d8 (B7 (O4 Y T (o9 D) rfl (f6 b (a0h (Y.at_ _ _ F) (a6H g) gg (i8 (a4F (Y.at_ _ _ O) (Y.at_ _ _ h) ?_ ?_ ?_)))))))))
 ·intro e;exact N1 (Y.inj _ _ _ _ h O e)
 ·have:=u.small _ X;have:=u.wt;rw[(n0 ..)];rw[(n0 ..)];unfold n8;dsimp only at *;exact c1F ‹_› this
 rw[(show iL st.wt++iL ug=iL (st.wt++ug) from (c54 ..).symm)];have G:=Y.put (o:=.list (iL (st.wt++ug))) O;have E2:=T.upd (s:=.eg 17) (o:=.list (iL (st.wt++ug))) rfl;have l:(upd t (.eg 17) (.list (iL (st.wt++ug)))) (.eg 16)=some (.dict (Z4 lay st.us) V):=(j5 (by decide)).trans F
 have L3:=G.put (o:=.dict (Z4 lay (st.us.filter λp=>p.1 != g)) (V+1)) l;have E3:=E2.upd (s:=.eg 16) (o:=.dict (Z4 lay (st.us.filter λp=>p.1 != g)) (V+1)) rfl;have a8:(upd (upd t (.eg 17) (.list (iL (st.wt++ug)))) (.eg 16) (.dict (Z4 lay (st.us.filter λp=>p.1 != g)) (V+1))) (.us k)=some (.list (iL uk)):=(j5 N1).trans ((j5 N1).trans R);have a7:(upd (upd t (.eg 17) (.list (iL (st.wt++ug)))) (.eg 16) (.dict (Z4 lay (st.us.filter λp=>p.1 != g)) (V+1))) (.us g)=some (.list (iL ug)):=(j5 N1).trans ((j5 N1).trans h)
 have a6:(Z4 lay st.us).length<=n8:=by unfold Z4;rw[(c5q ..)];exact y7 u.len
 refine f9 (t7 (C5 (B7 (O4 G E2 (o9 D) rfl (f6 A (a0h (G.at_ _ _ l) (a6H k) gk (b9a (λ_ q=>O4 G E2 (o9 D) rfl q) (G.at_ _ _ l) (d8 (f6 b (i8 (b8J (G.at_ _ _ l) (a6H g) a6 gg ?_)))))))))));rw[b6C];refine add_list (L3.at_ _ _ a8) (L3.at_ _ _ a7) ?_ λc hc=>?_
 ·have:=u.small _ N;have:=u.small _ X;rw[(n0 ..)];rw[(n0 ..)];unfold n8;dsimp only at *;exact c1u ‹_› this
 rw[(show iL uk++iL ug=iL (uk++ug) from (c54 ..).symm)];have L4:=L3.take (s:=.us k) (o:=.list (iL (uk++ug))) hc;have E4:=E3.take (s:=.us k) (o:=.list (iL (uk++ug))) (a:=c) rfl;have S:(upd (upd (upd t (.eg 17) (.list (iL (st.wt++ug)))) (.eg 16) (.dict (Z4 lay (st.us.filter λp=>p.1 != g)) (V+1))) (.us k) (.list (iL (uk++ug)))) (.eg 16)=some (.dict (Z4 lay (st.us.filter λp=>p.1 != g)) (V+1)):=(j5 a6a).trans C0
 have a3:(k,uk)∈st.us.filter λp=>p.1 != g:=List.mem_filter.mpr ⟨N,by simpa using a4⟩
 have u':((st.us.filter λp=>p.1 != g).map (·.1)).Nodup:=List.Nodup.sublist (List.filter_sublist.map _) u.nod;have a0:(B4 (Z4 lay (st.us.filter λp=>p.1 != g)) (.int (k:Nat))).isSome=true:=by
  cases e:B4 (Z4 lay (st.us.filter λp=>p.1 != g)) (.int (k:Nat)) with
  | some _=>rfl
  | none =>
   unfold B4 at e;rw [Option.map_eq_none_iff,List.find?_eq_none] at e;have:=e _ (c6E ⟨_,a3,rfl⟩);simp at this
 refine a2e (λ_ q=>O4 L4 E4 (o9 D) rfl q) (o9 A) (L4.at_ _ _ S) (a6H k) ?_ ?_
 ·unfold Z4;rw[(c5q ..)];exact c5r (List.length_filter_le ..) (y7 u.len)
 rw[(b6G (ug:=ug) a0)];generalize dep _ _ _=J;have L5:=L4.put (o:=.dict (Z4 (M6 lay (.us k) c) (O8 st.us k g ug)) J) S;have E5:=E4.upd (s:=.eg 16) (o:=.dict (Z4 (M6 lay (.us k) c) (O8 st.us k g ug)) J) rfl;refine f9 (A4 (m3 ?_));refine q _ _ _ L5 ?_ ⟨λ_=>rfl,λ_=>rfl,λj=>?_⟩
 ·have I:∀ s,(∀ i,s≠.us i)->s≠.eg 16->s≠.eg 17->upd (upd (upd (upd t (.eg 17) (.list (iL (st.wt++ug)))) (.eg 16) (.dict (Z4 lay (st.us.filter λp=>p.1 != g)) (V+1))) (.us k) (.list (iL (uk++ug)))) (.eg 16) (.dict (Z4 (M6 lay (.us k) c) (O8 st.us k g ug)) J) s=t s :=
   λs A b K=>(j5 b).trans ((j5 (A k)).trans ((j5 b).trans (j5 K)))
  have w:∀ s,(∀ i,s≠.us i)->s≠.eg 16->s≠.eg 17->s≠.eg 14->upd (upd (upd (upd t (.eg 17) (.list (iL (st.wt++ug)))) (.eg 16) (.dict (Z4 lay (st.us.filter λp=>p.1 != g)) (V+1))) (.us k) (.list (iL (uk++ug)))) (.eg 16) (.dict (Z4 (M6 lay (.us k) c) (O8 st.us k g ug)) J) s=C s :=
   λs A b K h4=>(I s A b K).trans (by refine u7 d ?_;exact j5 h4)
  have Z:∀ j,j≠16->j≠17->j≠14->_=C (.eg j):=λj A b K=>w (.eg j) (λ_=>a6a) (λe=>A (by injection e)) (λe=>b (by injection e)) (λe=>K (by injection e))
  exact {E5 with
   c4:=(Z 4 (by decide) (by decide) (by decide)).trans E.c4
   c5:=E.c5.imp λ_=>(Z 5 (by decide) (by decide) (by decide)).trans
   c6:=E.c6.imp λ_=>And.imp_left (Z 6 (by decide) (by decide) (by decide)).trans
   c7:=E.c7.imp λ_=>And.imp_left (Z 7 (by decide) (by decide) (by decide)).trans
   c10:=(Z 10 (by decide) (by decide) (by decide)).trans E.c10
   c11:=(Z 11 (by decide) (by decide) (by decide)).trans E.c11
   cl:=λi M=>(E.cl i M).imp λ_=>And.imp_left (w (.lot i) (λ_=>b0e) K2 K2 K2).trans
   c12:=E.c12.imp λ_=>And.imp_left (Z 12 (by decide) (by decide) (by decide)).trans
   c13:=E.c13.imp λ_=>And.imp_left (Z 13 (by decide) (by decide) (by decide)).trans
   c14:=⟨x++[y],(I (.eg 14) (λ_=>a6a) (by decide) (by decide)).trans (by refine u7 d ?_;exact C0),by rw[c50];rw[f2];rfl⟩
   c15:=E.c15.imp λ_=>(Z 15 (by decide) (by decide) (by decide)).trans
   c16:=⟨J,C0⟩
   cu:=λp hp=>by
    refine i9 (c6D hp) λp0 a5 q2=>?_;subst q2;have P:=List.mem_filter.mp a5;by_cases z:p0.1=k
    ·rw[(c58 z)];have:p0=(k,uk):=by
      refine eE (c6L N) λi M=>eE (c6L P.1) λj hj=>?_;have a2:=c6C M;have e:i=j:=(List.getElem?_inj (by simpa using a2.1) u.nod).mp (by rw[c5x];rw[c5x];rw[M];rw[hj];exact c5z some z.symm)
      subst e;rw [M] at hj;have q1:=B8 hj;clear hj z P hp a5;subst q1;rfl
     clear z P hp a5;subst this;exact (j5 N1).trans C0
    ·rw[(c57 z)];refine (j5 N1).trans ((j5 (λe=>z (by injection e))).trans ((j5 N1).trans ((j5 N1).trans ?_)))
     refine u7 d ?_;exact (j5 N1).trans (E.cu p0 P.1)
   c17:=(j5 (by decide)).trans ((j5 a6a).trans ((j5 (by decide)).trans C0))}
 ·show t (.ow j)=C (.ow j);refine u7 d ?_;rfl
theorem b8g (L:J1 lay C H) (E:EG lay C st) (o:Ok st) (u:Us st) {a b:Nat} {why:f7} (ha:a < st.up.length) (g:b < st.up.length)
  (q0:g8 st.up a=g8 st.up b->∀ O U,J1 lay O U->EG lay O st.edge->O9 lay C lay O->Q (.bool false) U)
  (q1:g8 st.up a≠g8 st.up b->∀ ug,(max (g8 st.up a) (g8 st.up b),ug)∈st.us->∀ J O U,J1 J O U->EG J O (st.join (min (g8 st.up a) (g8 st.up b)) (max (g8 st.up a) (g8 st.up b)) ug)->O9 lay C J O->Q (.bool true) U) :
  (j3 FT (n+3)).call w4 a5b [.ref (lay (.eg 0)),.int (a:Nat),.int (b:Nat),why] H Q:=by
 refine i9 E.c13 λM f r=>?_;have P:=u.e;refine eA (b2c L E f r (v:=.tup [.int (a:Nat),.int (b:Nat),why])) λV Y=>?_;have p:O9 lay C lay (upd C (.eg 13) (.list (M++[.tup [.int (a:Nat),.int (b:Nat),why]]))):=⟨λ_=>rfl,λ_=>rfl,λ_=>rfl⟩;refine o8 rfl rfl (f9 (F0 (I5 (λ_ q=>O4 L E.toHd (o9 rfl) rfl q) (L.at_ _ _ f) (d8 (D2 (d8 (f6 rfl (d8 (f6 rfl (d8 (f6 rfl (i8 (i8 (G1 (L.at_ _ _ f) ?_ ?_))))))))))))))
 ·rw[r];unfold n8;exact c5r P (c5o rfl)
 generalize upd C (.eg 13) _=R at V Y p;generalize Hp.set H _ _=T at V;refine f9 (t7 (C6 (rfl) (V.at_ _ _ Y.c8) (V.at_ _ _ Y.c9) rfl (λ_ q=>O4 V Y.toHd (o9 rfl) rfl q) (d8 (f6 rfl (d8 (f6 rfl (i8 (b9Y V Y o.edge ha g u.m (λe F k=>?q0) λe S F G D N=>?q1))))))))
 case q0 =>
  refine y0 (f9 (J7 (t0 (f6 rfl (m3 (b1j ⟨λ_=>⟨λ_=>f9 (A4 (m3 ?_)),(λt=>nomatch t)⟩,λt=>c59 rfl t⟩))))))
  exact q0 e _ _ (V.keep k) Y p
 case q1 =>
  refine y0 (f9 (J7 (t0 (f6 rfl (m3 (b1j (v:=.tup [_,_]) ⟨(λt=>nomatch t),λ_=>⟨(λt=>nomatch t),λ_=>?_⟩⟩))))))
  refine b03 (K:=j3 FT (n+2)) ?_;have x:=I3 o.up a ha;have y:=I3 o.up b g;have j:=E9 o.up o.lt a ha;have d:=E9 o.up o.lt b g;have rr:∀ c,c < st.up.length->st.up[c]?=some c->g8 st.up c=c:=λc _ h=>by rw[(A3 o.up h)];rw[(c58 rfl)];rfl
  have i:∃ A,(min (g8 st.up a) (g8 st.up b),A)∈st.us:=u.has _ (by exact c5v (Nat.min_le_right _ _) d) (by
   rcases c5Z (g8 st.up a) (g8 st.up b) with z | z
   ·rw[(Nat.min_eq_left z)];exact rr _ j x
   ·rw[(Nat.min_eq_right z)];exact rr _ d y)
  have Z:∃ ug,(max (g8 st.up a) (g8 st.up b),ug)∈st.us:=u.has _ (by exact Nat.max_lt.mpr ⟨j,d⟩) (by
   rcases c5Z (g8 st.up a) (g8 st.up b) with z | z
   ·rw[(Nat.max_eq_right z)];exact rr _ d y
   ·rw[(Nat.max_eq_left z)];exact rr _ j x)
  revert i;intro q1;refine eE q1 λA i=>?_;clear q1;revert Z;intro w;refine eE w λug Z=>?_;clear w;refine f9 (t7 (f6 rfl (a3g (.inl rfl) ?_)));exact b2n (B:=True) G D u i Z (by have:g8 st.edge.up a≠g8 st.edge.up b:=e;have:g8 st.up a≠g8 st.up b:=this;exact b6e ‹_›) rfl rfl rfl λJ O U l I s=>q1 e ug Z J O U l I (p.trans (N.trans s))
end
section
open Classical
variable {x:G7}{p:Nat}
theorem b4k:∀ {l m:List Nat},iL l=iL m->l=m:=by
 intro l;induction l with
 | nil =>
  intro q;cases q with
  | nil =>
   intro _;exact rfl
  | cons _ _ =>
   intro h;exact nomatch h
 | cons a l J =>
  intro B;cases B with
  | nil =>
   intro h;exact nomatch h
  | cons b m =>
   intro h;have h:f7.int (a:Nat) :: iL l=f7.int (b:Nat) :: iL m:=h;injection h with h1 h2
   injection h1 with h1
   rw[(J h2)];rw[(Int.ofNat.inj h1)];rfl
theorem a5f {x y:G7} (h:s9 x=s9 y):x=y:=by
 unfold s9 at h;injection h with h
 injection h with h1 h2
 injection h1 with h1
 obtain ⟨a,l⟩:=x;obtain ⟨b,m⟩:=y;rw[(show a=b from h1)];rw[(show l=m from b4k h2)];rfl
theorem a4v (n:Nat) (l:List Nat):V8 n (iL l)=true:=by
 induction l with
 | nil=>rfl
 | cons a l q=>exact c6R ⟨by clear q;cases n <;> rfl,q⟩
theorem b7c (x:G7):D7 7 (s9 x)=true:=c6R ⟨rfl,a4v _ _⟩
noncomputable def G3 (kn:List (G7×Nat)) (x:G7):Option Nat:=(kn.find? λp=>decide (p.1=x)).map (·.2)
theorem a2l {kn:List (G7×Nat)}:B4 (knV kn) (s9 x)=(G3 kn x).map λ(i:Nat)=>f7.int i:=by
 unfold B4 G3 knV;refine b9 List.find?_map ?_;rw[(Option.map_map ..)];rw[(Option.map_map ..)]
 congr 1
 congr 1
 funext p
 show decide (s9 p.1=s9 x)=decide (p.1=x);refine D5 (decide_eq_decide ..) ?_;exact ⟨a5f,λe=>by rw[e];rfl⟩
theorem a6l {kn:List (G7×Nat)} (x:G7):J6 (knV kn) (s9 x):=by
 refine ⟨b7c x,λp q=>?_⟩;refine i9 (c6D q) λy _ B=>?_;clear q;subst B;rfl
end
variable {x:G7}{kn:List (G7×Nat)}
noncomputable def St.know (st:St) (x:G7) (i:Nat):St:={st with kn:=st.kn++[(x,i)]}
section
variable {p g:Nat}{ug:List Nat}{n:Nat}{lay:Slot->Nat}{C:A0}{st:St}
theorem b4y (L:J1 lay C H) (E:EG lay C st) (J:C (.eg 15)=some (.dict (knV st.kn) ep)) {i ep':Nat}:J1 lay (upd C (.eg 15) (.dict (knV st.kn++[(s9 x,.int (i:Nat))]) ep')) (H.set (lay (.eg 15)) (.dict (knV st.kn++[(s9 x,.int (i:Nat))]) ep')) /\
  EG lay (upd C (.eg 15) (.dict (knV st.kn++[(s9 x,.int (i:Nat))]) ep')) (st.know x i) :=
 ⟨L.put J,{E.toHd.upd (s:=.eg 15) (o:=.dict (knV st.kn++[(s9 x,.int (i:Nat))]) ep') rfl with
  c4:=E.c4,c5:=E.c5,c6:=E.c6,c7:=E.c7,c10:=E.c10,c11:=E.c11
  cl:=λi q=>(E.cl i q).imp λ_=>And.imp_left (j5 K2).trans
  c12:=E.c12,c13:=E.c13,c14:=E.c14
  c15:=⟨ep',by rw[C0];unfold knV St.know;rw[c54];rfl⟩
  c16:=E.c16
  cu:=λp B=>(j5 N1).trans (E.cu p B)
  c17:=E.c17}⟩
theorem Ok.know (o:Ok st) (x:G7) (i:Nat):Ok (st.know x i):=⟨o.up,o.lt,o.small,o.nd,o.two⟩
theorem Us.know (u:Us st) (x:G7) (i:Nat):Us (st.know x i):=⟨u.nod,u.has,u.len,u.small,u.wt,u.m,u.e,u.f⟩
theorem a8Z (L:J1 lay C H) (E:EG lay C st) (o:Ok st) (u:Us st) (a:i < st.up.length) (b:p < st.up.length) (V:r f8=some (.ref (lay (.eg 0)))) (Y:r a2t=some (.int (p:Nat))) (Z:r U1=some (.int (i:Nat)))
  (h:g8 st.up p=g8 st.up i->Q .none H)
  (j:g8 st.up p≠g8 st.up i->∀ ug,(max (g8 st.up p) (g8 st.up i),ug)∈st.us->∀ q O J,J1 q O J->EG q O (st.join (min (g8 st.up p) (g8 st.up i)) (max (g8 st.up p) (g8 st.up i)) ug)->O9 lay C q O->Q .none J) {B:Prop} :
  (d9 (G6 (o7 .ne (l4 (d6 f8) I9 (d7 (d6 a2t) h9)) (l4 (d6 f8) I9 (d7 (d6 U1) h9)))
  (d9 (y8 (l4 (d6 f8) a5b (d7 (d6 a2t) (d7 (d6 U1) (d7 (z0 (d7 (j7 (.str "like")) h9)) h9)))))
  j9)
  j9)
 j9) (j3 FT (n+3)) r H (λd _ J=>a2D d (Q .none J) λv=>Q v J):=by
 refine f9 (J7 (t0 (C6 (rfl) (L.at_ _ _ E.c0) (L.at_ _ _ E.c1) rfl (o9 V) (d8 (f6 Y (i8 (a40 (n:=n+1) L E o b (C6 (rfl) (L.at_ _ _ E.c0) (L.at_ _ _ E.c1) rfl (o9 V) (d8 (f6 Z (i8 (a40 (n:=n+1) L E o a (b0k ⟨λt=>?_,λt=>?_⟩)))))))))))))
 ·have U:g8 st.up p≠g8 st.up i:=λe=>by rw [e] at t;simp at t
  refine f9 (F0 (C6 (rfl) (L.at_ _ _ E.c0) (L.at_ _ _ E.c1) rfl (o9 V) (d8 (f6 Y (d8 (f6 Z (d8 (D2 (d8 (m3 (i8 (i8 (b8g L E o u b a (λe=>c59 e U) λe ug g q O J l c s=>?_)))))))))))));exact j e ug g q O J l c s
 ·have f:g8 st.up p=g8 st.up i:=by
   have t:decide ((g8 st.up p:Int)=(g8 st.up i:Nat))=true:=by simpa using t
   have:=c5y t;exact zo6 this
  exact h f
variable {A:Around}
noncomputable def lkO (st:St) (x:G7) (i:Nat):Nat:=(G3 st.kn x).getD i
noncomputable def lkS (st:St) (x:G7) (i:Nat):St:=if (G3 st.kn x).isSome then st else st.know x i
theorem c0K (L:J1 lay C H) (E:EG lay C st) (o:Ok st) (u:Us st) (y:∀ x∈st.nd,∀ k∈x.2,k < st.up.length) (d:∀ p∈st.kn,p.2 < st.up.length) (hl:st.kn.length<=100000) (z:st.nd[i]?=some x) (a:i < st.up.length)
  (q0:g8 st.up (lkO st (x8 st.up x) i)=g8 st.up i->∀ O V,J1 lay O V->EG lay O (lkS st (x8 st.up x) i)->O9 lay C lay O->Q .none V)
  (q1:g8 st.up (lkO st (x8 st.up x) i)≠g8 st.up i->∀ ug,(max (g8 st.up (lkO st (x8 st.up x) i)) (g8 st.up i),ug)∈st.us->∀ J O V,J1 J O V ->
   EG J O ((lkS st (x8 st.up x) i).join (min (g8 st.up (lkO st (x8 st.up x) i)) (g8 st.up i)) (max (g8 st.up (lkO st (x8 st.up x) i)) (g8 st.up i)) ug)->O9 lay C J O->Q .none V) :
  (j3 FT (n+4)).call w4 Z8 [.ref (lay (.eg 0)),.int (i:Nat)] H Q:=by
 refine eE E.c15 λj f=>?_;have Y:lkO st (x8 st.up x) i < st.up.length:=by
  unfold lkO G3;cases e:st.kn.find? λp=>decide (p.1=x8 st.up x) with
  | none=>exact a
  | some p=>exact d p (c5W e)
 refine o8 rfl rfl (f9 (t7 (b4T (λ_ q=>O4 L E.toHd (o9 rfl) rfl q) (L.at_ _ _ f) (d8 (C6 (rfl) (L.at_ _ _ E.c0) (L.at_ _ _ E.c1) rfl (o9 rfl) (d8 (f6 rfl (i8 (b8h L E o y z λA b=>d8 (f6 rfl (i8 (b3u ((L.keep b).at_ _ _ f) (a6l _) ?hl (λv U=>y0 ?q0) λU=>y0 ?q1))))))))))))
 case hl=>unfold knV;rw[(c5q ..)];unfold n8;exact c5r hl (c5o rfl)
 case q0 =>
  rw [a2l] at U;refine i9 (c6G U) λp m q1=>?_;clear U;subst q1;have Z:lkO st (x8 st.up x) i=p:=by unfold lkO;rw[m];rfl
  have c:lkS st (x8 st.up x) i=st:=by unfold lkS;rw[m];rfl
  rw [Z,c] at q0 q1;rw [Z] at Y;exact a8Z (B:=True) (n:=n) (L.keep b) E o u a Y rfl rfl rfl (λe=>q0 e _ _ (L.keep b) E (.refl _ _)) q1
 case q1 =>
  rw [a2l] at U;have U:=Option.map_eq_none_iff.mp U;have Z:lkO st (x8 st.up x) i=i:=by unfold lkO;rw[U];rfl
  have c:lkS st (x8 st.up x) i=st.know (x8 st.up x) i:=by unfold lkS;rw[U];rfl
  rw [Z,c] at q0 q1;refine eA (b4y (L.keep b) E f (x:=x8 st.up x) (i:=i) (ep':=j+1)) λh g=>?_;have r:O9 lay C lay (upd C (.eg 15) (.dict (knV st.kn++[(s9 (x8 st.up x),.int (i:Nat))]) (j+1))):=⟨λ_=>rfl,λ_=>rfl,λ_=>rfl⟩;exact a8Z (B:=True) (n:=n) (st:=st.know (x8 st.up x) i) h g (o.know _ _) (u.know _ _) a a rfl rfl rfl (λe=>q0 e _ _ h g r) λe ug w J O V l t s=>q1 e ug w J O V l t (r.trans s)
theorem b82 (L:J1 lay C H) (E:EG lay C st) (o:Ok st) (u:Us st) {a b:Nat} {why:f7} (ha:a < st.up.length) (O:b < st.up.length)
  (U:g8 st.up a=g8 st.up b->∀ B J,J1 lay B J->EG lay B st.edge->O9 lay C lay B->Q (.bool false) J)
  (V:g8 st.up a≠g8 st.up b->∀ ug,(max (g8 st.up a) (g8 st.up b),ug)∈st.us->∀ q B J,J1 q B J->EG q B (st.join (min (g8 st.up a) (g8 st.up b)) (max (g8 st.up a) (g8 st.up b)) ug)->O9 lay C q B->Q (.bool true) J) :
  (j3 FT (n+4)).call w4 Y9 [.ref (lay (.eg 0)),.int (a:Nat),.int (b:Nat),why] H Q:=by
 refine o8 rfl rfl (f9 (A4 (C6 (rfl) (L.at_ _ _ E.c0) (L.at_ _ _ E.c1) rfl (o9 rfl) (d8 (f6 rfl (d8 (f6 rfl (d8 (f6 rfl (i8 (b8g L E o u ha O ?_ ?_)))))))))))
 ·exact U
 ·exact V
end
variable {X:Addr->Prop}{p g:Nat}{ug:List Nat}
structure a2P (nd:List G7) (lf:List (Nat×Nat)) (E:Nat->Nat->Prop):Prop where
 refl:∀ a,E a a
 symm:∀ a b,E a b->E b a
 trans:∀ a b c,E a b->E b c->E a c
 tie:∀ p∈lf,E p.1 p.2
 node:∀ (i j:Nat) (x y:G7),nd[i]?=some x->nd[j]?=some y->x.1=y.1->x.2.length=y.2.length->(∀ (q a b:Nat),x.2[q]?=some a->y.2[q]?=some b->E a b)->E i j
noncomputable def a3p (up:List Nat):Nat:=((List.range up.length).filter λa=>up[a]?==some a).length
noncomputable def Cmp (st:St) (X:Nat->Nat->Prop):Prop:=∀ (i:Nat) (x:G7),st.nd[i]?=some x->i∈st.wt\/∃ p,G3 st.kn (x8 st.up x)=some p/\(g8 st.up p=g8 st.up i\/X p i)
structure I7 (lf:List (Nat×Nat)) (st:St):Prop extends Ok st where
 eqn:st.nd.length=st.up.length
 kid:∀ x∈st.nd,∀ k∈x.2,k < st.up.length
 knlt:∀ p∈st.kn,p.2 < st.up.length
 knk:∀ p∈st.kn,∀ a∈p.1.2,a < st.up.length
 kn:∀ p∈st.kn,∃ y,st.nd[p.2]?=some y/\y.1=p.1.1/\y.2.map (g8 st.up)=p.1.2.map (g8 st.up)
 use:∀ (i:Nat) (x:G7),st.nd[i]?=some x->∀ k∈x.2,∃ u,(g8 st.up k,u)∈st.us/\i∈u
 sound:∀ E,a2P st.nd lf E->∀ a b,a < st.up.length->b < st.up.length->g8 st.up a=g8 st.up b->E a b
 told:∀ p∈lf,g8 st.up p.1=g8 st.up p.2
 tlt:∀ p∈lf,p.1 < st.up.length/\p.2 < st.up.length
 wlt:∀ i∈st.wt,i < st.up.length
 ult:∀ p∈st.us,∀ i∈p.2,i < st.up.length
 uslt:∀ p∈st.us,p.1 < st.up.length
 nod:(st.us.map (·.1)).Nodup
 has:∀ c,c < st.up.length->g8 st.up c=c->∃ u,(c,u)∈st.us
 ulen:st.us.length<=st.up.length
 usum:(st.us.map λp=>p.2.length).sum<=2 * st.up.length
 mr:st.m+a3p st.up=st.up.length
 wm:st.wt.length<=34 * st.m
 km:st.kn.length+st.wt.length<=st.up.length+34 * st.m
 fm:st.f=st.m
 em:st.e<=st.m+lf.length
 tl:lf.length<=20
 low:∀ (i:Nat) (x:G7),st.nd[i]?=some x->∀ k∈x.2,k < i
theorem a7X {us:List (Nat×List Nat)} (n:(us.map (·.1)).Nodup) {c:Nat} {u v:List Nat} (O:(c,u)∈us) (U:(c,v)∈us):u=v:=by
 refine eE (c6L O) λi q=>eE (c6L U) λj J=>?_;have B:=c6C q;have e:i=j:=(List.getElem?_inj (by simpa using B.1) n).mp (by rw[c5x];rw[c5x];rw[q];rw[J];rfl)
 subst e;rw [q] at J;clear U;cases J;rfl
theorem a0k {us:List (Nat×List Nat)} {p:Nat×List Nat}:p∈O8 us k g ug↔∃ q∈us,q.1≠g/\p=if q.1=k then (k,q.2++ug) else q:=by
 unfold O8;refine D5 (List.mem_map ..) ?_;constructor
 ·rintro ⟨q,O,rfl⟩
  exact eA (List.mem_filter.mp O) λB J=>⟨q,B,by simpa using J,rfl⟩
 ·rintro ⟨q,B,J,rfl⟩
  exact ⟨q,List.mem_filter.mpr ⟨B,by simpa using J⟩,rfl⟩
theorem a3Z:∀ {us:List (Nat×List Nat)} {p:Nat×List Nat},p∈us->p.2.length<=(us.map λp=>p.2.length).sum:=by
 intro us;induction us with
 | nil=>exact λh=>c59 h c5P
 | cons q us B =>
  intro p h;rw[c6a];rw[c6z];rcases c6K h with rfl | h
  ·exact c0a
  ·have:=B h;exact Nat.le_add_left_of_le this
theorem I7.us {J:List (Nat×Nat)} {st:St} (I:I7 J st):Us st:=by
 have q:st.m<=17:=by have:=I.mr;have:=I.small;exact c1X ‹_› this
 refine ⟨I.nod,I.has,c5r I.ulen I.small,λp B=>?_,?_,q,?_,?_⟩
 ·have:=a3Z B;have:=I.usum;have:=I.small;exact c2e ‹_› ‹_› this
 ·have:=I.wm;exact c1J q this
 ·have:=I.em;have:=I.tl;exact c2k q ‹_› this
 ·have:=I.fm;exact c1I q this
theorem I7.knl {q:List (Nat×Nat)} {st:St} (I:I7 q st):st.kn.length<=100000:=by
 have:=I.mr;have:=I.small;have:=I.km;exact c2R ‹_› ‹_› this
variable {st:St}
theorem a7r {l m:List Nat} (u:Up up) (lt:∀ p∈up,p < up.length) (U:up[k]?=some k) (O:up[g]?=some g) (h:k < g) (B:∀ a∈l,a < up.length) (V:∀ a∈m,a < up.length) (e:l.map (g8 up)=m.map (g8 up)) :
  l.map (g8 (up.set g k))=m.map (g8 (up.set g k)):=by
 have q:∀ l:List Nat,(∀ a∈l,a < up.length)->l.map (g8 (up.set g k))=(l.map (g8 up)).map λc=>if c=g then k else c:=λl B=>by
  rw[c55];exact c5C λa J=>a3o u lt U O h a (B a J)
 rw[(q l B)];rw[(q m V)];rw[e];rfl
theorem a8e (o:Ok st) (kid:∀ x∈st.nd,∀ k∈x.2,k < st.up.length) (eqn:st.nd.length=st.up.length) (knlt:∀ p∈st.kn,p.2 < st.up.length) (nod:(st.us.map (·.1)).Nodup) (use:∀ (i:Nat) (x:G7),st.nd[i]?=some x->∀ k∈x.2,∃ u,(g8 st.up k,u)∈st.us/\i∈u)
  (f:st.up[k]?=some k) (Z:st.up[g]?=some g) (h:k < g) (U:(g,ug)∈st.us) {X:Nat->Nat->Prop} (Y:∀ p i,X p i->(g8 st.up p=k\/g8 st.up p=g)/\(g8 st.up i=k\/g8 st.up i=g)) (c:Cmp st X):Cmp (st.join k g ug) λ_ _=>False:=λi x O=>by
 have d:i < st.up.length:=by have:=(c6C O).1;refine u7 eqn ?_;exact this
 have rs:=a3o o.up o.lt f Z h;by_cases z:∃ q∈x.2,g8 st.up q=g
 ·refine i9 z λq J e=>?_;clear z;refine i9 (use i x O q J) λu B h2=>?_;rw [e] at B;rw [a7X nod B U] at h2;exact .inl (c5E _ h2)
 ·have j:x8 (st.up.set g k) x=x8 st.up x:=by
   unfold x8
   congr 1
   refine c5C λq J=>?_;rw[(rs q (kid x (c5p O) q J))];rw[(c57 λe=>z ⟨q,J,e⟩)];rfl
  rcases c i x O with B | ⟨p,B,h2⟩
  ·exact .inl (c5D _ B)
  ·have l:p < st.up.length:=by
    refine i9 (c6G B) λe V m=>?_;clear h2 B;subst m;exact knlt e (c5W V)
   refine .inr ⟨p,by show G3 st.kn (x8 (st.up.set g k) x)=_;rw[j];exact B,.inl ?_⟩
   show g8 (st.up.set g k) p=g8 (st.up.set g k) i;rw[(rs p l)];rw[(rs i d)];rcases h2 with h2 | h2
   ·rw[h2];rfl
   ·refine eA (Y p i h2) λa b=>?_;rcases a with a | a <;> rcases b with b | b <;> rw [a,b] <;> simp <;> omega
theorem a5X {us:List (Nat×List Nat)} (n:(us.map (·.1)).Nodup) (h:(g,ug)∈us):((us.filter λp=>p.1 != g).map λp=>p.2.length).sum+ug.length=(us.map λp=>p.2.length).sum:=by
 induction us with
 | nil=>cases h
 | cons q us U =>
  rw [List.map_cons,List.nodup_cons] at n;by_cases e:q.1=g
  ·have O:q=(g,ug):=by
    rcases c6K h with h | h
    ·exact h.symm
    ·exact c59 (c6E ⟨_,h,e.symm⟩) n.1
   have B:us.filter (λp=>p.1 != g)=us:=by
    refine D5 (List.filter_eq_self ..) ?_;intro p J;have:p.1≠g:=λz=>n.1 (c6E ⟨p,J,z.trans e.symm⟩);simpa using this
   rw[(List.filter_cons_of_neg (by simpa using e))];rw[B];rw[c6a];rw[c6z];rw[O]
   show _+ug.length=ug.length+_;exact c1f
  ·rw[(List.filter_cons_of_pos (by simpa using e))];rw[c6a];rw[c6z];rw[c6a];rw[c6z]
   have:=U n.2 ((c6K h).resolve_left λz=>e (by refine u7 z ?_;rfl))
   exact (Nat.add_assoc _ _ _).trans (c5z (_+·) this)
theorem b5M {us:List (Nat×List Nat)} (n:(us.map (·.1)).Nodup) {uk ug:List Nat} (h:(k,uk)∈us):((us.map λp=>if p.1=k then (k,p.2++ug) else p).map λp=>p.2.length).sum=(us.map λp=>p.2.length).sum+ug.length:=by
 induction us with
 | nil=>cases h
 | cons q us O =>
  rw [List.map_cons,List.nodup_cons] at n;rw [List.map_cons,List.map_cons,List.sum_cons,List.map_cons,List.sum_cons];by_cases e:q.1=k
  ·have B:(us.map λp=>if p.1=k then (k,p.2++ug) else p)=us:=by
    conv=>rhs;(rewrite [<- List.map_id us];try rfl)
    refine c5C λp J=>?_;have:p.1≠k:=λz=>n.1 (c6E ⟨p,J,z.trans e.symm⟩);rw[(c57 this)];rfl
   rw[B];rw[(c58 e)];rw[c50];exact c1W
  ·rw[(c57 e)];refine b9 (O n.2 ((c6K h).resolve_left λz=>e (by refine u7 z ?_;rfl))) ?_
   exact c1V
theorem b0T {us:List (Nat×List Nat)}:(O8 us k g ug).map (·.1)=(us.filter λp=>p.1 != g).map (·.1):=by
 unfold O8;rw[c55];refine c5C λp _=>?_;show (if p.1=k then (k,p.2++ug) else p).1=p.1
 split
 ·rename_i e;exact e.symm
 ·rfl
theorem b0U {us:List (Nat×List Nat)} (n:(us.map (·.1)).Nodup) {uk ug:List Nat} (h:(k,uk)∈us) (B:(g,ug)∈us) (q:k≠g):((O8 us k g ug).map λp=>p.2.length).sum=(us.map λp=>p.2.length).sum:=by
 unfold O8;rw[(b5M (uk:=uk) (List.Nodup.sublist (List.filter_sublist.map _) n) (List.mem_filter.mpr ⟨h,by simpa using q⟩))];rw[(a5X n B)];rfl
theorem b2W (O:up[g]?=some g) (h:k≠g):a3p (up.set g k)+1=a3p up:=by
 have U:g < up.length:=(c6C O).1;unfold a3p;rw[c6B];have e:(List.range up.length).filter (λa=>(up.set g k)[a]?==some a)=((List.range up.length).filter λa=>up[a]?==some a).filter λa=>a != g:=by
  rw[List.filter_filter];refine List.filter_congr λa _=>?_;by_cases z:a=g
  ·clear O;subst z;refine b9 (List.getElem?_set_self U) ?_;simp [h]
  ·refine b9 (List.getElem?_set_ne (λq=>z q.symm)) ?_;simp [z]
 rw[e];have B:((List.range up.length).filter λa=>up[a]?==some a).Nodup:=List.Nodup.sublist List.filter_sublist List.nodup_range;have J:g∈(List.range up.length).filter λa=>up[a]?==some a:=List.mem_filter.mpr ⟨c6N U,by rw[O];simp⟩
 generalize (List.range up.length).filter (λa=>up[a]?==some a)=l at B J;induction l with
 | nil=>cases J
 | cons a l Y =>
  rw [List.nodup_cons] at B;by_cases z:a=g
  ·clear J Y e U h O;subst z;rw[(List.filter_cons_of_neg (by simp))]
   have:l.filter (λx=>x != a)=l:=by
    refine D5 (List.filter_eq_self ..) ?_;intro x V;have:x≠a:=λe=>B.1 (e▸V);simpa using this
   rw[this];rfl
  ·rw[(List.filter_cons_of_pos (by simpa using z))];rw[c6d];rw[c6d];rw[(Y B.2 ((c6K J).resolve_left λe=>z e.symm))];rfl
variable {A:Around}{Q:F7}{D S:Addr}{c:Nat}{lf ties':List (Nat×Nat)}{uk:List Nat}
theorem a8L (I:I7 lf st) (C:st.up[k]?=some k) (r:st.up[g]?=some g) (h:k < g) (t:(k,uk)∈st.us) (U:(g,ug)∈st.us)
  (why:∀ E,a2P st.nd ties' E->E k g) (sub:∀ p∈lf,p∈ties') (new:∀ p∈ties',p∈lf\/((p.1 < st.up.length/\p.2 < st.up.length)/\(g8 st.up p.1=k\/g8 st.up p.1=g)/\(g8 st.up p.2=k\/g8 st.up p.2=g))) (tl:lf.length<=ties'.length) (H:ties'.length<=20):I7 ties' (st.join k g ug):=by
 have rs:=a3o I.up I.lt C r h;have N:k < st.up.length:=(c6C C).1;have B:(st.join k g ug).up.length=st.up.length:=c6B;have rk:g8 st.up k=k:=by rw[(A3 I.up C)];rw[(c58 rfl)];rfl
 have rg:g8 st.up g=g:=by rw[(A3 I.up r)];rw[(c58 rfl)];rfl
 have lg:g < st.up.length:=(c6C r).1;have same:∀ a b,a < st.up.length->b < st.up.length->g8 st.up a=g8 st.up b->g8 (st.up.set g k) a=g8 (st.up.set g k) b:=λa b J Z e=>by rw[(rs a J)];rw[(rs b Z)];rw[e];rfl
 have l:∀ a b,a < st.up.length->b < st.up.length->(g8 st.up a=k\/g8 st.up a=g)->(g8 st.up b=k\/g8 st.up b=g)->g8 (st.up.set g k) a=g8 (st.up.set g k) b:=λa b J Z ea eb=>by
  rw[(rs a J)];rw[(rs b Z)];rcases ea with ea | ea <;> rcases eb with eb | eb <;> rw [ea,eb] <;> simp <;> omega
 have A:∀ c u,(c,u)∈st.us->∃ v,((if c=g then k else c),v)∈O8 st.us k g ug/\∀ i∈u,i∈v:=λc u s=>by
  by_cases z:c=g
  ·clear l same lg rg rs new why r;subst z;rw[(c58 rfl)];have:=a7X I.nod s U;clear B U;subst this;exact ⟨uk++u,a0k.mpr ⟨(k,uk),t,by show k≠c;exact c5Q h,by rw[(c58 rfl)];rfl⟩,λi hi=>c5E _ hi⟩
  ·rw[(c57 z)];by_cases w:c=k
   ·clear l same rk B N rs new why t h C;subst w;exact ⟨u++ug,a0k.mpr ⟨(c,u),s,z,by rw[(c58 rfl)];rfl⟩,λi hi=>c5D _ hi⟩
   ·exact ⟨u,a0k.mpr ⟨(c,u),s,z,by rw[(c57 w)];rfl⟩,λi hi=>hi⟩
 have R:=a3Z U;have Q:=I.usum;have P:=I.small;have n:(g,ug).2.length=ug.length:=rfl;refine {toOk:=⟨a7W I.up h,b89 I.lt N,by rw[B];exact I.small,I.nd,I.two⟩,eqn:=by rw[B];exact I.eqn,kid:=by rw[B];exact I.kid,knlt:=by rw[B];exact I.knlt,knk:=by rw[B];exact I.knk,kn:=λp O=>?_,use:=λi x M q K=>?_,sound:=λE V a b J Z e=>?_,told:=λp O=>?_,tlt:=λp O=>?_,wlt:=λi hi=>?_,ult:=λp O i hi=>?_,uslt:=λp O=>?u,nod:=?_,has:=λc F e=>?_,ulen:=?_,usum:=?_,mr:=?_,wm:=?_,km:=?_,fm:=?_,em:=?_,tl:=H,low:=I.low}
 case u =>
  rw[B];refine p9 (a0k.mp O) λq j G j=>?_;clear O;subst j
  split
  ·exact N
  ·exact I.uslt q j
 ·exact p9 (I.kn p O) λy S y2 y3=>⟨y,S,y2,a7r I.up I.lt C r h (I.kid y (c5p S)) (I.knk p O) y3⟩
 ·refine i9 (I.use i x M q K) λu T W=>i9 (A _ _ T) λv X h4=>⟨v,?_,h4 i W⟩;show (g8 (st.up.set g k) q,v)∈_;rw[(rs q (I.kid x (c5p M) q K))];exact X
 ·rw [B] at J Z;have D:a2P st.nd lf E:=⟨V.refl,V.symm,V.trans,λp O=>V.tie p (sub p O),V.node⟩;have kg:=why E V;have toR:∀ a,a < st.up.length->E a (g8 st.up a):=λa J=>I.sound E D a _ J (E9 I.up I.lt a J) (by
   rw[(A3 I.up (I3 I.up a J))];rw[(c58 rfl)];rfl)
  have Y:∀ a,a < st.up.length->E a (g8 (st.up.set g k) a):=λa J=>by
   rw[(rs a J)]
   split
   ·rename_i z;have:=toR a J;rw [z] at this;exact V.trans _ _ _ this (V.symm _ _ kg)
   ·exact toR a J
  have e:g8 (st.up.set g k) a=g8 (st.up.set g k) b:=e;exact V.trans _ _ _ (Y a J) (by rw[e];exact V.symm _ _ (Y b Z))
 ·rcases new p O with o | ⟨⟨a,b⟩,c,d⟩
  ·exact same _ _ (I.tlt p o).1 (I.tlt p o).2 (I.told p o)
  ·exact l _ _ a b c d
 ·rw[B];rcases new p O with o | ⟨a,_⟩
  ·exact I.tlt p o
  ·exact a
 ·rw[B];rcases c6H hi with hi | hi
  ·exact I.wlt i hi
  ·exact I.ult _ U i hi
 ·rw[B];refine p9 (a0k.mp O) λq j G G=>?_;clear O;subst G
  split at hi
  ·rcases c6H hi with hi | hi
   ·exact I.ult _ j i hi
   ·exact I.ult _ U i hi
  ·exact I.ult _ j i hi
 ·show ((O8 st.us k g ug).map (·.1)).Nodup;rw[b0T];exact List.Nodup.sublist (List.filter_sublist.map _) I.nod
 ·rw [B] at F;have e:g8 (st.up.set g k) c=c:=e;rw [rs c F] at e;by_cases z:g8 st.up c=g
  ·rw [if_pos z] at e;clear F;subst e;rw [rk] at z;exact (b71 h z).elim
  ·rw [if_neg z] at e;refine eE (I.has c F e) λu s=>i9 (A c u s) λv L _=>?_;rw [if_neg (λw=>z (by rw[e];rw[w];rfl))] at L
   exact ⟨v,L⟩
 ·rw[B];have:(O8 st.us k g ug).length<=st.us.length:=by
   unfold O8;rw[(c5q ..)];exact List.length_filter_le ..
  exact c5r this I.ulen
 ·rw[B];show ((O8 st.us k g ug).map λp=>p.2.length).sum<=_;rw[(b0U I.nod t U (by exact c5Q h))]
  exact I.usum
 ·rw[B];have:=b2W r (show k≠g by exact c5Q h)
  have e:=I.mr;show st.m+1+a3p (st.up.set g k)=_;exact c2F this e
 ·have:=I.wm;show (st.wt++ug).length<=34 * (st.m+1);rw[c50];exact c2S R Q P n this
 ·have:=I.km;show st.kn.length+(st.wt++ug).length<=(st.up.set g k).length+34 * (st.m+1);rw[c50];rw[c6B];exact c2Y R Q P n this
 ·show st.f+1=st.m+1;rw[I.fm];rfl
 ·have:=I.em;show st.e+1<=st.m+1+ties'.length;exact c2O tl this
theorem a2n (h:G3 kn x=some p):(x,p)∈kn:=by
 unfold G3 at h;refine i9 (c6G h) λe B J=>?_;clear h;subst J;have q:=List.find?_some B;have q:=c5y q;refine u7 q ?_;exact c5W B
theorem a45 {x y:G7} (h:G3 kn x=some p):G3 (kn++[(y,i)]) x=some p:=by
 unfold G3 at h ⊢;refine i9 (c6G h) λe q B=>?_;clear h;subst B;refine b9 List.find?_append ?_;rw[q];rfl
theorem a6k (h:G3 kn x=none):G3 (kn++[(x,i)]) x=some i:=by
 unfold G3 at h ⊢;refine b9 List.find?_append ?_;rw[(Option.map_eq_none_iff.mp h)];simp
noncomputable abbrev a1F (st:St):Prop:=Cmp st λ_ _=>False
noncomputable def b8C (st:St) (i:Nat):Prop:=∀ (j:Nat) (y:G7),st.nd[j]?=some y->j≠i->j∈st.wt\/∃ p,G3 st.kn (x8 st.up y)=some p/\g8 st.up p=g8 st.up j
variable {E:Nat->Nat->Prop}
theorem I7.toR (I:I7 lf st) (q:a2P st.nd lf E) (ha:a < st.up.length):E a (g8 st.up a) :=
 I.sound E q a _ ha (E9 I.up I.lt a ha) (a0b I.up ha).symm
theorem I7.like (I:I7 lf st) (B:a2P st.nd lf E) {y:G7} (Y:st.nd[p]?=some y) (V:st.nd[i]?=some x) (Z:y.1=x.1) (J:y.2.map (g8 st.up)=x.2.map (g8 st.up)):E p i:=by
 refine B.node p i y x Y V Z (by have:=c5z List.length J;simpa using this) λq a b O U=>?_
 refine I.sound E B a b (I.kid y (c5p Y) a (c5p O)) (I.kid x (c5p V) b (c5p U)) ?_;have:=c5z (λl=>l[q]?) J;simpa [O,U] using this
theorem I7.nlt (I:I7 lf st) (q:st.nd[i]?=some x):i < st.up.length:=by
 refine u7 I.eqn ?_;exact (c6C q).1
theorem a82 (I:I7 lf st) (h:∀ k∈l,k < st.up.length):(l.map (g8 st.up)).map (g8 st.up)=l.map (g8 st.up):=by
 rw[c55];exact c5C λk q=>a0b I.up (h k q)
theorem b4o (I:I7 lf st) (q:st.nd[i]?=some x) (V:st.kn.length+st.wt.length+1<=st.up.length+34 * st.m):I7 lf (st.know (x8 st.up x) i) :=
 have J:=I.kid x (c5p q)
 {I with
  knlt:=λp hp=>by
   rcases c6H hp with hp | hp
   ·exact I.knlt p hp
   ·obtain rfl:=c6I hp;exact I.nlt q
  knk:=λp hp a B=>by
   rcases c6H hp with hp | hp
   ·exact I.knk p hp a B
   ·obtain rfl:=c6I hp;refine i9 (c6D B) λb O U=>?_;clear B;subst U;exact E9 I.up I.lt b (J b O)
  kn:=λp hp=>by
   rcases c6H hp with hp | hp
   ·exact I.kn p hp
   ·obtain rfl:=c6I hp;exact ⟨x,q,rfl,(a82 I J).symm⟩
  km:=by
   show (st.kn++[_]).length+st.wt.length<=st.up.length+34 * st.m;rw[c50];simp only [List.length_singleton];exact c2z V}
theorem b6Q (I:I7 lf st) (q:st.nd[i]?=some x) (B:st.kn.length+st.wt.length+1<=st.up.length+34 * st.m):I7 lf (lkS st (x8 st.up x) i):=by
 unfold lkS
 split
 ·exact I
 ·exact b4o I q B
theorem b4J (I:I7 lf st) (q:st.nd[i]?=some x):∃ y,st.nd[lkO st (x8 st.up x) i]?=some y/\y.1=x.1/\y.2.map (g8 st.up)=x.2.map (g8 st.up):=by
 unfold lkO;cases e:G3 st.kn (x8 st.up x) with
 | none=>exact ⟨x,q,rfl,rfl⟩
 | some p =>
  refine p9 (I.kn _ (a2n e)) λy B J O=>⟨y,B,J,O.trans ?_⟩;exact a82 I (I.kid x (c5p q))
theorem b4L (st:St) (k:G7) (i:Nat):(lkS st k i).up=st.up/\(lkS st k i).nd=st.nd/\(lkS st k i).wt=st.wt/\(lkS st k i).m=st.m/\(lkS st k i).us=st.us:=by
 unfold lkS;split <;> exact ⟨rfl,rfl,rfl,rfl,rfl⟩
theorem b88 (st:St) (k:G7) (i:Nat):G3 (lkS st k i).kn k=some (lkO st k i):=by
 unfold lkS lkO;cases e:G3 st.kn k with
 | none=>exact a6k e
 | some p=>exact e
theorem b4K {st:St} {k q:G7} (h:G3 st.kn q=some p):G3 (lkS st k i).kn q=some p:=by
 unfold lkS
 split
 ·exact h
 ·exact a45 h
theorem b3N (c:b8C st i) (Y:st.nd[i]?=some x):Cmp (lkS st (x8 st.up x) i) λp j=>p=lkO st (x8 st.up x) i/\j=i:=λj y q=>by
 refine a59 (b4L st (x8 st.up x) i) λB J O a b=>?_;rw [J] at q;rw[O];rw[B];by_cases z:j=i
 ·clear b a O J B c;subst z;rw [Y] at q;have Z:=B8 q;clear q;subst Z;exact .inr ⟨_,b88 ..,.inr ⟨rfl,rfl⟩⟩
 ·rcases c j y q z with h | ⟨p,U,V⟩
  ·exact .inl h
  ·exact .inr ⟨p,b4K U,.inl V⟩
section
variable {l:List Int}{Q:l8}{E:Value->Shared->Prop}{n:Nat}{lay:Slot->Nat}{C:A0}
theorem a80 (L:J1 lay C H) (E:EG lay C st) (I:I7 lf st) (V:st.nd[i]?=some x) (c:b8C st i) (sl:st.kn.length+st.wt.length+1<=st.up.length+34 * st.m)
  (q:∀ O Y b J,J1 O Y b->EG O Y J->O9 lay C O Y->I7 lf J->a1F J->J.nd=st.nd->(J.m=st.m/\J.wt=st.wt\/J.m=st.m+1)->Q .none b) :
  (j3 FT (n+4)).call w4 Z8 [.ref (lay (.eg 0)),.int (i:Nat)] H Q:=by
 have B:=b6Q I V sl;have a:=I.nlt V;refine a59 (b4L st (x8 st.up x) i) λw k N A R=>p9 (b4J I V) λy u y2 M=>?_;have g:=I.nlt u;have v:=b3N c V;refine c0K L E I.toOk I.us I.kid I.knlt I.knl V a (λe Y b l d s=>?_) λe ug f O Y b l d s=>?_
 ·refine q _ _ _ _ l d s B (λj y W=>?_) k (.inl ⟨A,N⟩);rcases v j y W with h | ⟨p,T,o⟩
  ·exact .inl h
  ·refine .inr ⟨p,T,.inl ?_⟩;rcases o with o | ⟨rfl,rfl⟩
   ·exact o
   ·rw[w];exact e
 ·clear N;generalize hS:lkS st (x8 st.up x) i=S at *;generalize hP:lkO st (x8 st.up x) i=P at *;rw [<- w] at e d f g a M;rw [<- k] at u V;rw [<- R] at f;have G:=I3 B.up P g;have K:=I3 B.up i a;have lP:=E9 B.up B.lt P g;have X:=E9 B.up B.lt i a;have F:min (g8 S.up P) (g8 S.up i) < max (g8 S.up P) (g8 S.up i):=by exact c3d e
  have r:S.up[min (g8 S.up P) (g8 S.up i)]?=some (min (g8 S.up P) (g8 S.up i)):=by
   rcases c5Z (g8 S.up P) (g8 S.up i) with z | z
   ·rw[(Nat.min_eq_left z)];exact G
   ·rw[(Nat.min_eq_right z)];exact K
  have Z:S.up[max (g8 S.up P) (g8 S.up i)]?=some (max (g8 S.up P) (g8 S.up i)):=by
   rcases c5Z (g8 S.up P) (g8 S.up i) with z | z
   ·rw[(Nat.max_eq_right z)];exact K
   ·rw[(Nat.max_eq_left z)];exact G
  refine eE (B.has _ (by exact c5v (Nat.min_le_right _ _) X) (a0c B.up r)) λuk t=>?_
  have why:∀ E,a2P S.nd lf E->E (min (g8 S.up P) (g8 S.up i)) (max (g8 S.up P) (g8 S.up i)):=λE U=>by
   have h:=B.like U u V y2 M;have h:=U.trans _ _ _ (U.symm _ _ (B.toR U g)) (U.trans _ _ _ h (B.toR U a));rcases c5Z (g8 S.up P) (g8 S.up i) with z | z
   ·rw[(Nat.min_eq_left z)];rw[(Nat.max_eq_right z)];exact h
   ·rw[(Nat.min_eq_right z)];rw[(Nat.max_eq_left z)];exact U.symm _ _ h
  refine q _ _ _ _ l d s (a8L B r Z F t f why (λ_ h=>h) (λ_ h=>.inl h) (c5w _) B.tl) ?_ k (.inr (by show S.m+1=_;rw[A];rfl))
  refine a8e B.toOk B.kid B.eqn B.knlt B.nod B.use r Z F f (λp j D=>?_) v;refine eA D λq1 q2=>?_;clear D lP G g u;subst q1;clear why t Z r F d v f e hP X K hS a V c;subst q2;exact c4C
theorem b7i (L:J1 lay C H) (E:EG lay C st) {w:List Nat}:J1 lay (upd C (.eg 17) (.list (iL w))) (H.set (lay (.eg 17)) (.list (iL w)))/\EG lay (upd C (.eg 17) (.list (iL w))) {st with wt:=w} :=
 ⟨L.put E.c17,{E.toHd.upd (s:=.eg 17) (o:=.list (iL w)) rfl with
  c4:=E.c4,c5:=E.c5,c6:=E.c6,c7:=E.c7,c10:=E.c10,c11:=E.c11
  cl:=λi q=>(E.cl i q).imp λ_=>And.imp_left (j5 K2).trans
  c12:=E.c12,c13:=E.c13,c14:=E.c14,c15:=E.c15,c16:=E.c16
  cu:=λp B=>(j5 N1).trans (E.cu p B)
  c17:=C0}⟩
theorem b6R (I:I7 lf st) {w:List Nat} (h:∀ a∈w,a∈st.wt) (q:w.length<=st.wt.length):I7 lf {st with wt:=w} :=
 {I with
  wlt:=λi B=>I.wlt i (h i B)
  wm:=c5r q I.wm
  km:=c5r (c5I q _) I.km}
theorem b6P (L:J1 lay C H) (E:EG lay C st) (I:I7 lf st) (c:a1F st)
  (q:∀ O o A J,J1 O o A->EG O o J->O9 lay C O o->I7 lf J->a1F J->J.nd=st.nd->J.wt=[]->Q .none A) :
  (j3 FT (n+5)).call w4 a3n [.ref (lay (.eg 0))] H Q:=by
 refine o8 rfl rfl (f9 (a5t (λk N F=>∃ U r B,J1 U r F/\EG U r B/\O9 lay C U r/\I7 lf B/\a1F B/\B.nd=st.nd/\N f8=some (.ref (U (.eg 0)))/\k=(17 - B.m) * 1000+B.wt.length) _ ⟨lay,C,st,L,E,.refl _ _,I,c,rfl,rfl,rfl⟩ λk N F hI W hW=>?_));obtain ⟨U,r,B,Y,V,P,Z,G,M,z,rfl⟩:=hI;have R:(iL B.wt).length<=n8:=by rw[(n0 ..)];exact c5r Z.us.wt (by decide)
 refine t0 (M0 (d8 (O4 Y V.toHd (o9 z) rfl (i8 (D8 (Y.at_ _ _ V.c17) R (m3 (gt_int ⟨λt=>?_,λt=>?_⟩)))))))
 ·have t:=c5y t;rw [n0] at t;obtain ⟨w,i,f⟩:∃ w i,B.wt=w++[i]:=⟨B.wt.dropLast,B.wt.getLast (λe=>by rw [e] at t;simp at t),(List.dropLast_concat_getLast _).symm⟩
  refine eA (b7i Y V (w:=w)) λL2 T=>?_;have d:B.wt.length=w.length+1:=by rw[f];rw[c50];rfl
  have X:=b6R Z (w:=w) (λa ha=>by rw[f];exact c5D _ ha) (c0b d)
  have hi:i < B.up.length:=Z.wlt i (by rw[f];exact c5E _ (c6M rfl))
  obtain ⟨x,hx⟩:∃ x,B.nd[i]?=some x:=⟨_,c5s (by rw[Z.eqn];exact hi)⟩
  refine f9 (F0 (C6 (rfl) (Y.at_ _ _ V.c0) (Y.at_ _ _ V.c1) rfl (o9 z) (d8 (b4S (λ_ q=>O4 Y V.toHd (o9 z) rfl q) (Y.at_ _ _ V.c17) (i8 (b3t (v:=.int (i:Nat)) (Y.at_ _ _ V.c17) R (by rw[f];unfold iL;rw[c54];rw[List.map_singleton];refine b9 List.getLast?_concat ?_;rfl) ?_))))))
  have e3:(iL B.wt).dropLast=iL w:=by rw[f];unfold iL;rw[c54];rw[List.map_singleton];rw[List.dropLast_concat];rfl
  rw[e3];refine i8 (a80 (n:=n) L2 T X hx (λj y hy hj=>?_) ?_ λO o A J l e s u S D mw=>?_)
  ·rcases G j y hy with h | ⟨p,h1,h2⟩
   ·rw [f] at h;rcases c6H h with h | h
    ·exact .inl h
    ·exact c59 (c6I h) hj
   ·exact .inr ⟨p,h1,h2.resolve_right λh=>h⟩
  ·have:=Z.km;show B.kn.length+w.length+1<=B.up.length+34 * B.m;exact c2V d this
  ·refine b03 (K:=j3 FT (n+4)) (hW _ _ _ ?_ ⟨O,o,J,l,e,P.trans ⟨s.eg,s.lay,s.con⟩,u,S,D.trans M,?_,rfl⟩)
   ·have:=u.wm;have:=u.mr;have:=u.small;rcases mw with ⟨a,b⟩ | a
    ·have b:J.wt=w:=b;have a:J.m=B.m:=a;rw[a];rw[b];exact c2s d
    ·have a:J.m=B.m+1:=a;have:=Z.mr;have:=Z.small;exact c2X ‹_› ‹_› ‹_› a
   ·rw[(s.eg ..)];exact z
 ·have t:=c6j t;rw [n0] at t;exact q _ _ _ _ Y V P Z G M (c5S (by exact Nat.eq_zero_of_not_pos λg=>t (c6P g)))
variable {Q:F7}
theorem b86 {s:String} (B:∀ Q:l8,Q (.str s) H->e K r H Q) :
  a71 (w7 e) K r H (s.toList.map λc=>f7.str (String.singleton c)) :=
 λR q=>B _ (.inr (.inl ⟨s,rfl,q _ H (.refl _) λ_ _ _=>rfl⟩))
theorem c0E (B:a0M v=true) (q:Q true H):P0 .eq v v H Q:=⟨true,.inl (.inl ⟨B,B,by simp⟩),q⟩
theorem c3A {v w:f7} (B:a0M v=true) (J:a0M w=true) (h:v≠w) (q:Q false H):P0 .eq v w H Q:=⟨false,.inl (.inl ⟨B,J,by simp [h]⟩),q⟩
theorem c3R {v w:f7} (B:a0M v=true) (J:a0M w=true) (h:v≠w) (q:Q true H):P0 .ne v w H Q:=.inl ⟨false,.inl (.inl ⟨B,J,by simp [h]⟩),q⟩
theorem V5 {c B:Cv} (h:c K r H λb q=>(b=true->Q true q)/\(b=false->B K r q Q)):R4 c B K r H Q:=h
theorem a31 (q:Q false H):a5h K r H Q:=q
theorem b7V {B J:COp} {a b c:Ev} (h:a K r H λv O=>b K r O λw U=>P0 B v w U λt q=>(t=true->c K r q λu V=>P0 J w u V Q)/\(t=false->Q false q)):a6S B J a b c K r H Q:=h
theorem le_int {i j:Int} (q:Q (decide (i<=j)) H):P0 .le (.int i) (.int j) H Q:=⟨i,j,rfl,rfl,q⟩
theorem b1f (h:H a=some (.dict es ep)) (B:J6 es v) (q:Q (B4 es v).isSome H):P0 .isin v (.ref a) H Q:=.inr (.inr (.inr ⟨a,es,ep,rfl,h,B,q⟩))
theorem a8W {a b:Nat} {xs ys:List f7} (q:H a=some (.list xs)) (B:H b=some (.list ys)) (J:a2L xs=true) (O:a2L ys=true) (V:xs=ys->Q true H) (U:xs≠ys->Q false H):P0 .eq (.ref a) (.ref b) H Q:=by
 by_cases e:xs=ys
 ·exact ⟨true,.inl (.inr ⟨a,b,xs,ys,rfl,rfl,q,B,.inl ⟨J,O⟩,by simp [e]⟩),V e⟩
 ·exact ⟨false,.inl (.inr ⟨a,b,xs,ys,rfl,rfl,q,B,.inl ⟨J,O⟩,by simp [e]⟩),U e⟩
theorem b64 {c:Char} {Q:l8} (O:∀ Q:l8,Q (.str (String.singleton c)) H->e K r H Q) (B:97<=c.toNat) (J:c.toNat<=122) (q:Q (.bool false) H):l4 e a6q h9 K r H Q :=
 O _ ⟨.str,⟨⟨_,rfl⟩,rfl⟩,⟨_,rfl,rfl,⟨c,B,J,rfl⟩,q⟩⟩
theorem in_str {b:String} {c:Char} (B:97<=c.toNat) (J:c.toNat<=122) (q:Q (b.toList.contains c) H):P0 .isin (.str (String.singleton c)) (.str b) H Q:=.inl ⟨b,c,rfl,B,J,rfl,q⟩
theorem b7b {c:Char} (q:97<=c.toNat) (B:c.toNat<=122):"()[]{},:".toList.contains c=false:=by
 have e:"()[]{},:".toList=['(',')','[',']','{','}',',',':']:=by decide +kernel
 rw[e];refine D5 (Bool.eq_false_iff ..) ?_;intro h;rw [List.contains_iff_mem] at h;simp only [List.mem_cons,List.not_mem_nil,or_false] at h;rcases h with h | h | h | h | h | h | h | h <;> subst h <;> revert q B <;> decide
theorem R5 (c:Char):(String.singleton c).toList=[c]:=by simp
variable {Q:l8}{c:Char}
theorem c3J (J:97<=c.toNat) (O:c.toNat<=122) (q:∀ B,m4 H B->Q (.bool true) B):(j3 FT (n+1)).call 0 a7y [.str (String.singleton c)] H Q:=by
 have f:f7.str (String.singleton c)≠.str "":=λe=>by
  injection e with e
  have:=c5z String.toList e;have Y:"".toList=[]:=by decide +kernel
  rw [R5,Y] at this;cases this
 refine o8 rfl rfl (f9 (A4 (c1d (a0Z (t0 (f6 rfl (m3 (c3R rfl rfl f ⟨true,rfl,λ_=>?_,(λt=>nomatch t)⟩))))))))
 refine a0Z (t0 (X5 (l:=(String.singleton c).toList) (g:=λ_=>[]) (by rw[(R5 ..)];exact c5B _) (b86 (o9 rfl)) (λv V B k P Z=>?_) λB a k d=>?_))
 ·rw [R5] at V;clear f;obtain rfl:=c6I V;exact F6 (V5 (a2W (b64 (o9 rfl) J O ⟨false,rfl,(λt=>nomatch t),λ_=>V5 (t0 (f6 rfl (m3 (in_str J O ⟨λt=>(by rw [b7b J O] at t;cases t),λ_=>a31 ⟨(λt=>nomatch t),λ_=>⟨(λt=>nomatch t),λ_=>Z _ (.refl _)⟩⟩⟩))))⟩)))
 ·refine a0x (i8 λb U=>a8W (xs:=[]) (ys:=[]) ?_ l0 rfl rfl (λ_=>?_) λe=>c59 rfl e)
  ·have:b≠a:=λe=>by rw [e,l0] at U;cases U
   rw[(C8 (λe=>this e.symm))];rw[l0];rw[(R5 ..)];rfl
  ·exact q _ (k.trans ((m4.new d).trans (.new U)))
theorem c3x (L:J1 lay C H) (E:EG lay C st) (J:97<=c.toNat) (O:c.toNat<=122) (q:∀ B,m4 H B->Q .none B):(j3 FT (n+2)).call O5 a3T [.ref (lay (.eg 2)),.str (String.singleton c)] H Q:=by
 have Y:f7.str (String.singleton c)≠.str "?":=λe=>by
  injection e with e
  have:=c5z String.toList e;rw [R5] at this;have V:"?".toList=['?']:=by decide +kernel
  rw [V] at this;injection this with this
  clear e O;subst this;revert J;decide
 refine o8 rfl rfl (f9 (J7 (V5 (b1R (a2W (M7 (d8 (f6 rfl (i8 (c3J J O λB k=>⟨true,rfl,(λt=>nomatch t),λ_=>?_⟩))))))))))
 refine V5 (t0 (B7 (f6 rfl (m3 (.inl ⟨_,0,c,rfl,rfl,by rw[(R5 ..)];rfl,by rw[(R5 ..)];exact c5o rfl,λd U=>by rw [R5] at U;rw[(c6I U)];exact c5v O (c5o rfl),?_⟩)))))
 exact m3 (c3A rfl rfl Y ⟨(λt=>nomatch t),λ_=>a31 ⟨(λt=>nomatch t),λ_=>q _ k⟩⟩)
theorem a9r (h:H a=some (.list (l.map f7.int))) (q:Q (.int l.sum) H):biW .sum [.ref a] H Q:=⟨a,l,rfl,h,q⟩
theorem a83 (h:H a=some (.list (l.map f7.int))) (B:l≠[]) (q:Q (.int (b0c l)) H):biW .max [.ref a] H Q:=⟨a,l,rfl,h,B,q⟩
noncomputable def St.node (st:St) (x:G7):St:={st with nd:=st.nd++[x]}
theorem a11 (L:J1 lay C H) (E:Hd lay C) (J:r f8=some (.ref (lay (.eg 2)))) (h:C (.eg 4)=some (.list xs)) (B:xs.length<=n8) (q:Q (.int (xs.length:Nat)) H):O3 .len (d7 (n7 (d6 f8) r9) h9) K r H Q :=
 M0 (d8 (a1L L E (o9 J) rfl (i8 (D8 (L.at_ _ _ h) B q))))
theorem a8P (L:J1 lay C H) (E:Hd lay C) {f:Nm} {s:Slot} (Z:a0i (a9F lay) f=some (.ref (lay s))) (m:r f8=some (.ref (lay (.eg 2)))) (j:r B2=some (s9 x)) (h:C s=some (.list (l.map f7.int))) (d:l.length<=n8) (c:∀ k∈x.2,k < l.length) (two:x.2.length<=2)
  (q:∀ a B,m4 H B->B a=none->Q (.ref a) (B.set a (.list ((x.2.map λk=>l.getD k 0).map f7.int)))):t8 (m9 (n7 (d6 f8) f) (d6 m7)) [m7] true (w7 (a0f (d6 B2) (j7 (.int 1)))) y9 K r H Q:=by
 have e:(x.2.flatMap λk=>[f7.int (l.getD k 0)])=(x.2.map λk=>l.getD k 0).map f7.int:=by rw[(B1 ..)];rw[c55];rfl
 refine X5 (l:=x.2) (f:=λi=>.int (i:Nat)) (g:=λk=>[.int (l.getD k 0)]) (by rw[(B1 ..)];rw[(c5q ..)];unfold n8;exact zo0 two) (a1p λR V=>a5D (f6 j (m3 (a1z (v:=.str x.1) (by rw[(n0 ..)];unfold n8;exact zo1 two) (V H (.refl _)))))) (λi b B k P U=>?_) λB a k Y=>by rw[e];exact q a B k Y
 have O:(r.set m7 (.int (i:Nat))) f8=some (.ref (lay (.eg 2))):=m;have J:=c i b;refine G4 (B7 (a1L (L.keep k) E (o9 O) Z (f6 rfl (I4 (i:=i) (x:=.int (l.getD i 0)) ((L.keep k).at_ _ _ h) (by rw[(c5q ..)];exact d) ?_ (U B (.refl _))))))
 rw[c5x];rw[(c5s J)];rw[c5H];rw[(c5s J)];rfl
theorem b11 (L:J1 lay C H) (E:EG lay C st) (two:x.2.length<=2) (h:G3 st.nd.zipIdx x=some p) (q:Q (.int (p:Nat)) H):(j3 FT (n+1)).call O5 a7B [.ref (lay (.eg 2)),.str x.1,.tup (iL x.2)] H Q:=by
 refine eE E.c5 λO B=>?_;have J:B4 (a09 st.nd) (s9 x)=some (.int (p:Nat)):=by
  show B4 (knV st.nd.zipIdx) (s9 x)=_;rw[a2l];rw[h];rfl
 refine o8 rfl rfl (f9 (t7 (C5 (D2 (d8 (f6 rfl (i8 (M0 (d8 (f6 rfl (i8 (b1O ?_ (a4G ?_ (y0 ?_))))))))))))))
 ·rw[(n0 ..)];unfold n8;exact zo0 two
 ·rw[(n0 ..)];show 1+_<=_;unfold n8;exact zo8 two
 refine f9 (J7 (t0 (f6 (v:=s9 x) rfl (a1L L E.toHd (o9 rfl) rfl (b1f (L.at_ _ _ B) (a6l (kn:=st.nd.zipIdx) x) ⟨λ_=>?_,λt=>?_⟩)))))
 ·exact f9 (A4 (B7 (a1L L E.toHd (o9 rfl) rfl (f6 (v:=s9 x) rfl (a0h (L.at_ _ _ B) (a6l (kn:=st.nd.zipIdx) x) J q)))))
 ·rw [J] at t;cases t
theorem b10 (L:J1 lay C H) (E:EG lay C st) (d:st.nd.length < 17) (hc:x.1=String.singleton c) (c1:97<=c.toNat) (c2:c.toNat<=122) (two:x.2.length<=2) (X:∀ k∈x.2,k < st.nd.length) (h:G3 st.nd.zipIdx x=none)
  (q:∀ G H',J1 lay G H'->EG lay G (st.node x)->O9 lay C lay G->Q (.int (st.nd.length:Nat)) H'):(j3 FT (n+3)).call O5 a7B [.ref (lay (.eg 2)),.str x.1,.tup (iL x.2)] H Q:=by
 refine eE E.c5 λep N=>i9 E.c6 λU w1 F=>i9 E.c7 λJ d1 z=>?_;have hg:B4 (a09 st.nd) (s9 x)=none:=by
  show B4 (knV st.nd.zipIdx) (s9 x)=_;rw[a2l];rw[h];rfl
 have nl:(st.nd.map s9).length=st.nd.length:=c5q ..;have Z:(st.nd.map s9).length<=n8:=by rw[nl];unfold n8;exact zo4 d
 refine o8 rfl rfl (f9 (t7 (C5 (D2 (d8 (f6 rfl (i8 (M0 (d8 (f6 rfl (i8 (b1O ?_ (a4G ?_ (y0 ?_))))))))))))))
 ·rw[(n0 ..)];unfold n8;exact zo0 two
 ·rw[(n0 ..)];show 1+_<=_;unfold n8;exact zo8 two
 refine f9 (J7 (t0 (f6 (v:=s9 x) rfl (a1L L E.toHd (o9 rfl) rfl (b1f (L.at_ _ _ N) (a6l (kn:=st.nd.zipIdx) x) ⟨λt=>?_,λ_=>b03 ?_⟩)))))
 ·rw [hg] at t;cases t
 refine f9 (F0 (C6 (rfl) (L.at_ _ _ E.c2) (L.at_ _ _ E.c3) rfl (o9 rfl) (d8 (f6 (v:=.str (String.singleton c)) (by refine u7 hc ?_;rfl) (i8 (c3x L E c1 c2 λH1 k1=>?_))))))
 have g:=L.keep k1;refine f9 (b5r (a5D (f6 (v:=s9 x) rfl (m3 (a1z (v:=.str x.1) (by rw[(n0 ..)];unfold n8;exact zo1 two) (.inl ⟨iL x.2,rfl,_,a0g (src:=.seq (iL x.2)) (iL x.2) (λi r1 M=>M=H1/\r1 f8=some (.ref (lay (.eg 2)))/\r1 B2=some (s9 x)) (λ_ _ _ _=>rfl) (λr2 M j=>?_) (λi v r2 M hv j W hW _=>?_) ((iL x.2).length+1) 0 _ _ (b96) (c5B _) ⟨rfl,rfl,rfl⟩⟩))))))
 ·refine eAA j λq1 O f=>?_;clear j k1;subst q1;refine f9 (t7 (a11 g E.toHd O E.c4 Z (a2e (λ_ q=>a1L g E.toHd (o9 O) rfl q) (o9 f) (g.at_ _ _ N) (a6l (kn:=st.nd.zipIdx) x) ?_ ?_)))
  ·show (knV _).length<=_;unfold knV;rw[(c5q ..)];rw[List.length_zipIdx];unfold n8;exact zo4 d
  have hd:J2 (a09 st.nd) (s9 x) (.int ((st.nd.map s9).length:Nat))=a09 (st.nd++[x]):=by
   unfold J2;rw[hg];rw[(c57 (by simp))];rw[nl]
   unfold a09;rw[List.zipIdx_append];rw[c54];simp
  rw[hd];generalize dep _ _ _=B;have u:=g.put (o:=.dict (a09 (st.nd++[x])) B) N;have E2:=E.toHd.upd (s:=.eg 5) (o:=.dict (a09 (st.nd++[x])) B) rfl;have i4:(upd C (.eg 5) (.dict (a09 (st.nd++[x])) B)) (.eg 4)=some (.list (st.nd.map s9)):=(j5 (by decide)).trans E.c4
  refine f9 (F0 (I5 (λ_ q=>a1L u E2 (o9 O) rfl q) (u.at_ _ _ i4) (d8 (f6 f (i8 (G1 (u.at_ _ _ i4) Z ?_))))));have e2:st.nd.map s9++[s9 x]=(st.nd++[x]).map s9:=by rw[c54];rfl
  rw[e2];have w:=u.put (o:=.list ((st.nd++[x]).map s9)) i4;have I:=E2.upd (s:=.eg 4) (o:=.list ((st.nd++[x]).map s9)) rfl;have A:(upd (upd C (.eg 5) (.dict (a09 (st.nd++[x])) B)) (.eg 4) (.list ((st.nd++[x]).map s9))) (.eg 6)=some (.list (U.map f7.int)):=(j5 (by decide)).trans ((j5 (by decide)).trans w1)
  refine f9 (F0 (I5 (λ_ q=>a1L w I (o9 O) rfl q) (w.at_ _ _ A) (d8 (C5 (m3 (M0 (d8 (a8P w I (s:=.eg 6) rfl O f A (by rw[F];unfold n8;exact zo4 d) (by rw[F];exact X) two λa H4 k4 P=>i8 (a9r l0 (K7 (i8 ?_)))))))))))
  have L4:=w.keep (k4.trans (.new (o:=.list ((x.2.map λk=>U.getD k 0).map f7.int)) P));generalize (1+((x.2.map λk=>U.getD k 0).sum):Int)=V;refine G1 (L4.at_ _ _ A) (by rw[(c5q ..)];rw[F];unfold n8;exact zo4 d) ?_
  have e6:U.map f7.int++[.int V]=(U++[V]).map f7.int:=by rw[c54];rfl
  rw[e6];have y:=L4.put (o:=.list ((U++[V]).map f7.int)) A;have K:=I.upd (s:=.eg 6) (o:=.list ((U++[V]).map f7.int)) rfl;have D:(upd (upd (upd C (.eg 5) (.dict (a09 (st.nd++[x])) B)) (.eg 4) (.list ((st.nd++[x]).map s9))) (.eg 6) (.list ((U++[V]).map f7.int))) (.eg 7)=some (.list (J.map f7.int)):=(j5 (by decide)).trans ((j5 (by decide)).trans ((j5 (by decide)).trans d1))
  refine f9 (F0 (I5 (λ_ q=>a1L y K (o9 O) rfl q) (y.at_ _ _ D) (d8 (C5 (m3 (M0 (d8 (C5 (a8P y K (s:=.eg 7) rfl O f D (by rw[z];unfold n8;exact zo4 d) (by rw[z];exact X) two λa H6 k6 P=>a0x (d8 (m3 (i8 λb S=>?_))))))))))))
  have R:(Hp.set (Hp.set H6 a (.list ((x.2.map λk=>J.getD k 0).map f7.int))) b (.list [.int 0])) a=some (.list ((x.2.map λk=>J.getD k 0).map f7.int)):=by
   rw[(C8 λe=>by rw [<- e,l0] at S;cases S)];exact l0
  refine add_list R l0 (by rw[(c5q ..)];rw[(c5q ..)];show _+1<=_;unfold n8;exact zo1 two) λc' T=>i8 (a83 (l:=(x.2.map λk=>J.getD k 0)++[0]) (by rw[l0];rw[c54];rfl) (by simp) (K7 (i8 ?_)))
  have L6:=y.keep (((k6.trans (.new (o:=.list ((x.2.map λk=>J.getD k 0).map f7.int)) P)).trans (.new (o:=.list [.int 0]) S)).trans (.new (o:=.list ((x.2.map λk=>J.getD k 0).map f7.int++[.int 0])) T));generalize (1+b0c _:Int)=Y;refine G1 (L6.at_ _ _ D) (by rw[(c5q ..)];rw[z];unfold n8;exact zo4 d) ?_
  have e7:J.map f7.int++[.int Y]=(J++[Y]).map f7.int:=by rw[c54];rfl
  rw[e7];have L7:=L6.put (o:=.list ((J++[Y]).map f7.int)) D;have E7:=K.upd (s:=.eg 7) (o:=.list ((J++[Y]).map f7.int)) rfl;have j4:(upd (upd (upd (upd C (.eg 5) (.dict (a09 (st.nd++[x])) B)) (.eg 4) (.list ((st.nd++[x]).map s9))) (.eg 6) (.list ((U++[V]).map f7.int))) (.eg 7) (.list ((J++[Y]).map f7.int))) (.eg 4)=some (.list ((st.nd++[x]).map s9)):=(j5 (by decide)).trans ((j5 (by decide)).trans C0)
  have m:((st.nd++[x]).map s9).length=st.nd.length+1:=by rw[(c5q ..)];rw[c50];rfl
  refine f9 (A4 (C5 (a11 L7 E7 O j4 (by rw[m];unfold n8;exact c5r d (c5o rfl)) (m3 (sub_int ?_)))))
  rw[m];rw[(show (((st.nd.length+1:Nat):Int) - 1)=(st.nd.length:Nat) by exact Int.sub_eq_iff_eq_add.mpr rfl)]
  refine q _ _ L7 ?_ ⟨λ_=>rfl,λ_=>rfl,λ_=>rfl⟩;have fe:∀ s,s≠.eg 4->s≠.eg 5->s≠.eg 6->s≠.eg 7->upd (upd (upd (upd C (.eg 5) (.dict (a09 (st.nd++[x])) B)) (.eg 4) (.list ((st.nd++[x]).map s9))) (.eg 6) (.list ((U++[V]).map f7.int))) (.eg 7) (.list ((J++[Y]).map f7.int)) s=C s :=
   λs h4 h5 h6 h7=>(j5 h7).trans ((j5 h6).trans ((j5 h4).trans (j5 h5)))
  exact {E7 with
   c4:=j4
   c5:=⟨B,(j5 (by decide)).trans ((j5 (by decide)).trans ((j5 (by decide)).trans C0))⟩
   c6:=⟨U++[V],(j5 (by decide)).trans C0,by rw[c50];rw[F];show _=(st.nd++[x]).length;rw[c50];rfl⟩
   c7:=⟨J++[Y],C0,by rw[c50];rw[z];show _=(st.nd++[x]).length;rw[c50];rfl⟩
   c10:=E.c10,c11:=E.c11
   cl:=λi hi=>(E.cl i hi).imp λ_=>And.imp_left (fe _ K2 K2 K2 K2).trans
   c12:=E.c12,c13:=E.c13,c14:=E.c14,c15:=E.c15,c16:=E.c16
   cu:=λp hp=>(fe _ N1 N1 N1 N1).trans (E.cu p hp)
   c17:=E.c17}
 ·refine eAA j λq2 O f=>?_;clear j k1;subst q2;refine i9 (a7t (c5p hv)) λk a0 q3=>?_;clear hv;subst q3;have a1:=X k a0;refine ⟨_,D6,f9 (J7 (b1R (b7V (m3 (f6 rfl (le_int ⟨λ_=>a11 g E.toHd (r:=r2.set m7 (.int (k:Nat))) O E.c4 Z (lt_int ⟨λt=>?_,λ_=>hW _ _ ⟨rfl,O,f⟩⟩),λt=>?_⟩))))))⟩
  ·rw [nl] at t;have:((k:Nat):Int) < (st.nd.length:Nat):=by exact c6P a1
   rw [decide_eq_true this] at t;cases t
  ·have:=c6j t;exact (c4A this).elim
end
noncomputable def Y0 (n:Nat) (us:List (Nat×List Nat)) (c:Nat):List (Nat×List Nat):=us.map λp=>if p.1=c then (c,p.2++[n]) else p
noncomputable def a0w (n:Nat) (us:List (Nat×List Nat)) (zs:List Nat):List (Nat×List Nat):=zs.foldl (Y0 n) us
section
variable {n:Nat}{us:List (Nat×List Nat)}{zs:List Nat}
theorem a6G:(Y0 n us c).map (·.1)=us.map (·.1):=by
 unfold Y0;rw[c55];refine c5C λp _=>?_;show (if p.1=c then (c,p.2++[n]) else p).1=p.1
 split
 ·rename_i e;exact e.symm
 ·rfl
theorem a2y:∀ {zs:List Nat} {us:List (Nat×List Nat)},(a0w n us zs).map (·.1)=us.map (·.1):=by
 intro zs;induction zs with
 | nil=>intro _;exact rfl
 | cons z zs q=>intro us;exact (q (us:=Y0 n us z)).trans a6G
theorem b3g {u:List Nat} (h:(a,u)∈us):∃ v,(a,v)∈Y0 n us c/\(∀ i∈u,i∈v)/\(a=c->n∈v):=by
 by_cases e:a=c
 ·exact ⟨u++[n],c6E ⟨_,h,by rw[(c58 e)];rw[e];rfl⟩,λi q=>c5D _ q,λ_=>c5E _ (c6M rfl)⟩
 ·exact ⟨u,c6E ⟨_,h,c57 e⟩,λi q=>q,λz=>c59 z e⟩
theorem a2z:∀ {zs:List Nat} {us:List (Nat×List Nat)} {a:Nat} {u:List Nat},(a,u)∈us->∃ v,(a,v)∈a0w n us zs/\(∀ i∈u,i∈v)/\(a∈zs->n∈v):=by
 intro zs;induction zs with
 | nil=>intro _ _ u h;exact ⟨u,h,λ_ h=>h,λh=>nomatch h⟩
 | cons z zs b =>
  intro us a u h;refine p9 (b3g (n:=n) (c:=z) h) λv B J O=>p9 (b B) λw U q V=>⟨w,U,λi Z=>q i (J i Z),λY=>?_⟩;rcases c6K Y with e | e
  ·exact q n (O e)
  ·exact V e
theorem b53 {p:Nat×List Nat} (h:p∈Y0 n us c) (hi:i∈p.2):i=n\/∃ q∈us,i∈q.2:=by
 refine i9 (c6D h) λq B J=>?_;clear h;subst J
 split at hi
 ·rcases c6H hi with hi | hi
  ·exact .inr ⟨q,B,hi⟩
  ·exact .inl (c6I hi)
 ·exact .inr ⟨q,B,hi⟩
theorem b52:∀ {zs:List Nat} {us:List (Nat×List Nat)} {p:Nat×List Nat},p∈a0w n us zs->∀ {i:Nat},i∈p.2->i=n\/∃ q∈us,i∈q.2:=by
 intro zs;induction zs with
 | nil=>intro _ p h _ B;exact .inr ⟨p,h,B⟩
 | cons z zs U =>
  intro us p h i B;rcases U (us:=Y0 n us z) h B with e | ⟨q,J,O⟩
  ·exact .inl e
  ·exact b53 J O
theorem b3h (J:(us.map (·.1)).Nodup):((Y0 n us c).map λp=>p.2.length).sum<=(us.map λp=>p.2.length).sum+1:=by
 by_cases h:∃ u,(c,u)∈us
 ·revert h;intro q;refine eE q λu h=>?_;clear q;unfold Y0;rw[(b5M (ug:=[n]) J h)];exact c5w _
 ·have:Y0 n us c=us:=by
   conv=>rhs;(rewrite [<- List.map_id us];try rfl)
   refine c5C λp B=>?_;have:p.1≠c:=λz=>h ⟨p.2,by refine u7 z ?_;exact B⟩
   rw[(c57 this)];rfl
  rw[this];exact c4y
theorem a6F:∀ {zs:List Nat} {us:List (Nat×List Nat)},(us.map (·.1)).Nodup->((a0w n us zs).map λp=>p.2.length).sum<=(us.map λp=>p.2.length).sum+zs.length:=by
 intro zs;induction zs with
 | nil=>intro _ _;exact c5w _
 | cons z zs O =>
  intro us q;have B:=O (us:=Y0 n us z) (by rw[a6G];exact q)
  have J:=b3h (n:=n) (c:=z) q;rw[c6d];show ((a0w n (Y0 n us z) zs).map λp=>p.2.length).sum<=_;exact c3l B J
theorem b0B:a3p (up++[up.length])=a3p up+1:=by
 unfold a3p;rw[c50];show ((List.range (up.length+1)).filter _).length=_;rw[List.range_succ];rw[(List.filter_append ..)];rw[c50]
 congr 1
 ·congr 1
  refine List.filter_congr λa q=>?_;rw[(b51 (c6O q))];rfl
 ·refine b9 (List.filter_cons_of_pos (by rw[a7V];simp)) ?_;rfl
variable {l:List Int}
noncomputable def St.added (st:St) (x:G7) (zs:List Nat):St:={st with nd:=st.nd++[x],up:=st.up++[st.up.length],us:=a0w st.up.length (st.us++[(st.up.length,[])]) zs}
theorem a5d {q:List G7} {x y:G7} {j:Nat} (h:(q++[x])[j]?=some y):q[j]?=some y\/(j=q.length/\y=x):=by
 by_cases l:j < q.length
 ·rw [List.getElem?_append_left l] at h;exact .inl h
 ·rw [List.getElem?_append_right (zo7 l)] at h;have B:=(c6C h).1;simp only [List.length_singleton] at B;have e:j=q.length:=by exact c1O l B
  clear B l;subst e;simp at h;exact .inr ⟨rfl,h.symm⟩
end
variable {l:List Int}{Q:l8}{E:Value->Shared->Prop}{zs:List Nat}
theorem b2p (I:I7 lf st) (L:st.up.length < 17) (two:x.2.length<=2) (t:∀ k∈x.2,k < st.up.length) (zn:zs.Nodup) (M:∀ c,c∈zs↔c∈x.2.map (g8 st.up)):I7 lf (st.added x zs):=by
 have B:(st.added x zs).up.length=st.up.length+1:=c50;have U:=U9 I.up I.lt;have K:g8 (st.up++[st.up.length]) st.up.length=st.up.length:=a0c (a3A I.up) a7V;have r:∀ {l:List Nat},(∀ k∈l,k < st.up.length)->l.map (g8 (st.up++[st.up.length]))=l.map (g8 st.up):=λh=>c5C λk t=>U k (h k t);have s:((st.us++[(st.up.length,([]:List Nat))]).map λp=>p.1).Nodup:=by
  rw[c54];refine D5 (List.nodup_append ..) ?_;refine ⟨I.nod,by simp,λa O b f e=>?_⟩
  refine i9 (c6D O) λp hp S=>?_;clear O;subst S;have:=I.uslt p hp;simp at f;exact c5Q this (e.trans f)
 have X:zs.length<=2:=by
  have:=a0o zn (m:=x.2.map (g8 st.up)) λa O=>(M a).mp O;rw [List.length_map] at this;exact c5r this two
 have J:∀ y∈(st.added x zs).nd,∀ k∈y.2,k < st.up.length:=λy hy k h=>by
  rcases c6H hy with hy | hy
  ·exact I.kid y hy k h
  ·rw [List.mem_singleton.mp hy] at h;exact t k h
 refine {toOk:=⟨a3A I.up,λp hp=>?_,by rw[B];exact c4m L,?_,λy hy=>?_⟩,eqn:=?_,kid:=λy hy k h=>by rw[B];have:=J y hy k h;exact zo2 this,knlt:=λp hp=>by rw[B];have:=I.knlt p hp;exact zo2 this,knk:=λp hp a O=>by rw[B];have:=I.knk p hp a O;exact zo2 this,kn:=λp hp=>?_,use:=λi y hy q hq=>?_,sound:=λE d a b O f e=>?_,told:=λp hp=>?_,tlt:=λp hp=>?_,wlt:=λi g=>by rw[B];have:=I.wlt i g;exact zo2 this,ult:=λp hp i g=>?_,uslt:=λp hp=>?_,nod:=?_,has:=λc G e=>?_,ulen:=?_,usum:=?_,mr:=?_,wm:=I.wm,km:=?_,fm:=I.fm,em:=I.em,tl:=I.tl,low:=λi y hy k h=>(a5d hy).elim (λhy=>I.low i y hy k h) λ⟨e,N⟩=>by rw[e];rw[I.eqn];rw [N] at h;exact t k h}
 ·rw[B];rcases c6H hp with hp | hp
  ·have:=I.lt p hp;exact zo2 this
  ·rw[(c6I hp)];exact b97
 ·show (st.nd++[x]).length<=17;rw[c50];rw[I.eqn];exact L
 ·rcases c6H hy with hy | hy
  ·exact I.two y hy
  ·rw[(c6I hy)];exact two
 ·rw[B];show (st.nd++[x]).length=_;rw[c50];rw[I.eqn];rfl
 ·refine p9 (I.kn p hp) λy F T W=>⟨y,?_,T,?_⟩
  ·show (st.nd++[x])[p.2]?=_;rw[(c6s (c6C F).1)];exact F
  ·show y.2.map (g8 (st.up++[st.up.length]))=p.1.2.map (g8 (st.up++[st.up.length]));rw[(r (I.kid y (c5p F)))];rw[(r (I.knk p hp))];exact W
 ·have V:=J y (c5p hy) q hq;show ∃ u,(g8 (st.up++[st.up.length]) q,u)∈a0w _ _ _/\i∈u;rw[(U q V)];rcases a5d hy with hy | ⟨e,rfl⟩
  ·exact i9 (I.use i y hy q hq) λu h1 o=>p9 (a2z (n:=st.up.length) (zs:=zs) (c5D [(st.up.length,[])] h1)) λv C P _=>⟨v,C,P i o⟩
  ·exact eE (I.has _ (E9 I.up I.lt q V) (a0b I.up V)) λu h1=>p9 (a2z (n:=st.up.length) (zs:=zs) (c5D [(st.up.length,[])] h1)) λv C _ Q=>⟨v,C,by rw[e];rw[I.eqn];exact Q ((M _).mpr (c6E ⟨q,hq,rfl⟩))⟩
 ·rw [B] at O f;have A:a2P st.nd lf E:=⟨d.refl,d.symm,d.trans,d.tie,λi j y z g H=>d.node i j y z (by
   show (st.nd++[x])[i]?=_;rw[(c6s (c6C g).1)];exact g) (by
   show (st.nd++[x])[j]?=_;rw[(c6s (c6C H).1)];exact H)⟩
  have e:g8 (st.up++[st.up.length]) a=g8 (st.up++[st.up.length]) b:=e;by_cases Y:a < st.up.length <;> by_cases Z:b < st.up.length
  ·rw [U a Y,U b Z] at e;exact I.sound E A a b Y Z e
  ·obtain rfl:b=st.up.length:=by exact Nat.eq_of_lt_succ_of_not_lt f Z
   rw [U a Y,K] at e;have:=E9 I.up I.lt a Y;exact (c1p e this).elim
  ·obtain rfl:a=st.up.length:=by exact Nat.eq_of_lt_succ_of_not_lt O Y
   rw [U b Z,K] at e;have:=E9 I.up I.lt b Z;exact (c1r e this).elim
  ·clear e;obtain rfl:a=b:=by exact c2b O f Y Z
   exact d.refl a
 ·show g8 (st.up++[st.up.length]) p.1=g8 (st.up++[st.up.length]) p.2;rw[(U _ (I.tlt p hp).1)];rw[(U _ (I.tlt p hp).2)];exact I.told p hp
 ·rw[B];have:=I.tlt p hp;exact c2a this
 ·rw[B];rcases b52 hp g with e | ⟨q,h1,o⟩
  ·exact c3b e
  ·rcases c6H h1 with h1 | h1
   ·have:=I.ult q h1 i o;exact zo2 this
   ·rw [List.mem_singleton.mp h1] at o;cases o
 ·rw[B];have:p.1∈(st.us++[(st.up.length,([]:List Nat))]).map λp=>p.1:=by
   refine u7 (a2y (n:=st.up.length) (zs:=zs)) ?_;exact c6E ⟨p,hp,rfl⟩
  refine i9 (c6D this) λq hq e=>?_;rcases c6H hq with hq | hq
  ·have:=I.uslt q hq;exact c2r e this
  ·rw [List.mem_singleton.mp hq] at e;have e:st.up.length=p.1:=e;exact c1E ‹_›
 ·show ((a0w _ _ _).map (·.1)).Nodup;rw[a2y];exact s
 ·rw [B] at G;have e:g8 (st.up++[st.up.length]) c=c:=e;have:∃ u,(c,u)∈st.us++[(st.up.length,[])]:=by
   by_cases w:c < st.up.length
   ·rw [U c w] at e;exact eE (I.has c w e) λu D=>⟨u,c5D _ D⟩
   ·clear e;obtain rfl:c=st.up.length:=by exact Nat.eq_of_lt_succ_of_not_lt G w
    exact ⟨[],c5E _ (c6M rfl)⟩
  refine eE this λu D=>?_;clear this;exact i9 (a2z (n:=st.up.length) (zs:=zs) D) λv R _=>⟨v,R⟩
 ·rw[B];have h:=c5z List.length (a2y (n:=st.up.length) (zs:=zs) (us:=st.us++[(st.up.length,[])]));rw [List.length_map,List.length_map,List.length_append] at h;have:=I.ulen;show (a0w _ _ _).length<=_;rw[h];show st.us.length+1<=_;exact c5R this 1
 ·rw[B];have h:=a6F (n:=st.up.length) (zs:=zs) s;rw [List.map_append,List.sum_append] at h;have:=I.usum;show ((a0w _ _ _).map λp=>p.2.length).sum<=_;have e:((([(st.up.length,[])]:List (Nat×List Nat)).map λp=>p.2.length).sum)=0:=rfl;exact c2T X h this e
 ·rw[B];have:=I.mr;show st.m+a3p (st.up++[st.up.length])=_;rw[b0B];exact c5z _ this
 ·rw[B];have:=I.km;show st.kn.length+st.wt.length<=_+34 * st.m;exact c2B this
theorem b0h (I:I7 lf st) (D:a1F st):b8C (st.added x zs) st.up.length:=λj y q U=>by
 rcases a5d q with q | ⟨e,_⟩
 ·have J:=U9 I.up I.lt;have Y:=I.nlt q;rcases D j y q with h | ⟨p,O,B⟩
  ·exact .inl h
  ·have B:=B.resolve_right λh=>h;refine .inr ⟨p,?_,?_⟩
   ·have:x8 (st.up++[st.up.length]) y=x8 st.up y:=by
     unfold x8
     congr 1
     exact c5C λk V=>J k (I.kid y (c5p q) k V)
    show G3 st.kn (x8 (st.up++[st.up.length]) y)=_;rw[this];exact O
   ·show g8 (st.up++[st.up.length]) p=g8 (st.up++[st.up.length]) j;rw[(J p (I.knlt _ (a2n O)))];rw[(J j Y)];exact B
 ·exact c59 (e.trans I.eqn) U
variable {x:Nm}{ys:List Nat}
theorem b7Y {q:List G7} {x:G7} (h:G3 q.zipIdx x=some p):q[p]?=some x:=by
 have:=a2n h;rwa [List.mem_zipIdx_iff_getElem?] at this
theorem b7T {lay:Slot->Nat} {us:List (Nat×List Nat)} (J:(us.map (·.1)).Nodup) {O:List Nat} (h:(c,O)∈us):B4 (Z4 lay us) (.int (c:Nat))=some (.ref (lay (.us c))):=by
 refine a8E (f:=λp:Nat×List Nat=>(f7.int (p.1:Nat),f7.ref (lay (.us p.1)))) h rfl λy B e=>?_;have e:y.1=c:=by injection e with e;exact zo6 e
 have q:=a7X J h (show (c,y.2)∈us by refine u7 e ?_;exact B)
 exact Prod.ext e q.symm
theorem a32 (h:e K r H λv q=>(b0E v q λys=>alloc (.list ys) q Q)\/b0G v q λys=>alloc (.list ys) q Q):D3 e K r H Q:=h
theorem b7S {lay:Slot->Nat} {us:List (Nat×List Nat)} {n c:Nat}:Z4 lay (Y0 n us c)=Z4 lay us:=by
 unfold Z4 Y0;rw[c55];refine c5C λp _=>?_;show (f7.int ((if p.1=c then (c,p.2++[n]) else p).1:Nat),f7.ref (lay (.us (if p.1=c then (c,p.2++[n]) else p).1)))=_
 split
 ·rename_i e;rw[e];rfl
 ·rfl
variable {lay:Slot->Nat}{C:A0}
theorem b9h (L:J1 lay C H) (E:EG lay C st) (nod:(st.us.map (·.1)).Nodup) {u:List Nat} (h:(c,u)∈st.us):J1 lay (upd C (.us c) (.list (iL (u++[i])))) (H.set (lay (.us c)) (.list (iL (u++[i]))))/\EG lay (upd C (.us c) (.list (iL (u++[i])))) {st with us:=Y0 i st.us c} :=
 ⟨L.put (E.cu _ h),{E.toHd.upd (s:=.us c) (o:=.list (iL (u++[i]))) rfl with
  c4:=E.c4,c5:=E.c5,c6:=E.c6,c7:=E.c7,c10:=E.c10,c11:=E.c11
  cl:=λi J=>(E.cl i J).imp λ_=>And.imp_left (j5 b0e).trans
  c12:=E.c12,c13:=E.c13,c14:=E.c14,c15:=E.c15
  c16:=E.c16.imp λ_ e=>(j5 a6a).trans (by rw[b7S];exact e)
  cu:=λp O=>by
   refine i9 (c6D O) λq B U=>?_;clear O;subst U;by_cases z:q.1=c
   ·rw[(c58 z)];have:q.2=u:=a7X nod (show (c,q.2)∈st.us by refine u7 z ?_;exact B) h
    rw[this];exact C0
   ·rw[(c57 z)];exact (j5 λe=>z (by injection e)).trans (E.cu q B)
  c17:=E.c17}⟩
theorem b9e (L:J1 lay C H) (E:EG lay C st) {ep ep':Nat} (b:C (.eg 16)=some (.dict (Z4 lay st.us) ep)) (q:∀ p∈st.us,p.1≠k) (ha:H a=none) :
  J1 (M6 lay (.us k) a) (upd C (.us k) (.list [])) (H.set a (.list []))/\Hd (M6 lay (.us k) a) (upd C (.us k) (.list []))/\(upd C (.us k) (.list [])) (.eg 16)=some (.dict (Z4 lay st.us) ep) /\
  J1 (M6 lay (.us k) a) (upd (upd C (.us k) (.list [])) (.eg 16) (.dict (J2 (Z4 lay st.us) (.int (k:Nat)) (.ref a)) ep')) ((H.set a (.list [])).set (lay (.eg 16)) (.dict (J2 (Z4 lay st.us) (.int (k:Nat)) (.ref a)) ep')) /\
  EG (M6 lay (.us k) a) (upd (upd C (.us k) (.list [])) (.eg 16) (.dict (J2 (Z4 lay st.us) (.int (k:Nat)) (.ref a)) ep')) {st with us:=st.us++[(k,[])]}:=by
 have J:=L.take (s:=.us k) (o:=.list []) ha;have B:=E.toHd.take (s:=.us k) (o:=.list []) (a:=a) rfl;have O:(upd C (.us k) (.list [])) (.eg 16)=some (.dict (Z4 lay st.us) ep):=(j5 a6a).trans b;have U:J2 (Z4 lay st.us) (.int (k:Nat)) (.ref a)=Z4 (M6 lay (.us k) a) (st.us++[(k,[])]):=by
  have Y:B4 (Z4 lay st.us) (.int (k:Nat))=none:=a6c (f:=λp:Nat×List Nat=>(f7.int (p.1:Nat),f7.ref (lay (.us p.1)))) λy Z e=>q y Z (by
   have e:f7.int (y.1:Nat)=f7.int (k:Nat):=e;injection e with e;exact zo6 e)
  unfold J2;rw[Y];rw[(c57 (by simp))]
  unfold Z4;rw[c54]
  congr 1
  ·refine c5C λp hp=>?_;rw[(Q2 λe=>q p hp (by injection e))];rfl
  ·show _=[(f7.int (k:Nat),f7.ref (M6 lay (.us k) a (.us k)))];rw[a2x];rfl
 refine ⟨J,B,O,J.put O,?_⟩;rw[U];exact {B.upd (s:=.eg 16) (o:=.dict (Z4 (M6 lay (.us k) a) (st.us++[(k,[])])) ep') rfl with
  c4:=E.c4,c5:=E.c5,c6:=E.c6,c7:=E.c7,c10:=E.c10,c11:=E.c11
  cl:=λi V=>(E.cl i V).imp λ_=>And.imp_left λh=>(j5 K2).trans ((j5 b0e).trans h)
  c12:=E.c12,c13:=E.c13,c14:=E.c14,c15:=E.c15
  c16:=⟨ep',C0⟩
  cu:=λp hp=>by
   refine (j5 N1).trans ?_;rcases c6H hp with hp | hp
   ·exact (j5 λe=>q p hp (by injection e)).trans (E.cu p hp)
   ·rw[(c6I hp)];exact C0
  c17:=E.c17}
theorem b0S {n c:Nat} {us:List (Nat×List Nat)} {zs:List Nat} (h:zs[i]?=some c):a0w n us (zs.take (i+1))=Y0 n (a0w n us (zs.take i)) c:=by
 unfold a0w;rw[c6k];rw[h];rw[List.foldl_append];rfl
theorem a0H (l:List Nat):(l.map Int.ofNat).map f7.int=iL l:=by unfold iL;rw[c55];rfl
theorem a5E {ys:List Int} {l:List Nat} (V:ys.Pairwise (· < ·)) (J:∀ i,i∈ys↔i∈l.map Int.ofNat):∃ zs:List Nat,ys.map f7.int=iL zs/\zs.Nodup/\∀ c,c∈zs↔c∈l:=by
 have e:(ys.map Int.toNat).map Int.ofNat=ys:=by
  rw[c55]
  conv=>rhs;(rewrite [<- List.map_id ys];try rfl)
  refine c5C λy Y=>i9 (c6D ((J y).mp Y)) λk _ Z=>?_;clear Y;subst Z;rfl
 refine ⟨ys.map Int.toNat,by refine u7 (a0H ..) ?_;rw[e];rfl,?_,λc=>?_⟩
 ·have B:((ys.map Int.toNat).map Int.ofNat).Nodup:=by
   rw[e];exact List.Pairwise.imp (λh=>by exact Int.ne_of_lt h) V
  unfold List.Nodup at B ⊢;rw [List.pairwise_map] at B;exact List.Pairwise.imp (λh e=>h (by rw[e];rfl)) B
 ·have:=J (Int.ofNat c);constructor
  ·intro h;have q:Int.ofNat c∈ys:=by refine u7 e ?_;exact c6E ⟨c,h,rfl⟩
   refine i9 (c6D (this.mp q)) λk U O=>?_;refine u7 (Int.ofNat.inj O) ?_;exact U
  ·intro h;have q:=this.mpr (c6E ⟨c,h,rfl⟩);exact c6E ⟨_,q,rfl⟩
section
variable {c:Char}{n:Nat}
theorem b4g {x:G7} (L:J1 lay C H) (E:EG lay C {st with nd:=st.nd++[x],up:=st.up++[st.up.length],us:=st.us++[(st.up.length,[])]}) (I:I7 lf st) (D:a1F st) (S:st.up.length < 17) (two:x.2.length<=2) (w:∀ k∈x.2,k < st.up.length) (A:r f8=some (.ref (lay (.eg 0)))) (z:r U1=some (.int (st.up.length:Nat))) (hx:r G0=some (.tup (iL x.2)))
  (q:∀ J F g U,J1 J F g->EG J F U->O9 lay C J F->I7 lf U->a1F U->U.nd=st.nd++[x]->Q (.int (st.up.length:Nat)) g) {B:Hp->Prop} :
  (d9 (Q6 [n_c] true (w7 (D3 (t8 (l4 (d6 f8) I9 (d7 (d6 m7) h9)) [m7] true (w7 (d6 G0)) y9)))
  (d9 (y8 (l4 (m9 (n7 (d6 f8) w8) (d6 n_c)) v6 (d7 (d6 U1) h9)))
  j9))
 (d9 (y8 (l4 (d6 f8) Z8 (d7 (d6 U1) h9)))
 (d9 (z5 (d6 U1))
 j9))) (j3 FT (n+4)) r H (λfl _ g=>a2D fl (B g) λv=>Q v g):=by
 have rm:=U9 I.up I.lt;have a2:x.2.map (g8 (st.up++[st.up.length]))=x.2.map (g8 st.up):=c5C λk h=>rm k (w k h);have o4:Ok {st with nd:=st.nd++[x],up:=st.up++[st.up.length],us:=st.us++[(st.up.length,[])]}:=⟨a3A I.up,λp hp=>by
   rw[c50];rcases c6H hp with hp | hp
   ·have:=I.lt p hp;exact c19 this
   ·have:=c6I hp;simp only [List.length_singleton];exact c3b this,by show (st.up++[st.up.length]).length<=17;rw[c50];exact S,by show (st.nd++[x]).length<=17;rw[c50];rw[I.eqn];exact S,λy hy=>by
   rcases c6H hy with hy | hy
   ·exact I.two y hy
   ·rw[(c6I hy)];exact two⟩
 have nod:((st.us++[(st.up.length,([]:List Nat))]).map λp=>p.1).Nodup:=by
  rw[c54];refine D5 (List.nodup_append ..) ?_;refine ⟨I.nod,by simp,λa ha b X e=>?_⟩
  refine i9 (c6D ha) λp hp q1=>?_;clear ha;subst q1;simp at X;have:=I.uslt p hp;have e:p.1=b:=e;exact c2d ‹_› X this
 refine f9 (b5r (a32 (b8e (n:=n+2) (l:=x.2) L E o4 rfl A (by unfold n8;exact zo0 two) (λk h=>by show k < (st.up++[st.up.length]).length;rw[c50];exact c6y (w k h)) (a1p λR hR=>f6 hx (hR H (.refl _))) λH5 b k5 X=>.inl ?_)))
 have L5:=L.keep (k5.trans (.new (o:=.list (iL (x.2.map (g8 (st.up++[st.up.length]))))) X));refine ⟨(x.2.map (g8 st.up)).map Int.ofNat,.inr ⟨b,rfl,?_⟩,λi hi=>?_,λys hp hm d hd=>?_⟩
 ·rw[l0];rw[(a0H ..)];refine u7 a2 ?_;rfl
 ·refine i9 (c6D hi) λO a0 q2=>?_;subst q2;refine i9 (c6D a0) λk Z q3=>?_;clear hi a0;subst q3;have:=E9 I.up I.lt k (w k Z);exact ⟨c5N _,by show ((g8 st.up k:Nat):Int) < 17;exact c1z S this⟩
 refine p9 (a5E hp hm) λzs ez zn zm=>?_;rw[ez];have L6:=L5.keep (.new (o:=.list (iL zs)) hd);have fr:∀ p∈st.us,lay (.us p.1)≠d:=λp hp e=>by
  have:=L5.at_ _ _ (E.cu p (c5D _ hp));rw [e] at this;have hd:Hp.set H5 b (.list (iL (x.2.map (g8 (st.up++[st.up.length]))))) d=none:=hd;rw [hd] at this;cases this
 have a1:∀ i O,zs[i]?=some O->∃ u,(O,u)∈st.us:=λi O hi=>by
  refine i9 (c6D ((zm O).mp (c5p hi))) λk Z q5=>?_;clear hi;subst q5;exact I.has _ (E9 I.up I.lt k (w k Z)) (a0b I.up (w k Z))
 have I':=b2p I S two w zn zm;have zl:zs.length<=2:=by
  have:=a0o zn (m:=x.2.map (g8 st.up)) λa ha=>(zm a).mp ha;rw [List.length_map] at this;exact c5r this two
 refine .inr (.inr (.inl ⟨d,iL zs,rfl,l0,_,a0g (src:=.lst d) (iL zs) (λi j G=>∃ t,J1 lay t G/\EG lay t {st with nd:=st.nd++[x],up:=st.up++[st.up.length],us:=a0w st.up.length (st.us++[(st.up.length,[])]) (zs.take i)}/\O9 lay C lay t/\G d=some (.list (iL zs))/\j f8=some (.ref (lay (.eg 0)))/\j U1=some (.int (st.up.length:Nat))) (λi j G c=>?_) (λj G c=>?_) (λi v j G hv c W hW _=>?_) ((iL zs).length+1) 0 _ _ (b96) (c5B _) ⟨C,L6,E,.refl _ _,l0,A,z⟩⟩))
 ·refine a1m c λt _ _ _ h _=>?_;clear c;exact ⟨_,h,rfl⟩
 ·refine a23 c λt Y V s7 h A z=>?_;clear c;rw [n0,List.take_length] at V;refine f9 (F0 (C6 (rfl) (Y.at_ _ _ V.c0) (Y.at_ _ _ V.c1) rfl (o9 A) (d8 (f6 z (i8 (a80 (n:=n) (st:=st.added x zs) (x:=x) Y V I' ?_ (b0h I D) ?_ λJ F g U l e s i d nd mw=>?_))))))
  ·show (st.nd++[x])[st.up.length]?=some x;refine u7 I.eqn ?_;simp
  ·have:=I.km;show st.kn.length+st.wt.length+1<=(st.up++[st.up.length]).length+34 * st.m;rw[c50];simp only [List.length_singleton];exact c2A this
  ·refine f9 (A4 (f6 z ?_));exact q J F g U l e (s7.trans s) i d nd
 ·refine a23 c λt Y V s7 h A z=>?_;clear c;obtain ⟨O,hz,rfl⟩:∃ O,zs[i]?=some O/\v=.int (O:Nat):=by
   unfold iL at hv;rw [List.getElem?_map] at hv;exact i9 (c6G hv) λO K T=>⟨O,K,T.symm⟩
  refine eE (a1 i O hz) λu0 P=>p9 (a2z (n:=st.up.length) (zs:=zs.take i) (c5D [(st.up.length,[])] P)) λu hu _ _=>?_;have f:((a0w st.up.length (st.us++[(st.up.length,[])]) (zs.take i)).map λp=>p.1).Nodup:=by
   have:=a2y (n:=st.up.length) (zs:=zs.take i) (us:=st.us++[(st.up.length,[])]);rw[this];exact nod
  refine eE V.c16 λep a3=>?_;have iu:=V.cu _ hu;have ul:u.length<=1000:=by
   have K:=a3Z hu;have T:=a6F (n:=st.up.length) (zs:=zs.take i) nod;rw [List.map_append,List.sum_append] at T;have e:((([(st.up.length,[])]:List (Nat×List Nat)).map λp=>p.2.length).sum)=0:=rfl;have h3:=I.usum;have h4:(zs.take i).length<=2:=c5r (List.length_take_le' _ _) zl;have K:u.length<=_:=K;exact c2W S T e h3 h4 K
  have N:(j.set n_c (.int (O:Nat))) f8=some (.ref (lay (.eg 0))):=A;have M:(j.set n_c (.int (O:Nat))) U1=some (.int (st.up.length:Nat)):=z;refine ⟨_,D6,f9 (F0 (I5 (λ_ q=>B7 (O4 Y V.toHd (o9 N) rfl (f6 rfl (a0h (Y.at_ _ _ a3) (a6H O) (b7T f hu) q)))) (Y.at_ _ _ iu) (d8 (f6 M (i8 (G1 (Y.at_ _ _ iu) ?_ ?_))))))⟩
  ·rw[(n0 ..)];show u.length<=_;unfold n8;exact c5r ul (c5o rfl)
  ·rw[a1o];refine eA (b9h Y V f (i:=st.up.length) hu) λL8 E8=>hW _ _ ⟨_,L8,?_,s7.trans ⟨λ_=>rfl,λ_=>rfl,λ_=>rfl⟩,?_,N,M⟩
   ·rw[(b0S hz)];exact E8
   ·rw[(C8 λe=>fr _ P e.symm)];exact h
theorem c3E (L:J1 lay C H) (E:EG lay C st) (I:I7 lf st) (D:a1F st) (j:st.up.length < 17) {x:G7} (hc:x.1=String.singleton c) (T:97<=c.toNat) (W:c.toNat<=122) (two:x.2.length<=2) (F:∀ k∈x.2,k < st.up.length)
  (q0:∀ p,st.nd[p]?=some x->Q (.int (p:Nat)) H)
  (q1:∀ O b g U,J1 O b g->EG O b U->O9 lay C O b->I7 lf U->a1F U->U.nd=st.nd++[x]->Q (.int (st.nd.length:Nat)) g) :
  (j3 FT (n+5)).call w4 b4V [.ref (lay (.eg 0)),.str x.1,.tup (iL x.2)] H Q:=by
 have o:=I.toOk;refine o8 rfl rfl (f9 (t7 (C6 (rfl) (L.at_ _ _ E.c2) (L.at_ _ _ E.c3) rfl (λ_ q=>O4 L E.toHd (o9 rfl) rfl q) (d8 (f6 rfl (d8 (f6 rfl (i8 ?_))))))));cases e:G3 st.nd.zipIdx x with
 | some p =>
  have h:=b7Y e;have pl:p < st.up.length:=I.nlt h;refine b11 (n:=n+3) L E two e (y0 (f9 (J7 (t0 (f6 rfl (C6 (rfl) (L.at_ _ _ E.c8) (L.at_ _ _ E.c9) rfl (λ_ q=>O4 L E.toHd (o9 rfl) rfl q) (i8 (b8y (n:=n+3) L E o (lt_int ⟨λ_=>f9 (A4 (f6 rfl ?_)),λt=>?_⟩)))))))))
  ·exact q0 p h
  ·have:=c6j t;exact (c1l pl this).elim
 | none =>
  refine b10 (n:=n+1) L E (by rw[I.eqn];exact j) hc T W two (by rw[I.eqn];exact F) e λC1 H1 Y V s1=>y0 ?_
  have G:Ok (st.node x):=⟨o.up,o.lt,o.small,by show (st.nd++[x]).length<=17;rw[c50];rw[I.eqn];exact j,λy hy=>by
   rcases c6H hy with hy | hy
   ·exact o.two y hy
   ·rw[(c6I hy)];exact two⟩
  refine f9 (J7 (t0 (f6 rfl (C6 (rfl) (Y.at_ _ _ V.c8) (Y.at_ _ _ V.c9) rfl (λ_ q=>O4 Y V.toHd (o9 rfl) rfl q) (i8 (b8y (n:=n+3) Y V G (lt_int ⟨λt=>?_,λ_=>b03 ?_⟩)))))))
  ·have t:=c5y t;have:((st.nd.length:Nat):Int) < (st.up.length:Nat):=t;have:=I.eqn;exact (c4E ‹_› this).elim
  refine f9 (F0 (C6 (rfl) (Y.at_ _ _ V.c8) (Y.at_ _ _ V.c9) rfl (λ_ q=>O4 Y V.toHd (o9 rfl) rfl q) (i8 (c1c (n:=n+3) Y V G λJ v H2 R w K=>?_))));refine eE w.c16 λA r=>?_;have Z:lay (.eg 0)=J (.eg 0):=(K.eg 0).symm;have f:∀ p∈st.us,p.1≠st.up.length:=λp h=>c5Q (I.uslt p h);have m:(Z4 J st.us).length<=n8:=by unfold Z4;rw[(c5q ..)];have:=I.ulen;unfold n8;exact c1A j this
  have X:st.nd.length=st.up.length:=I.eqn;rw [X] at *;refine f9 (t7 (a0x (i8 λa ha=>?_)));refine a59 (b9e R w (ep':=dep (Z4 J st.us) (.int (st.up.length:Nat)) A) r f ha) λz N u S P=>a2e (λ_ q=>O4 z N (o9 (c5z (λa=>some (f7.ref a)) Z)) rfl q) (o9 rfl) (z.at_ _ _ u) (a6H _) m ?_;have M:=(s1.trans K).trans (⟨λ_=>rfl,λ_=>rfl,λ_=>rfl⟩:O9 J v (M6 J (.us st.up.length) a) (upd (upd v (.us st.up.length) (.list [])) (.eg 16) (.dict (J2 (Z4 J (st.node x).made.us) (.int (st.up.length:Nat)) (.ref a)) (dep (Z4 J st.us) (.int (st.up.length:Nat)) A))))
  refine b4g (B:=Q .none) S P I D j two F (c5z (λa=>some (f7.ref a)) (M.eg 0).symm) rfl rfl λO b g U l e s i d nd=>?_;have:=q1 O b g U l e (M.trans s) i d nd;rw [I.eqn] at this;exact this
variable {c:Nat}
theorem a3F {q:List G7} {t:Nat×Nat} {E:Nat->Nat->Prop} (c:a2P q (lf++[t]) E):a2P q lf E:=⟨c.refl,c.symm,c.trans,λp B=>c.tie p (c5D _ B),c.node⟩
theorem b2F (L:J1 lay C H) (E:EG lay C st) (I:I7 lf st) (D:a1F st) (tl:lf.length < 20) {a b:Nat} {why:f7} (ha:a < st.up.length) (V:b < st.up.length)
  (q:∀ B Y c O v,J1 B Y c->EG B Y O->O9 lay C B Y->I7 (lf++[(a,b)]) O->a1F O->O.nd=st.nd->Q v c):(j3 FT (n+4)).call w4 Y9 [.ref (lay (.eg 0)),.int (a:Nat),.int (b:Nat),why] H Q:=by
 have U:(lf++[(a,b)]).length=lf.length+1:=c50;refine b82 L E I.toOk I.us ha V (λe Y c l d s=>?_) λe x i B Y c l d s=>?_
 ·refine q _ _ _ _ _ l d s ?_ D rfl;exact {I with
   sound:=λE J=>I.sound E (a3F J)
   told:=λp hp=>by
    rcases c6H hp with hp | hp
    ·exact I.told p hp
    ·rw[(c6I hp)];exact e
   tlt:=λp hp=>by
    rcases c6H hp with hp | hp
    ·exact I.tlt p hp
    ·rw[(c6I hp)];exact ⟨ha,V⟩
   em:=by have:=I.em;rw[U];show st.e+1<=st.m+_;exact c5R this 1
   tl:=by rw[U];exact tl}
 ·have o:=I3 I.up a ha;have r:=I3 I.up b V;have w:=E9 I.up I.lt a ha;have u:=E9 I.up I.lt b V;have k:min (g8 st.up a) (g8 st.up b) < max (g8 st.up a) (g8 st.up b):=by exact c3d e
  have f:st.up[min (g8 st.up a) (g8 st.up b)]?=some (min (g8 st.up a) (g8 st.up b)):=by
   rcases c5Z (g8 st.up a) (g8 st.up b) with z | z
   ·rw[(Nat.min_eq_left z)];exact o
   ·rw[(Nat.min_eq_right z)];exact r
  have Z:st.up[max (g8 st.up a) (g8 st.up b)]?=some (max (g8 st.up a) (g8 st.up b)):=by
   rcases c5Z (g8 st.up a) (g8 st.up b) with z | z
   ·rw[(Nat.max_eq_right z)];exact r
   ·rw[(Nat.max_eq_left z)];exact o
  refine eE (I.has _ (by exact c5v (Nat.min_le_right _ _) u) (a0c I.up f)) λy g=>?_
  have why:∀ E,a2P st.nd (lf++[(a,b)]) E->E (min (g8 st.up a) (g8 st.up b)) (max (g8 st.up a) (g8 st.up b)):=λE J=>by
   have h:E a b:=J.tie (a,b) (c5E _ (c6M rfl));have h:=J.trans _ _ _ (J.symm _ _ (I.toR (a3F J) ha)) (J.trans _ _ _ h (I.toR (a3F J) V));rcases c5Z (g8 st.up a) (g8 st.up b) with z | z
   ·rw[(Nat.min_eq_left z)];rw[(Nat.max_eq_right z)];exact h
   ·rw[(Nat.min_eq_right z)];rw[(Nat.max_eq_left z)];exact J.symm _ _ h
  refine q _ _ _ _ _ l d s (a8L I f Z k g i why (λ_ h=>c5D _ h) (λp hp=>?_) (c0b U) (by exact U▸tl)) (a8e I.toOk I.kid I.eqn I.knlt I.nod I.use f Z k i (λp j t=>t.elim) D) rfl
  rcases c6H hp with hp | hp
  ·exact .inl hp
  ·rw[(c6I hp)];exact .inr ⟨⟨ha,V⟩,(c5Z _ _).imp (λh=>(Nat.min_eq_left h).symm) (λh=>(Nat.max_eq_left h).symm),(c5Z _ _).imp (λh=>(Nat.min_eq_right h).symm) λh=>(Nat.max_eq_right h).symm⟩
variable {Q:A2}{fs:List (Nm×f7)}
theorem a3s {sI sN:Slot} {c x:Nm} {Q:a2F} (L:J1 lay C H) (O:∀ Q:l8,Q (.ref (lay sI)) H->e K r H Q) (J:C sI=some (.inst c (lay sN))) (B:C sN=some (.ns fs)) (U:fs.length<=1000)
  (q:J1 lay (upd C sN (.ns (a0L fs x v))) (H.set (lay sN) (.ns (a0L fs x v)))->Q r (H.set (lay sN) (.ns (a0L fs x v)))):R6 e x K v r H Q :=
 O _ ⟨c,_,fs,⟨_,rfl,L.at_ _ _ J,L.at_ _ _ B⟩,U,q (L.put B)⟩
theorem R9 {b:Bv} {sI sN:Slot} {c x:Nm} (s:Slot) (L:J1 lay C H) (f:r f8=some (.ref (lay sI))) (Y:C sI=some (.inst c (lay sN))) (Z:C sN=some (.ns fs)) (e:fs.length<=1000) (J:sI≠s) (O:sN≠s)
  (q:∀ a B,J1 (M6 lay s a) (upd (upd C s (.list [])) sN (.ns (a0L fs x (.ref a)))) B->b K r B Q):d9 (p7 (R6 (d6 f8) x) (G9 h9)) b K r H Q:=by
 refine f9 (t7 (a0x (i8 λa d=>?_)));have U:=L.take (s:=s) (o:=.list []) d;refine a3s (sI:=sI) (sN:=sN) (c:=c) (fs:=fs) U (o9 (by rw[(Q2 J)];exact f)) ((j5 J).trans (by rw[(Q2 O)];exact Y)) ((j5 O).trans Z) e λV=>?_
 exact q a _ V
theorem a4J {b:Bv} {sI sN:Slot} {c x:Nm} (s:Slot) (L:J1 lay C H) (f:r f8=some (.ref (lay sI))) (Y:C sI=some (.inst c (lay sN))) (Z:C sN=some (.ns fs)) (e:fs.length<=1000) (J:sI≠s) (O:sN≠s)
  (q:∀ a B,J1 (M6 lay s a) (upd (upd C s (.dict [] 0)) sN (.ns (a0L fs x (.ref a)))) B->b K r B Q):d9 (p7 (R6 (d6 f8) x) a0e) b K r H Q:=by
 refine f9 (t7 (λa d=>?_));have U:=L.take (s:=s) (o:=.dict [] 0) d;refine a3s (sI:=sI) (sN:=sN) (c:=c) (fs:=fs) U (o9 (by rw[(Q2 J)];exact f)) ((j5 J).trans (by rw[(Q2 O)];exact Y)) ((j5 O).trans Z) e λV=>?_
 exact q a _ V
variable {Q:l8}
theorem b40 (L:J1 lay C H) (q:∀ a d B J O U Y,J1 (M6 (M6 (M6 (M6 (M6 (M6 lay (.eg 3) d) (.eg 2) a) (.eg 4) B) (.eg 5) J) (.eg 6) O) (.eg 7) U)
  (upd (upd (upd (upd (upd (upd (upd (upd (upd (upd C (.eg 3) (.ns [])) (.eg 2) (.inst O5 d)) (.eg 4) (.list [])) (.eg 3) (.ns [(r9,.ref B)])) (.eg 5) (.dict [] 0)) (.eg 3) (.ns [(r9,.ref B),(G0,.ref J)])) (.eg 6) (.list [])) (.eg 3) (.ns [(r9,.ref B),(G0,.ref J),(a0a,.ref O)])) (.eg 7) (.list [])) (.eg 3) (.ns [(r9,.ref B),(G0,.ref J),(a0a,.ref O),(K9,.ref U)])) Y->Q (.ref a) Y) :
  b2H (j3 FT (n+1)) O5 [] H Q:=λa d i j V=>by
 have b:=L.take (s:=.eg 3) (o:=.ns []) j;have c:=b.take (s:=.eg 2) (o:=.inst O5 d) (a:=a) (by rw[(C8 V)];exact i)
 refine o8 rfl rfl (R9 (sI:=.eg 2) (sN:=.eg 3) (.eg 4) c rfl rfl rfl (c5o rfl) (by decide) (by decide) λB k e=>?_)
 refine a4J (sI:=.eg 2) (sN:=.eg 3) (.eg 5) e rfl rfl rfl (c5o rfl) (by decide) (by decide) λJ l f=>?_
 refine R9 (sI:=.eg 2) (sN:=.eg 3) (.eg 6) f rfl rfl rfl (c5o rfl) (by decide) (by decide) λO m g=>?_
 refine R9 (sI:=.eg 2) (sN:=.eg 3) (.eg 7) g rfl rfl rfl (c5o rfl) (by decide) (by decide) λU Z h=>?_
 exact ⟨rfl,q a d B J O U Z h⟩
theorem b68 (L:J1 lay C H) (q:∀ a d B J O V,J1 (M6 (M6 (M6 (M6 (M6 lay (.eg 9) d) (.eg 8) a) (.eg 10) B) (.eg 11) J) (.eg 12) O)
  (upd (upd (upd (upd (upd (upd (upd (upd C (.eg 9) (.ns [])) (.eg 8) (.inst D9 d)) (.eg 10) (.list [])) (.eg 9) (.ns [(w8,.ref B)])) (.eg 11) (.list [])) (.eg 9) (.ns [(w8,.ref B),(a0m,.ref J)])) (.eg 12) (.list [])) (.eg 9) (.ns [(w8,.ref B),(a0m,.ref J),(W6,.ref O)])) V->Q (.ref a) V) :
  b2H (j3 FT (n+1)) D9 [] H Q:=λa d g h U=>by
 have Z:=L.take (s:=.eg 9) (o:=.ns []) h;have b:=Z.take (s:=.eg 8) (o:=.inst D9 d) (a:=a) (by rw[(C8 U)];exact g)
 refine o8 rfl rfl (R9 (sI:=.eg 8) (sN:=.eg 9) (.eg 10) b rfl rfl rfl (c5o rfl) (by decide) (by decide) λB i c=>?_)
 refine R9 (sI:=.eg 8) (sN:=.eg 9) (.eg 11) c rfl rfl rfl (c5o rfl) (by decide) (by decide) λJ j e=>?_
 refine R9 (sI:=.eg 8) (sN:=.eg 9) (.eg 12) e rfl rfl rfl (c5o rfl) (by decide) (by decide) λO Y f=>?_
 exact ⟨rfl,q a d B J O Y f⟩
noncomputable def st0:St:=⟨[],[],[],[],[],0,0,0⟩
theorem c3G:I7 [] st0:=by
 refine {toOk:=⟨⟨λi p e=>by cases e⟩,λp q=>(by cases q),c5B _,c5B _,λx B=>(by cases B)⟩,eqn:=rfl,kid:=λx B=>(by cases B),knlt:=λp q=>(by cases q),knk:=λp q=>(by cases q),kn:=λp q=>(by cases q),use:=λi x B=>(by cases B),sound:=λE _ a b J=>c59 J (c6A _),told:=λp q=>(by cases q),tlt:=λp q=>(by cases q),wlt:=λi U=>(by cases U),ult:=λp q=>(by cases q),uslt:=λp q=>(by cases q),nod:=c6r,has:=λc O=>c59 O (c6A _),ulen:=c5w _,usum:=c5w _,mr:=rfl,wm:=c5w _,km:=c5w _,fm:=rfl,em:=c5w _,tl:=c5B _,low:=λi x B=>(by cases B)}
theorem c0A:a1F st0:=λi x q=>by cases q
variable {fs:List (Nat×Nat)}{W:A2}
theorem b42 (L:J1 lay C H) (q:∀ B Z m,J1 B Z m->EG B Z st0->(∀ k,B (.ow k)=lay (.ow k))->(∀ k,Z (.ow k)=C (.ow k))->Q (.ref (B (.eg 0))) m) :
  b2H (j3 FT (n+2)) w4 [] H Q:=λa d F G j=>by
 have x:=L.take (s:=.eg 1) (o:=.ns []) G;have y:=x.take (s:=.eg 0) (o:=.inst w4 d) (a:=a) (by rw[(C8 j)];exact F)
 refine o8 rfl rfl (f9 (t7 (b1Q (i8 (b40 y λU W X b5 b6 b7 S z=>?_)))));refine a3s (sI:=.eg 0) (sN:=.eg 1) (c:=w4) (fs:=[]) z (o9 rfl) rfl rfl (c5o rfl) λA=>f9 (t7 (b1Q (i8 (b68 A λV u9 M N P T D=>?_))));refine a3s (sI:=.eg 0) (sN:=.eg 1) (c:=w4) (fs:=[(X0,.ref U)]) D (o9 rfl) rfl rfl (c5o rfl) λE=>R9 (sI:=.eg 0) (sN:=.eg 1) (c:=w4) (fs:=[(X0,.ref U),(L9,.ref V)]) (.eg 13) E rfl rfl rfl (c5o rfl) (by decide) (by decide) λJ r b=>?_
 refine R9 (sI:=.eg 0) (sN:=.eg 1) (c:=w4) (fs:=[(X0,.ref U),(L9,.ref V),(Y5,.ref J)]) (.eg 14) b rfl rfl rfl (c5o rfl) (by decide) (by decide) λO t e=>?_
 refine a4J (sI:=.eg 0) (sN:=.eg 1) (c:=w4) (fs:=[(X0,.ref U),(L9,.ref V),(Y5,.ref J),(a0l,.ref O)]) (.eg 15) e rfl rfl rfl (c5o rfl) (by decide) (by decide) λY u f=>?_
 refine a4J (sI:=.eg 0) (sN:=.eg 1) (c:=w4) (fs:=[(X0,.ref U),(L9,.ref V),(Y5,.ref J),(a0l,.ref O),(a3k,.ref Y)]) (.eg 16) f rfl rfl rfl (c5o rfl) (by decide) (by decide) λl v g=>?_
 refine R9 (sI:=.eg 0) (sN:=.eg 1) (c:=w4) (fs:=[(X0,.ref U),(L9,.ref V),(Y5,.ref J),(a0l,.ref O),(a3k,.ref Y),(w8,.ref l)]) (.eg 17) g rfl rfl rfl (c5o rfl) (by decide) (by decide) λR w h=>?_
 exact ⟨rfl,q _ _ _ h {c0:=rfl,c1:=rfl,c2:=rfl,c3:=rfl,c8:=rfl,c9:=rfl,c4:=rfl,c5:=⟨0,rfl⟩,c6:=⟨[],rfl,rfl⟩,c7:=⟨[],rfl,rfl⟩,c10:=rfl,c11:=rfl,cl:=λi I=>c59 I (c6A _),c12:=⟨[],rfl,rfl⟩,c13:=⟨[],rfl,rfl⟩,c14:=⟨[],rfl,rfl⟩,c15:=⟨0,rfl⟩,c16:=⟨0,rfl⟩,cu:=λp K=>(by cases K),c17:=rfl} (λ_=>rfl) (λ_=>rfl)⟩
structure Sy (lay:Slot->Nat) (C:A0) (H:Hp) (lf:List (Nat×Nat)) (st:St):Prop where
 L:J1 lay C H
 E:EG lay C st
 I:I7 lf st
theorem b4Z {xs:List Nat} (p:l.Perm (xs.map Int.ofNat)):∃ ys:List Nat,l=ys.map Int.ofNat/\ys.Perm xs:=by
 refine ⟨l.map Int.toNat,?_,?_⟩
 ·rw[c55]
  conv=>lhs;(rewrite [<- List.map_id l];try rfl)
  refine c5C λi B=>i9 (c6D (p.mem_iff.mp B)) λk _ q=>?_;clear B;subst q;rfl
 ·have:=p.map Int.toNat;rw [List.map_map,show Int.toNat ∘ Int.ofNat=id from rfl,List.map_id] at this;exact this
theorem a5w (xs:List Nat):∃ ys:List Nat,(N0 (xs.map Int.ofNat)).map f7.int=iL ys/\ys.Perm xs:=by
 exact i9 (b4Z (List.mergeSort_perm (xs.map Int.ofNat) λa b=>decide (a<=b))) λys e p=>⟨ys,by unfold N0;rw[e];rw[(a0H ..)];rfl,p⟩
theorem a6m {α β:Type} {f:α->β} {ys:List β} (h:∀ y∈ys,∃ z,y=f z):∃ zs:List α,ys=zs.map f:=by
 induction ys with
 | nil=>exact ⟨[],rfl⟩
 | cons y ys J =>
  refine eE (h y (c5u)) λz O=>?_;subst O;refine eE (J λw B=>h w (c5t _ B)) λzs q=>?_;clear h J;subst q;exact ⟨z :: zs,rfl⟩
theorem a7E {α β:Type} {f:α->β} {l:List α} (h:(l.map f).Nodup):l.Nodup:=by
 unfold List.Nodup at h ⊢;rw [List.pairwise_map] at h;exact List.Pairwise.imp (λh e=>h (c5z f e)) h
theorem a4u {α β:Type} {l:List α} {g:α->List β} (h:∀ a∈l,(g a).length<=m):(l.flatMap g).length<=l.length * m:=by
 induction l with
 | nil=>exact c5B _
 | cons a l B =>
  rw[List.flatMap_cons];rw[c50];rw[c6d];rw[(Nat.succ_mul ..)];have:=h a (c5u);have:=B λb q=>h b (c5t _ q);exact c2E ‹_› this
variable {ks:List Nat}
theorem Sy.keep (S:Sy lay C H lf st) {q:Hp} (k:m4 H q):Sy lay C q lf st:=⟨S.L.keep k,S.E,S.I⟩
theorem Sy.lt (S:Sy lay C H lf st) (ha:a < st.up.length):g8 st.up a < st.up.length:=E9 S.I.up S.I.lt a ha
theorem Sy.idem (S:Sy lay C H lf st) (ha:a < st.up.length):g8 st.up (g8 st.up a)=g8 st.up a:=a0b S.I.up ha
theorem Sy.small (S:Sy lay C H lf st):st.up.length<=17:=S.I.small
theorem a1V {m:Nm} {q:Lv} {K:Nat} (S:Sy lay C H lf st) (O:(FT w4 m).isSome=true) (J:a0i (a7e lay) m=none) (U:∀ Q:l8,Q (.ref (lay (.eg 0))) H->e (j3 FT K) r H Q) (h:q (j3 FT K) r H λvs B=>(j3 FT K).call w4 m (.ref (lay (.eg 0)) :: vs) B Q):l4 e m q (j3 FT K) r H Q :=
 C6 O (S.L.at_ _ _ S.E.c0) (S.L.at_ _ _ S.E.c1) J U h
theorem b4i (S:Sy lay C H lf st) (ha:a < st.up.length) (q:∀ b (ys:List Nat),H b=none->ys.length<=17->(∀ j,j∈ys↔j < st.up.length/\g8 st.up j=g8 st.up a)->Q (.ref b) (H.set b (.list (iL ys)))) :
  (j3 FT (n+3)).call w4 a07 [.ref (lay (.eg 0)),.int (a:Nat)] H Q:=by
 have Y:(S7 lay st.up.length).length<=n8:=by unfold S7;rw[(c5q ..)];rw[c6b];exact y7 S.small
 refine J9 (S.E.cl _ (S.lt ha)) λB Z g J f=>o8 rfl rfl (f9 (A4 (C6 rfl (S.L.at_ _ _ S.E.c8) (S.L.at_ _ _ S.E.c9) rfl (λ_ q=>O4 S.L S.E.toHd (o9 rfl) rfl q) (d8 (f6 rfl (i8 (o8 rfl rfl (f9 (A4 (M0 (d8 (B7 (a2h S.L S.E.toHd (o9 rfl) rfl (C6 rfl (S.L.at_ _ _ S.E.c8) (S.L.at_ _ _ S.E.c9) rfl (o9 rfl) (d8 (f6 rfl (i8 (b50 S.L S.E S.I.toOk ha (I4 (S.L.at_ _ _ S.E.c11) Y (a7q (S.lt ha)) (i8 ?_))))))))))))))))))))
 have O:B.length<=17:=c5r (I6 g λj V=>(J j V).1) S.small;refine a4e (l:=B.map Int.ofNat) (by rw[(a0H ..)];exact S.L.at_ _ _ Z) (by rw[(c5q ..)];exact c5v O (c5o rfl)) λb U=>?_
 refine i9 (a5w B) λys e p=>?_;rw[e];refine q b ys U (by rw[p.length_eq];exact O) λj=>?_
 refine D5 (p.mem_iff ..) ?_;refine ⟨λh=>?_,λh=>f (S.idem ha) j h.1 h.2⟩;exact eA (J j h) λc d=>⟨c,d.trans (S.idem ha)⟩
theorem a2A {elt e:Ev} {ifs:Cv} (h:e K r H λv q=>itV v q λsrc B=>∃ n,a01 (a3z [x] true r (a2g elt ifs K)) src n 0 [] B λxs J=>alloc (.list xs) J Q):t8 elt [x] true (w7 e) ifs K r H Q:=h
theorem S6 {b:Nat} {l:List f7} {R:Src->Hp->Prop} (h:H b=some (.list l)) (q:R (.lst b) H):itV (.ref b) H R:=.inr (.inr (.inl ⟨b,l,rfl,h,q⟩))
noncomputable def Nds (st:St) (c:Nat) (z:G7):Prop:=∃ (i:Nat) (x:G7),st.nd[i]?=some x/\g8 st.up i=g8 st.up c/\z=x8 st.up x
noncomputable def Kd (st:St) (c k:Nat):Prop:=∃ z,Nds st c z/\k∈z.2
theorem Sy.two (S:Sy lay C H lf st) {z:G7} (h:Nds st a z):z.2.length<=2:=by
 refine j8 h λi x q _ B=>?_;clear h;subst B;show (x.2.map _).length<=2;rw[(c5q ..)];exact S.I.two x (c5p q)
theorem Sy.klt (S:Sy lay C H lf st) {z:G7} (h:Nds st a z) (B:k∈z.2):k < st.up.length/\g8 st.up k=k:=by
 refine j8 h λi x O _ U=>?_;clear h;subst U;refine i9 (c6D B) λq J V=>?_;clear B;subst V;have:=S.I.kid x (c5p O) q J;exact ⟨S.lt this,S.idem this⟩
theorem b7B (x:G7):a9m (s9 x)=true:=List.all_eq_true.mpr λv q=>by
 refine i9 (a7t q) λi _ B=>?_;clear q;subst B;rfl
theorem b4j (S:Sy lay C H lf st) (ha:a < st.up.length) (q:∀ J b (zs:List G7),m4 H J->J b=none->zs.length<=17->(∀ z,z∈zs↔Nds st a z)->Q (.ref b) (J.set b (.list (zs.map s9)))) :
  (j3 FT (n+4)).call w4 a0n [.ref (lay (.eg 0)),.int (a:Nat)] H Q:=by
 refine o8 rfl rfl (f9 (A4 (a32 (a2A (a1V S rfl rfl (o9 rfl) (d8 (f6 rfl (i8 (b4i S ha λb ys o p Z=>S6 l0 (O0 (l:=ys) (f:=λi=>.int (i:Nat)) (g:=λi=>[s9 (x8 st.up (st.nd.getD i ("",[])))]) (λJ k i=>⟨_,k _ _ l0,rfl⟩) ?_ (λi Y J k P u=>?_) λJ k d w=>.inr ?_))))))))))
 ·rw[(B1 ..)];rw[(c5q ..)];exact y7 p
 ·refine eA ((Z i).mp Y) λV U=>?_;have O:=S.keep ((m4.new o).trans k);have B:st.nd[i]?=some _:=c5s (by rw[S.I.eqn];exact V)
  refine ⟨_,D6,G4 (a1V O rfl rfl (o9 rfl) (d8 (f6 rfl (i8 (b8h O.L O.E O.I.toOk O.I.kid B λt G=>?_)))))⟩;have:=u t G;rwa [c5H,B] at this
 ·rw[(B1 ..)];refine ⟨d,_,rfl,l0,by rw[(c5q ..)];exact p,.inl λv c=>?_,λT R r e A=>?_⟩
  ·refine i9 (c6D c) λi _ K=>?_;clear c;subst K;exact b7B _
  ·refine eE (a6m (f:=s9) (ys:=T) λv c=>by
    refine i9 (c6D ((r v).mp c)) λi _ N=>?_;clear c;subst N;exact ⟨_,rfl⟩) λzs j=>?_;subst j
   have W:=a7E R;have s:∀ z,z∈zs↔Nds st a z:=λz=>by
    refine D5 ((show z∈zs↔s9 z∈zs.map s9 from ⟨λh=>c6E ⟨z,h,rfl⟩,λh=>by
     refine i9 (c6D h) λy D e=>?_;refine u7 (a5f e) ?_;exact D⟩) ..) ?_;refine D5 (r ..) ?_
    constructor
    ·intro h;refine i9 (c6D h) λi Y e=>eA ((Z i).mp Y) λV U=>?_;have B:st.nd[i]?=some _:=c5s (by rw[S.I.eqn];exact V)
     rw [List.getD_eq_getElem?_getD,B] at e;exact ⟨i,_,B,U,(a5f e).symm⟩
    ·rintro ⟨i,x,B,U,rfl⟩
     refine c6E ⟨i,(Z i).mpr ⟨S.I.nlt B,U⟩,?_⟩;rw[c5H];rw[B];rfl
   refine q _ e zs (((m4.new o).trans k).trans (.new w)) A (c5r (a0o W (m:=st.nd.map (x8 st.up)) λz F=>?_) (by rw[(c5q ..)];exact S.I.nd)) s
   refine j8 ((s z).mp F) λi x B _ M=>?_;clear F;subst M;exact c6E ⟨x,c5p B,rfl⟩
structure Gr (lay:Slot->Nat) (H:Hp) (g:Nat):Prop where
 gr:∃ gd,H g=some (.inst w6 gd)/\H gd=some (.ns [(w5,.ref (lay (.eg 0)))])
theorem Gr.keep (G:Gr lay H g) {q:Hp} (k:m4 H q):Gr lay q g:=⟨G.gr.imp λ_=>And.imp (k _ _) (k _ _)⟩
theorem a3N (G:Gr lay H g) (B:∀ Q:l8,Q (.ref g) H->e K r H Q) (q:Q (.ref (lay (.eg 0))) H):n7 e w5 K r H Q :=
 G.gr.elim λ_ z=>a5C (B _ (a79 z.1 z.2 rfl q))
theorem W9 {m:Nm} {q:Lv} {K:Nat} (G:Gr lay H g) (O:(FT w6 m).isSome=true) (J:a0i [(w5,f7.ref (lay (.eg 0)))] m=none) (U:∀ Q:l8,Q (.ref g) H->e (j3 FT K) r H Q) (h:q (j3 FT K) r H λvs B=>(j3 FT K).call w6 m (.ref g :: vs) B Q):l4 e m q (j3 FT K) r H Q :=
 G.gr.elim λ_ z=>C6 O z.1 z.2 J U h
theorem b58 {elt e:Ev} {t2:List Nm} {B:Bool} {q:It} {ifs:Cv} (h:e K r H λv J=>itV v J λsrc O=>∃ n,a01 (a3z [x] true r (b1P elt t2 B q ifs K)) src n 0 [] O λxs U=>alloc (.list xs) U Q):a3J elt [x] true (w7 e) t2 B q ifs K r H Q:=h
theorem b8f (S:Sy lay C H lf st) (G:Gr lay H g) (ha:a < st.up.length) (q:∀ O b (ks:List Nat),m4 H O->O b=none->ks.length<=17->(∀ k,k∈ks↔Kd st a k)->Q (.ref b) (O.set b (.list (iL ks)))) :
  (j3 FT (n+5)).call w6 n6 [.ref g,.int (a:Nat)] H Q:=by
 refine o8 rfl rfl (f9 (A4 (a32 (b58 (a1V S rfl rfl (λ_ q=>a3N G (o9 rfl) q) (d8 (f6 rfl (i8 (b4j S ha λW b V K y T Y=>S6 l0 (O0 (l:=V) (f:=s9) (g:=λz=>iL z.2) (λO k i=>⟨_,k _ _ l0,rfl⟩) ?_ (λz J O k P w=>?_) λO k d D=>.inl ?_))))))))))
 ·refine c5r (a4u (m:=2) λz J=>?_) (c5r (Nat.mul_le_mul_right 2 T) (c5o rfl));rw[(n0 ..)];exact S.two ((Y z).mp J)
 ·have U:=S.two ((Y z).mp J);have e:(z.2.flatMap λi=>[f7.int (i:Nat)])=iL z.2:=B1 ..;refine ⟨_,D6,a1p (l:=iL z.2) (λR x=>a5D (f6 rfl (m3 (a1z (v:=.str z.1) (by rw[(n0 ..)];unfold n8;exact zo1 U) (x _ (.refl _)))))) _ λsrc X L I=>O0 (l:=z.2) (f:=λi=>.int (i:Nat)) (g:=λi=>[.int (i:Nat)]) I (by rw[e];rw[(n0 ..)];unfold n8;exact zo0 U) (λi h t j P' Z=>⟨_,D6,G4 (f6 rfl (Z _ (.refl _)))⟩) λt j=>by rw[e];exact w _ (L.trans j)⟩
 ·have e:(V.flatMap λz=>iL z.2)=iL (V.flatMap (·.2)):=(List.map_flatMap ..).symm;rw[e];have mem:∀ k,k∈V.flatMap (·.2)↔Kd st a k:=λk=>by
   refine D5 (List.mem_flatMap ..) ?_;exact ⟨λp=>by refine i9 p λz J B=>?_;clear p;exact ⟨z,(Y z).mp J,B⟩,λr=>by refine i9 r λz J B=>?_;clear r;exact ⟨z,(Y z).mpr J,B⟩⟩
  have klt:∀ k,Kd st a k->k < st.up.length:=λk s=>by refine i9 s λz J B=>?_;clear s;exact (S.klt J B).1
  refine ⟨(V.flatMap (·.2)).map Int.ofNat,.inr ⟨d,rfl,by rw[(a0H ..)];exact l0⟩,λi h=>?_,λys F E c A=>?_⟩
  ·refine i9 (c6D h) λk B N=>?_;clear h;subst N;have:=klt k ((mem k).mp B);have:=S.small;exact ⟨c5N _,by show ((k:Nat):Int) < 17;exact c1k ‹_› this⟩
  ·refine p9 (a5E F E) λks u M o=>?_;rw[u];refine q _ c ks (((K.trans (.new y)).trans k).trans (.new D)) A (I6 M λk B=>c5G (klt k ((mem k).mp ((o k).mp B))) S.small) λk=>(o k).trans (mem k)
variable {β:Type}{v:β}{fs:List (Nat×β)}{f:β->f7}
noncomputable def dM (f:β->f7) (fs:List (Nat×β)):List (f7×f7):=fs.map λp=>(f7.int (p.1:Nat),f p.2)
noncomputable def put (fs:List (Nat×β)) (k:Nat) (v:β):List (Nat×β):=if (fs.lookup k).isSome then fs.map λp=>if p.1=k then (p.1,v) else p else fs++[(k,v)]
theorem b1v (k:Nat):J6 (dM f fs) (.int (k:Nat)):=b1i (g:=λp=>p.1) (λ_=>rfl) k
open Classical in
theorem a22:B4 (dM f fs) (.int (k:Nat))=(fs.lookup k).map f:=by
 induction fs with
 | nil=>rfl
 | cons p fs q =>
  obtain ⟨a,b⟩:=p;unfold B4 dM at q ⊢;rw[c6a];refine b9 List.find?_cons ?_;rw[c6c];by_cases h:k=a
  ·subst h;rw[(c6h (show f7.int (k:Nat)=.int (k:Nat) from rfl))];rw[(c6m ..)];rfl
  ·rw[(c5Y (show f7.int (a:Nat)≠.int (k:Nat) from λe=>h (Int.ofNat.inj (f7.int.inj e)).symm))];rw[(beq_false_of_ne h)];exact q
open Classical in
theorem b5g:J2 (dM f fs) (.int (k:Nat)) (f v)=dM f (put fs k v):=by
 unfold J2 put;rw[a22];rw[Option.isSome_map]
 split
 ·unfold dM;rw[c55];rw[c55];refine c5C λp _=>?_;show (if f7.int (p.1:Nat)=.int (k:Nat) then _ else _)=(f7.int ((if p.1=k then (p.1,v) else p).1:Nat),f (if p.1=k then (p.1,v) else p).2)
  by_cases h:p.1=k
  ·rw[(c58 h)];refine b9 (c58 (by rw[h];rfl)) ?_;rfl
  ·rw[(c57 h)];rw[(c57 (show ¬f7.int (p.1:Nat)=.int (k:Nat) from λe=>h (Int.ofNat.inj (f7.int.inj e))))];rfl
 ·unfold dM;rw[c54];rfl
theorem Q4 {j:Nat}:(put fs k v).lookup j=if j=k then some v else fs.lookup j:=by
 unfold put
 split
 ·rename_i h;induction fs with
  | nil=>exact nomatch h
  | cons p fs J =>
   obtain ⟨a,b⟩:=p;rw[c6a];by_cases e:a=k
   ·clear h;subst e;rw[(c58 rfl)];rw[c6c];rw[c6c];by_cases B:j=a
    ·rw[B];rw[(c6m ..)];rw[(c58 rfl)];rfl
    ·rw[(beq_false_of_ne B)];rw[(c57 B)];cases q:fs.lookup a with
     | some _=>have:=J (by rw[q];rfl);rw [if_neg B] at this;exact this
     | none =>
      have:fs.map (λp=>if p.1=a then (p.1,v) else p)=fs:=by
       conv=>rhs;(rewrite [<- List.map_id fs];try rfl)
       refine c5C λp O=>c57 λe=>?_;rw [List.lookup_eq_none_iff] at q;have:=q p O;rw [e,bne_self_eq_false] at this;cases this
      rw[this];rfl
   ·rw[(c57 e)];rw[c6c];rw[c6c];rw [List.lookup_cons,beq_false_of_ne (λz=>e z.symm)] at h;by_cases B:j=a
    ·rw[B];rw[(c6m ..)];rw[(c57 e)];rfl
    ·rw[(beq_false_of_ne B)];exact J h
 ·rename_i h;rw[List.lookup_append];rw[c6c];by_cases e:j=k
  ·rw[e];rw[(c58 rfl)];rw[(c6m ..)];cases q:fs.lookup k with
   | none=>rfl
   | some _=>rw [q] at h;exact c59 rfl h
  ·rw[(c57 e)];rw[(beq_false_of_ne e)];exact Option.or_none ..
theorem a5F:(put fs k v).map (·.1)=if (fs.lookup k).isSome then fs.map (·.1) else fs.map (·.1)++[k]:=by
 unfold put
 split
 ·rw[c55];refine c5C λp _=>?_;show (if p.1=k then (p.1,v) else p).1=p.1
  split <;> rfl
 ·rw[c54];rfl
theorem P1:k∈fs.map (·.1)↔(fs.lookup k).isSome=true:=by
 induction fs with
 | nil=>exact ⟨(λh=>nomatch h),(λh=>nomatch h)⟩
 | cons p fs q =>
  obtain ⟨a,b⟩:=p;rw[c6a];refine D5 (List.mem_cons ..) ?_;rw[c6c];refine D5 (q ..) ?_;by_cases h:k=a
  ·rw[h];rw[(c6m ..)];exact ⟨λ_=>rfl,λ_=>.inl rfl⟩
  ·rw[(beq_false_of_ne h)];exact ⟨λz=>z.resolve_left h,.inr⟩
variable {v:f7}{fs:List (Nat×Nat)}
theorem m4.put {q:Hp} (k:m4 q H) (h:q a=none):m4 q (H.set a o):=λb p e=>(C8 λz=>by rw [z,h] at e;cases e).trans (k b p e)
theorem b6S {i:Decidable (xs=[])}:@decide _ i=xs.isEmpty:=by
 cases xs with
 | nil=>exact c6h rfl
 | cons _ _=>exact c5Y (λe=>nomatch e)
theorem b08 {b:Nat} (h:H a=some (.list xs)) (q:H b=some (.list [])):eq0 H (.ref a) (.ref b) xs.isEmpty:=.inr ⟨a,b,xs,[],rfl,rfl,h,q,.inr (.inr rfl),b6S.symm⟩
theorem a60 {Q:F7} (h:H a=some (.list xs)) (q:∀ b,H b=none->Q xs.isEmpty (H.set b (.list []))):G9 h9 K r H λw J=>P0 .eq (.ref a) w J Q :=
 a0x (i8 λb B=>⟨_,.inl (b08 (m4.new B _ _ h) l0),q b B⟩)
theorem b0l {Q:F7} (h:H a=some (.list xs)) (q:∀ b,H b=none->Q (!xs.isEmpty) (H.set b (.list []))):G9 h9 K r H λw J=>P0 .ne (.ref a) w J Q :=
 a0x (i8 λb B=>.inl ⟨_,.inl (b08 (m4.new B _ _ h) l0),q b B⟩)
theorem a08 {β:Type} {f:β->f7} {fs:List (Nat×β)} {Q:F7} (h:H a=some (.dict (dM f fs) ep)) (q:Q (!(fs.lookup k).isSome) H):P0 .notin (.int (k:Nat)) (.ref a) H Q :=
 .inr (.inr (.inr ⟨a,_,ep,rfl,h,b1v k,by rw[a22];rw[Option.isSome_map];exact q⟩))
theorem a1W {β:Type} {f:β->f7} {fs:List (Nat×β)} {v:β} (h:H a=some (.dict (dM f fs) ep)) (e:fs.lookup k=some v) (q:Q (f v) H):a7g (.ref a) (.int (k:Nat)) H Q :=
 .inr (.inr ⟨a,_,ep,_,rfl,h,b1v k,by rw[a22];rw[e];rfl,q⟩)
theorem a7R {β:Type} {f:β->f7} {fs:List (Nat×β)} {v:β} {e i:Ev} {Q:a2F} (B:∀ Q:l8,Q (.ref a) H->e K r H Q) (J:∀ Q:l8,Q (.int (k:Nat)) H->i K r H Q) (h:H a=some (.dict (dM f fs) ep)) (O:fs.length<=n8) (q:∀ ep',Q r (H.set a (.dict (dM f (put fs k v)) ep'))):a0W e i K (f v) r H Q :=
 a2e B J h (b1v k) (by unfold dM;rw[(c5q ..)];exact O) (by rw[b5g];exact q _)
theorem a30 (h:∀ a,H a=none->Q (.ref a) (H.set a (.dict [] 0))):a0e K r H Q:=h
theorem a6B (h:H a=some (.list (l.map f7.int))\/a8i H a l) (B:l.length < 64) (q:∀ b,H b=none->Q (.ref b) (H.set b (.list ((N0 l).map f7.int)))):biW .sorted [.ref a] H Q :=
 ⟨a,l,rfl,h,B,by rw[(c5q ..)];rewrite [N0];rw[(List.length_mergeSort ..)];unfold n8;exact b70 B,q⟩
theorem a1r {β:Type} (f:β->f7) (fs:List (Nat×β)):(dM f fs).map (·.1)=iL (fs.map (·.1)):=by unfold dM iL;rw[c55];rw[c55];rfl
end
theorem U7 {α:Type} {l:List α} {a:α} (h:l.Nodup) (n:a∉l):(l++[a]).Nodup :=
 List.nodup_append.mpr ⟨h,List.nodup_cons.mpr ⟨c5P,c6r⟩,λb q c B e=>n (by refine u7 (c6I B) ?_;refine u7 e ?_;exact q)⟩
inductive Rch (st:St) (c:Nat):Nat->Prop
 | base:Rch st c (g8 st.up c)
 | step {a k:Nat}:Rch st c a->Kd st a k->Rch st c k
section
variable {hs:List Int}{ks:List Nat}{W:A2}{n:Nat}
theorem Sy.rch (S:Sy lay C H lf st) (ha:a < st.up.length) (h:Rch st a k):k < st.up.length/\g8 st.up k=k:=by
 induction h with
 | base=>exact ⟨S.lt ha,S.idem ha⟩
 | step _ q _=>revert q;intro B;refine i9 B λz J q=>?_;clear B;exact S.klt J q
noncomputable abbrev tt:Unit->f7:=λ_=>.bool true
structure RI (st:St) (a:Nat) (xs:List (Nat×Unit)) (ws:List Nat):Prop where
 nd:(xs.map (·.1)).Nodup
 rc:∀ x,x∈xs.map (·.1)\/x∈ws->Rch st a x
 cl:∀ k,(k=g8 st.up a\/∃ x,x∈xs.map (·.1)/\Kd st x k)->k∈xs.map (·.1)\/k∈ws
 wb:ws.length<=1+17 * xs.length
theorem RI.old {xs:List (Nat×Unit)} {q:List Nat} {w:Nat} (R:RI st a xs (q++[w])) (h:w∈xs.map (·.1)):RI st a xs q :=
 ⟨R.nd,λx h=>R.rc x (h.imp id (c5D _)),λk z=>(R.cl k z).elim .inl λm=>(c6H m).elim .inr λe=>.inl (c6I e▸h),by have:=R.wb;rw [List.length_append] at this;exact c6f this⟩
theorem RI.new {xs:List (Nat×Unit)} {B ks:List Nat} {w:Nat} (R:RI st a xs (B++[w])) (h:w∉xs.map (·.1)) (J:∀ k,k∈ks↔Kd st w k) (O:ks.length<=17):RI st a (xs++[(w,())]) (B++ks):=by
 have e:(xs++[(w,())]).map (·.1)=xs.map (·.1)++[w]:=c54 ..;have z:∀ {k},k∈xs.map (·.1)\/k∈B++[w]->k∈xs.map (·.1)++[w]\/k∈B++ks:=λh=>h.elim (λh=>.inl (c5D _ h)) λh=>(c6H h).elim (λh=>.inr (c5D _ h)) λh=>.inl (c5E _ h);have q:=R.rc w (.inr (c5E _ (c6M rfl)));refine ⟨?_,?_,?_,?_⟩
 ·rw[e];exact U7 R.nd h
 ·rw[e];exact λx h=>h.elim (λh=>(c6H h).elim (λh=>R.rc x (.inl h)) λh=>c6I h▸q) λh=>(c6H h).elim (λh=>R.rc x (.inr (c5D _ h))) λh=>.step q ((J x).mp h)
 ·rw[e];exact λk h=>h.elim (λh=>z (R.cl k (.inl h))) λh=>h.elim λx h=>(c6H h.1).elim (λm=>z (R.cl k (.inr ⟨x,m,h.2⟩))) λm=>.inr (c5E _ ((J k).mpr (c6I m▸h.2)))
 ·have:=R.wb;rw [List.length_append] at this ⊢;rw[c50];show _<=1+17 * (xs.length+1);have:B.length+1<=1+17 * xs.length:=this;exact c2j O this
theorem RI.done {xs:List (Nat×Unit)} (R:RI st a xs []) (k:Nat):k∈xs.map (·.1)↔Rch st a k:=by
 refine ⟨λh=>R.rc k (.inl h),λh=>?_⟩;induction h with
 | base=>exact (R.cl _ (.inl rfl)).resolve_right c5P
 | step _ q B=>exact (R.cl _ (.inr ⟨_,B,q⟩)).resolve_right c5P
theorem a4Y (S:Sy lay C H lf st) (G:Gr lay H g) (ha:a < st.up.length) (q:∀ H' b (xs:List Nat),m4 H H'->H' b=none->xs.Nodup->(∀ k,k∈xs↔Rch st a k)->Q (.ref b) (H'.set b (.list ((N0 (xs.map Int.ofNat)).map f7.int)))) :
  (j3 FT (n+6)).call w6 Z9 [.ref g,.int (a:Nat)] H Q:=by
 have Z:∀ {xs Y},RI st a xs Y->xs.length<=17:=λR=>by
  have:=I6 R.nd λx hx=>(S.rch ha (R.rc x (.inl hx))).1;rw [List.length_map] at this;exact c5r this S.small
 refine o8 rfl rfl (f9 (t7 (D2 (d8 (a30 λM O=>d8 (a0x (d8 (a1V (S.keep (.new O)) rfl rfl (λ_ q=>a3N (G.keep (.new O)) (o9 rfl) q) (d8 (f6 rfl (i8 (a40 (S.keep (.new O)).L S.E S.I.toOk ha (i8 λj d=>i8 (a3g (.inl rfl) ?_))))))))))))));have U:H j=none:=by
  cases e:H j with
  | none=>rfl
  | some o=>rw [m4.new O _ _ e] at d;cases d
 have i:M≠j:=λe=>by rw [<- e,l0] at d;cases d
 refine f9 (a5t (λk y D=>∃ (xs:List (Nat×Unit)) (Y:List Nat) (ep:Nat),m4 H D/\y f8=some (.ref g)/\y J5=some (.ref M)/\y I0=some (.ref j)/\D M=some (.dict (dM tt xs) ep)/\D j=some (.list (iL Y))/\RI st a xs Y/\k=(17 - xs.length) * 20+Y.length) _
  ⟨[],[g8 st.up a],0,((m4.refl H).put O).put U,rfl,rfl,rfl,(C8 i).trans l0,l0,⟨c6r,λx h=>h.elim (λh=>nomatch h) λh=>c6I h▸.base,λk h=>h.elim (λh=>.inr (c6M h)) λh=>h.elim λ_ h=>(nomatch h.1),c5w _⟩,rfl⟩ λk y D hI W T=>?_)
 obtain ⟨xs,Y,ep,k1,hs,K,u,sd,wl,R,rfl⟩:=hI;refine t0 (f6 u (b0l wl λb F=>⟨λt=>?_,λt=>?_⟩))
 ·obtain ⟨B,w,ew⟩:∃ B w,Y=B++[w]:=⟨Y.dropLast,Y.getLast (λe=>by rw [e] at t;cases t),(List.dropLast_concat_getLast _).symm⟩
  clear t;rw [ew] at wl R T;clear ew;have wb:=R.wb;have P:=Z R;rw [List.length_append] at wb T;have k2:=k1.trans (m4.new (o:=.list []) F);have N:=m4.new (o:=.list []) F _ _ wl;have hl:(iL (B++[w])).length<=n8:=by rw[(n0 ..)];rw[c50];unfold n8;exact c1Y wb P
  refine f9 (t7 (b4S (o9 u) N (i8 (b3t N hl (by refine u7 a1o ?_;refine b9 List.getLast?_concat ?_;rfl) (y0 ?_)))))
  refine u7 a1o ?_;rw[List.dropLast_concat];have k3:=k2.put (o:=.list (iL B)) U;have z:=(C8 (H:=D.set b (.list [])) (a:=j) (o:=.list (iL B)) i).trans (m4.new (o:=.list []) F _ _ sd);have s:(y.set t9 (.int (w:Nat))) f8=some (.ref g):=hs;have J:(y.set t9 (.int (w:Nat))) J5=some (.ref M):=K;have V:(y.set t9 (.int (w:Nat))) I0=some (.ref j):=u;refine f9 (J7 (t0 (f6 rfl (f6 J (a08 z ⟨λt=>?_,λt=>?_⟩)))))
  ·have new:w∉xs.map (·.1):=λh=>by rw [P1.mp h] at t;cases t
   refine f9 (t7 (m3 (a7R (f:=tt) (v:=()) (o9 J) (o9 rfl) z (c5r P (by decide)) λp=>?_)))
   rw[(show put xs w ()=xs++[(w,())] from c57 λh=>new (P1.mpr h))];have X:=k3.put (o:=.dict (dM tt (xs++[(w,())])) p) O;have A:=(C8 (H:=(D.set b (.list [])).set j (.list (iL B))) (a:=M) (o:=.dict (dM tt (xs++[(w,())])) p) λe=>i e.symm).trans l0;have hw:=(S.rch ha (R.rc w (.inr (c5E _ (c6M rfl))))).1;refine f9 (F0 (a5a (o9 V) A (d8 (W9 (G.keep X) rfl rfl (o9 s) (d8 (f6 rfl (i8 (b8f (S.keep X) (G.keep X) hw λH5 c ks k5 r kl km=>i8 (a4F (k5.trans (m4.new r) _ _ A) l0 (λe=>?_) ?_ ?_)))))))))
   ·subst e;rw [k5 _ _ A] at r;cases r
   ·rw[(n0 ..)];rw[(n0 ..)];unfold n8;exact c2C wb P kl
   have R2:=R.new new km kl;have m:=Z R2;refine T _ _ _ ?_ ⟨xs++[(w,())],B++ks,p,(X.trans (k5.trans (m4.new (o:=.list (iL ks)) r))).put U,s,J,V,(C8 (H:=H5.set c (.list (iL ks))) (a:=j) i).trans (k5.trans (m4.new (o:=.list (iL ks)) r) _ _ l0),?_,R2,rfl⟩
   ·rw [List.length_append] at m ⊢;rw[c50];have m:xs.length+1<=17:=m;show (17 - (xs.length+1)) * 20+_ < (17 - xs.length) * 20+(B.length+1);exact c2u kl m
   ·rw[l0];unfold iL;rw[c54];rfl
  ·refine T _ _ _ (Nat.add_lt_add_left (c5J _) _) ⟨xs,B,ep,k3,s,J,V,z,l0,R.old (P1.mpr ?_),rfl⟩;cases h:(xs.lookup w).isSome <;> rw [h] at t <;> first | rfl | cases t
 ·obtain rfl:Y=[]:=by
   cases Y with
   | nil=>rfl
   | cons _ _=>exact nomatch t
  have P:=Z R;refine f9 (A4 (M0 (d8 (f6 K (i8 (a6B (l:=(xs.map (·.1)).map Int.ofNat) (.inr ⟨_,_,m4.new F _ _ sd,by rw[(a1r ..)];rw[(a0H ..)];rfl⟩) ?_ λc r=>?_))))))
  ·rw[(c5q ..)];rw[(c5q ..)];exact c5v P (c5o rfl)
  ·exact q _ c _ (k1.trans (.new F)) r R.nd R.done
variable {mk:List Nat}
inductive Trn (N:Nat->List Nat->Prop) (ov:List Nat->Nat):Nat->Nat->Prop
 | mk {c:Nat} {ks ds:List Nat}:N c ks->ds.length=ks.length->(∀ q d k:Nat,ds[q]?=some d->ks[q]?=some k->Trn N ov d k)->Trn N ov (ov ds) c
noncomputable def Kn (st:St) (c:Nat) (ks:List Nat):Prop:=∃ z,Nds st c z/\z.2=ks
noncomputable abbrev Trm (st:St):=Trn (Kn st)
noncomputable def mx (ds:List Nat):Nat:=ds.foldl max 0
noncomputable def R8 (ds:List Nat):Nat:=1+mx ds
noncomputable def szO (ds:List Nat):Nat:=1+ds.sum
theorem a0R (ds:List Nat):∀ a,a<=ds.foldl max a/\(∀ d∈ds,d<=ds.foldl max a)/\(ds.foldl max a=a\/ds.foldl max a∈ds):=by
 induction ds with
 | nil=>exact λa=>⟨c5w _,(λd h=>nomatch h),.inl rfl⟩
 | cons b ds J =>
  intro a;refine eAA (J (max a b)) λq B h3=>?_;rw[List.foldl_cons];refine ⟨c5r (Nat.le_max_left a b) q,λd hd=>?_,?_⟩
  ·rcases c6K hd with rfl | hd
   ·exact c5r (Nat.le_max_right a d) q
   ·exact B d hd
  ·rcases h3 with h3 | h3
   ·rw[h3];rcases c5Z a b with z | z
    ·rw[(Nat.max_eq_right z)];exact .inr (c5u)
    ·rw[(Nat.max_eq_left z)];exact .inl rfl
   ·exact .inr (c5t _ h3)
theorem a4b {ds:List Nat} (h:∀ d∈ds,d<=m):mx ds<=m:=(a0R ds 0).2.2.elim (λe=>by unfold mx;rw[e];exact c5B _) (h _)
theorem a46 {ds:List Nat} {d:Nat} (h:d∈ds):d<=mx ds:=(a0R ds 0).2.1 d h
theorem b2A (ds:List Nat):b0c ((ds.map Int.ofNat)++[0])=(mx ds:Nat):=by
 have q:∀ (l:List Nat) (a:Nat),List.foldl max (a:Int) (l.map Int.ofNat++[0])=((l.foldl max a:Nat):Int):=λl=>by
  induction l with
  | nil=>exact λa=>Int.max_eq_left (c5N a)
  | cons b l B =>
   intro a;show List.foldl max (max (a:Int) (b:Int)) (l.map Int.ofNat++[0])=_;rw[(show max (a:Int) (b:Int)=((max a b:Nat):Int) by exact c26)];rw[(B ..)];rfl
 cases ds with
 | nil=>rfl
 | cons a l =>
  show List.foldl max (a:Int) (l.map Int.ofNat++[0])=_;rw[(q ..)];unfold mx;rw[List.foldl_cons];rw[(Nat.zero_max ..)];rfl
theorem b8a {ds es:List Nat} (q:∀ d∈ds,d<=mx es) (B:mx es<=mx ds):R8 ds=R8 es:=c5z (1+·) (Nat.le_antisymm (a4b q) B)
noncomputable def GD (st:St) (c g:Nat):Prop:=Trm st R8 g c/\∀ d,Trm st R8 d c->d<=g
theorem a3h {f:Nat->Nat} {q d k:Nat} (B:(ks.map f)[q]?=some d) (J:ks[q]?=some k):d=f k:=by
 rw [List.getElem?_map,J] at B;exact (c5A B).symm
theorem Sy.node (S:Sy lay C H lf st) (ha:a < st.up.length):∃ z,Nds st a z:=by
 have q:st.nd[a]?=some _:=c5s (by rw[S.I.eqn];exact ha)
 exact ⟨_,a,_,q,rfl,rfl⟩
theorem c0I (S:Sy lay C H lf st) (l:c < st.up.length) (b:∀ k,k∈ks↔Kd st c k) {f:Nat->Nat} (Z:∀ k∈ks,GD st k (f k)):GD st c (R8 (ks.map f)):=by
 have Y:∀ {z:G7},Nds st c z->∀ k∈z.2,k∈ks:=λB k J=>(b k).mpr ⟨_,B,J⟩;have j:∀ {z:G7},Nds st c z->Trm st R8 (R8 (z.2.map f)) c:=λB=>.mk ⟨_,B,rfl⟩ (c5q ..) λq d k O J=>by
  rw[(a3h O J)];exact (Z k (Y B k (c5p J))).1
 have g:∀ {z:G7},Nds st c z->∀ d∈z.2.map f,d<=mx (ks.map f):=λB d O=>by
  refine i9 (c6D O) λk J o=>?_;clear O;subst o;exact a46 (c6E ⟨k,Y B k J,rfl⟩)
 refine ⟨?_,λd O=>?_⟩
 ·rcases (a0R (ks.map f) 0).2.2 with e | h
  ·refine eE (S.node l) λz B=>?_;refine u7 (b8a (g B) (by unfold mx;rw[e];exact c5B _)) ?_;exact j B
  ·refine i9 (c6D h) λk J e=>i9 ((b k).mp J) λz B V=>?_;refine u7 (b8a (g B) (by show List.foldl max 0 (ks.map f)<=_;refine u7 e ?_;exact a46 (c6E ⟨k,V,rfl⟩))) ?_;exact j B
 ·obtain ⟨⟨z,B,rfl⟩,m,n⟩:=O;refine c5I (a4b λd O=>?_) 1;refine eE (List.getElem?_of_mem O) λq U=>?_;have i:=(c6C U).1;rw [m] at i;have J:=c5s i;have a:=Y B _ (c5p J);exact c5r ((Z _ a).2 d (n q d _ U J)) (a46 (c6E ⟨_,a,rfl⟩))
theorem b5K (ds:List Nat):(ds.map Int.ofNat).sum=(ds.sum:Nat):=by
 induction ds with
 | nil=>rfl
 | cons a l q=>rw[c6a];rw[c6z];rw[c6z];rw[q];rw[(Int.natCast_add ..)];rfl
noncomputable def b3r (f:Nm) (ov:List Nat->Nat):Prop:=∀ (n d:Nat) (ds:List Nat) (H:Hp) (Q:l8),H d=some (.list (iL ds))->ds.length<=17->(∀ H',m4 H H'->Q (.int (ov ds:Nat)) H')->(j3 FT (n+1)).call 0 f [.ref d] H Q
theorem a8k:b3r T0 R8:=λn d J H Q U V q=>by
 refine o8 rfl rfl (f9 (A4 (C5 (m3 (M0 (d8 (C5 (f6 rfl (a0x (d8 (m3 (i8 λb B=>add_list (m4.new B _ _ U) l0 ?_ λc O=>i8 (a83 (l:=J.map Int.ofNat++[0]) ?_ (λe=>?_) (K7 ?_))))))))))))))
 ·rw[(n0 ..)];show _+1<=_;unfold n8;exact c5v V (c5o rfl)
 ·rw[l0];rw[c54];rw[(a0H ..)];rfl
 ·exact nomatch (List.append_eq_nil_iff.mp e).2
 ·rw[(b2A ..)];refine u7 Int.natCast_one ?_;refine u7 (Int.natCast_add ..) ?_;exact q _ ((m4.new B).trans (.new O))
theorem b7E:b3r a19 szO:=λn d B H Q J O q=>by
 refine o8 rfl rfl (f9 (A4 (C5 (m3 (M0 (d8 (f6 rfl (i8 (a9r (l:=B.map Int.ofNat) (by rw[(a0H ..)];exact J) (K7 ?_))))))))))
 rw[(b5K ..)];refine u7 Int.natCast_one ?_;refine u7 (Int.natCast_add ..) ?_;exact q _ (.refl _)
variable {fs:List (Nat×Nat)}
theorem b1q {x y z:Nm} {u v w:f7} {t:f7} {Q:a2F} (h:a1E H t [u,v,w]) (q:Q (((r.set x u).set y v).set z w) H):K1 [l5 x,l5 y,l5 z] K t r H Q:=⟨[u,v,w],h,rfl,u,_,rfl,v,_,rfl,w,[],rfl,rfl,q⟩
theorem a8S {β:Type} {f:β->f7} {fs:List (Nat×β)} (h:H a=some (.dict (dM f fs) ep)) (B:(dM f fs).length<=n8) (q:Q (.int ((dM f fs).length:Nat)) H):biW .len [.ref a] H Q :=
 ⟨.ref a,iL (fs.map (·.1)),rfl,.inr ⟨a,(fs.map (·.1)).map Int.ofNat,rfl,⟨_,ep,h,by rw[(a1r ..)];rw[(a0H ..)];rfl⟩,(a0H _).symm⟩,by rewrite [<- a1r f];rw[(c5q ..)];exact B,by rewrite [<- a1r f];rw[(c5q ..)];exact q⟩
theorem a7n {β:Type} {f:β->f7} {fs:List (Nat×β)}:(dM f fs).length=fs.length:=c5q ..
noncomputable abbrev iV:Nat->f7:=λv=>.int (v:Nat)
structure GE (H0:Hp) (g fa sb:Nat) (ys:List Nat) (fs:List (Nat×Nat)) (r:En) (H:Hp):Prop where
 keep:m4 H0 H
 self:r f8=some (.ref g)
 fnd:r l6=some (.ref fa)
 som:r a1w=some (.ref sb)
 hf:∃ ep,H fa=some (.dict (dM iV fs) ep)
 hs:H sb=some (.list (iL ys))
theorem a6i {elt:Ev} {ifs:Cv} (S:Sy lay C H lf st) (G:Gr lay H g) (t:r f8=some (.ref g)) (p:r t9=some (.int (c:Nat))) (j:c < st.up.length) (O:Nat->List f7) (e:∀ k,(O k).length<=1)
  (u:∀ k,Kd st c k->∀ B,m4 H B->∀ P:List f7->Hp->Prop,(∀ J,m4 B J->P (O k) J)->a2g elt ifs (j3 FT (n+5)) (r.set m7 (.int (k:Nat))) B P)
  (q:∀ B d (ks:List Nat),m4 H B->B d=none->ks.length<=17->(∀ k,k∈ks↔Kd st c k)->Q (.ref d) (B.set d (.list (ks.flatMap O)))):t8 elt [m7] true (w7 (l4 (d6 f8) n6 (d7 (d6 t9) h9))) ifs (j3 FT (n+5)) r H Q :=
 a2A (W9 G rfl rfl (o9 t) (d8 (f6 p (i8 (b8f S G j λv b ks Y V Z a=>S6 l0 (O0 (l:=ks) (f:=iV) (g:=O) (λB k i=>⟨_,k _ _ l0,rfl⟩) (c5r (a4u (m:=1) λk _=>e k) (by unfold n8;exact c5r (c5I Z _) (c5o rfl))) (λk s B U P h=>⟨_,D6,u k ((a k).mp s) B ((Y.trans (.new V)).trans U) P h⟩) λB U d o=>q B d ks ((Y.trans (.new V)).trans U) o Z a))))))
structure FI (st:St) (a:Nat) (fs:List (Nat×Nat)):Prop where
 nd:(fs.map (·.1)).Nodup
 rch:∀ c∈fs.map (·.1),Rch st a c
 val:∀ c v,fs.lookup c=some v->GD st c v/\v<=fs.length
noncomputable def Off (st:St) (fs:List (Nat×Nat)) (c:Nat):Prop:=fs.lookup c=none->∃ k,Kd st c k/\fs.lookup k=none
theorem a81 {c v:Nat} (h:fs.lookup c=none) (j:Nat):(fs++[(c,v)]).lookup j=if j=c then some v else fs.lookup j:=by
 have:=Q4 (fs:=fs) (k:=c) (v:=v) (j:=j);rwa [show put fs c v=fs++[(c,v)] from c57 (by rw[h];exact c5F)] at this
theorem FI.len (S:Sy lay C H lf st) (ha:a < st.up.length) (F:FI st a fs):fs.length<=17:=by
 have:=I6 F.nd λx q=>(S.rch ha (F.rch x q)).1;rw [List.length_map] at this;exact c5r this S.small
theorem FI.more (S:Sy lay C H lf st) (F:FI st a fs) (O:c < st.up.length) (b:Rch st a c) (h:fs.lookup c=none) (V:∀ k,k∈ks↔Kd st c k) (q:∀ k∈ks,(fs.lookup k).isSome=true) :
  FI st a (fs++[(c,R8 (ks.map λk=>(fs.lookup k).getD 0))]):=by
 have J:∀ k∈ks,GD st k ((fs.lookup k).getD 0)/\(fs.lookup k).getD 0<=fs.length:=λk B=>by
  refine eE (c6J (q k B)) λv e=>?_;rw[e];exact F.val k v e
 have new:c∉fs.map (·.1):=λz=>by rw [P1,h] at z;cases z
 refine ⟨by rw[c54];exact U7 F.nd new,λx hx=>?_,λx v e=>?_⟩
 ·rw [List.map_append] at hx;rcases c6H hx with hx | hx
  ·exact F.rch x hx
  ·exact c6I hx▸b
 ·rw [a81 h] at e;rw[c50];by_cases z:x=c
  ·rw [if_pos z] at e;obtain rfl:=c5A e;clear new h b;subst z;refine ⟨c0I S O V λk q=>(J k q).1,?_⟩;have Y:∀ d∈ks.map λk=>(fs.lookup k).getD 0,d<=fs.length:=λd U=>by
    refine i9 (c6D U) λk q Z=>?_;clear U;subst Z;exact (J k q).2
   show 1+mx _<=fs.length+1;rewrite [Nat.add_comm 1];exact c6x (a4b Y)
  ·rw [if_neg z] at e;exact ⟨(F.val x v e).1,Nat.le_succ_of_le (F.val x v e).2⟩
theorem a94 {L:Hp} {J m c:Nat} (S:Sy lay C H lf st) (G:Gr lay H g) (ha:a < st.up.length) (w:H J=none) (q:J≠m) (E:GE H g J m ys fs r L) (F:FI st a fs) (j:r t9=some (.int (c:Nat))) (rc:Rch st a c)
  (X:∀ Y,GE H g J m ys fs r Y->Off st fs c->W .next r Y)
  (q2:∀ Y v,GE H g J m ys (fs++[(c,v)]) r Y->FI st a (fs++[(c,v)])->W .next r Y) :
  (d9 (G6 (A8 (o7 .notin (d6 t9) (d6 l6)) (A8 (o7 .eq (t8 (d6 m7) [m7] true (w7 (l4 (d6 f8) n6 (d7 (d6 t9) h9))) (A8 (o7 .notin (d6 m7) (d6 l6)) y9)) (G9 h9)) y9))
    (d9 (p7 (a0W (d6 l6) (d6 t9)) (D0 T0 (d7 (t8 (m9 (d6 l6) (d6 m7)) [m7] true (w7 (l4 (d6 f8) n6 (d7 (d6 t9) h9))) y9) h9)))
    j9)
    j9)
   j9) (j3 FT (n+6)) r L W:=by
 refine eE E.hf λep b=>?_;have s:=(S.rch ha rc).1;refine f9 (J7 (F6 (t0 (f6 j (f6 E.fnd (a08 b ⟨λt=>?_,λt=>⟨(λz=>nomatch z),λ_=>?_⟩⟩))))))
 ·have new:fs.lookup c=none:=by cases e:fs.lookup c with
   | none=>rfl
   | some _=>rw [e] at t;cases t
  have h:∀ {v:f7},(r.set m7 v) l6=some (.ref J):=E.fnd;have N:∀ {V:List Nat},(V.flatMap λk=>if (fs.lookup k).isSome then [] else [iV k]).isEmpty=true↔∀ k∈V,(fs.lookup k).isSome=true:=by
   intro V;refine D5 (List.isEmpty_iff ..) ?_;refine D5 (List.flatMap_eq_nil_iff ..) ?_;refine forall_congr' λk=>forall_congr' λ_=>?_;cases (fs.lookup k).isSome
   ·exact ⟨(λz=>nomatch z),(λz=>nomatch z)⟩
   ·exact ⟨λ_=>rfl,λ_=>rfl⟩
  refine F6 (t0 (a6i (n:=n+1) (S.keep E.keep) (G.keep E.keep) E.self j s (λk=>if (fs.lookup k).isSome then [] else [iV k]) (λk=>by split <;> first | exact c5B _ | exact c5w _) (λk U K l P O=>?_) λK d V l Q kl D=>a60 l0 λe R=>⟨λt=>V1 ⟨λ_=>?_,(λz=>nomatch z)⟩,λt=>⟨(λz=>nomatch z),λ_=>?_⟩⟩))
  ·have O:=O K (.refl _);refine F6 (t0 (f6 rfl (f6 h (a08 (l _ _ b) ⟨λt=>V1 ⟨λ_=>f6 rfl ?_,(λz=>nomatch z)⟩,λt=>⟨(λz=>nomatch z),λ_=>?_⟩⟩))))
   ·rwa [c57 (by intro z;rw [z] at t;cases t)] at O
   ·rwa [c58 (by cases z:(fs.lookup k).isSome <;> rw [z] at t <;> first | rfl | cases t)] at O
  ·have Z:=N.mp t;have B:=l.trans ((m4.new (o:=.list (V.flatMap λk=>if (fs.lookup k).isSome then [] else [iV k])) Q).trans (.new (o:=.list []) R))
   have T:=E.keep.trans B;refine f9 (t7 (M7 (d8 (a6i (n:=n+1) (S.keep T) (G.keep T) E.self j s (λk=>[iV ((fs.lookup k).getD 0)]) (λk=>c5w _) (λk U M x P O=>?_) λM d4 I x u A i=>i8 (a8k _ d4 (I.map λk=>(fs.lookup k).getD 0) _ _ ?_ ?_ λH5 k5=>?_)))))
   ·refine eE (c6J (Z k ((D k).mpr U))) λv e=>G4 (B7 (f6 h (f6 rfl (a1W ((B.trans x) _ _ b) e ?_))));have:=O M (.refl _);rwa [e] at this
   ·rw[l0];rw[(B1 ..)];unfold iL;rw[c55];rfl
   ·rw[(c5q ..)];exact A
   ·have y:=B.trans (x.trans ((m4.new u).trans k5));refine a7R (f:=iV) (v:=R8 _) (o9 E.fnd) (o9 j) (y _ _ b) (c5r (F.len S ha) (by decide)) λp=>?_
    refine b9 (show put fs c _=fs++[(c,_)] from c57 (by rw[new];exact c5F)) ?_
    exact q2 _ _ ⟨(E.keep.trans y).put w,E.self,E.fnd,E.som,⟨p,l0⟩,(C8 λe=>q e.symm).trans (y _ _ E.hs)⟩ (F.more S s rc new i λk U=>Z k ((D k).mpr ((i k).mp U)))
  ·have B:=l.trans ((m4.new (o:=.list (V.flatMap λk=>if (fs.lookup k).isSome then [] else [iV k])) Q).trans (.new (o:=.list []) R))
   refine X _ ⟨E.keep.trans B,E.self,E.fnd,E.som,⟨ep,B _ _ b⟩,B _ _ E.hs⟩ λ_=>c5O λz=>?_;rw [N.mpr λk U=>?_] at t
   ·cases t
   ·cases e:fs.lookup k with
    | some _=>rfl
    | none=>exact c59 ⟨k,(D k).mp U,e⟩ z
 ·refine X _ E λz=>?_;rw [z] at t;cases t
end
variable {W:A2}
theorem a2c {t:List Nm} {b:Bv} {Q:A2} (h:e K r H λv q=>itV v q λsrc B=>∃ n,a5T t one (b K) src n 0 r B Q):Q6 t one (w7 e) b K r H Q:=h
theorem a7b {α:Type} {b:Bv} {V:Nat} {f:α->f7} {ys:List α} {Q:A2} (I:Nat->En->Hp->Prop) (h0:I 0 r H) (Y:∀ {i:Nat} {r:En} {H:Hp},I i r H->H V=some (.list (ys.map f)))
  (e:∀ r H,I ys.length r H->Q .next r H)
  (h:∀ (i:Nat) (c:α) (r:En) (H:Hp),ys[i]?=some c->I i r H->∀ W:A2,(∀ J q,I (i+1) J q->W .next J q)->(∀ v J q,Q (.ret v) J q->W (.ret v) J q)->b K (r.set x (f c)) H W):itV (.ref V) H λsrc a=>∃ n,a5T [x] true (b K) src n 0 r a Q :=
 S6 (Y h0) ⟨_,a0g (src:=.lst V) (ys.map f) I (λi r H B=>⟨_,Y B,rfl⟩) (λr H B=>e r H (by rwa [c5q] at B)) (λi v r H Z B W O U=>by
  rw [List.getElem?_map] at Z;refine i9 (c6G Z) λc d g=>?_;clear Z;subst g;exact ⟨_,D6,h i c r H d B W O U⟩) _ 0 r H (c5J _) (c5B _) h0⟩
section
variable {fs:List (Nat×Nat)}{R:Src->Hp->Prop}{n:Nat}
theorem b4c (S:Sy lay C H lf st) (G:Gr lay H g) (ha:a < st.up.length) (q:∀ A U (fs:List (Nat×Nat)) ep,m4 H A->A U=some (.dict (dM iV fs) ep)->FI st a fs->(∀ c,Rch st a c->Off st fs c)->Q (.ref U) A) :
  (j3 FT (n+7)).call w6 M8 [.ref g,.int (a:Nat)] H Q:=by
 refine o8 rfl rfl (f9 (t7 (D2 (d8 (a30 λU J=>d8 (W9 (G.keep (.new J)) rfl rfl (o9 rfl) (d8 (f6 rfl (i8 (a4Y (n:=n) (S.keep (.new J)) (G.keep (.new J)) ha λD y xs M V xn xm=>d8 (a9z (m3 ⟨1,rfl,i8 (b1q (.inl rfl) ?_)⟩))))))))))));refine i9 (a5w xs) λys e p=>?_;rw[e];have X:∀ c,c∈ys↔Rch st a c:=λc=>p.mem_iff.trans (xm c);have k2:=(m4.new (o:=.dict [] 0) J).trans (M.trans (.new (o:=.list (iL ys)) V))
 have d:U≠y:=λe=>by rw [<- e,M _ _ l0] at V;cases V
 refine f9 (a5t (λk w D=>∃ (fs:List (Nat×Nat)) (m:Int),GE H g U y ys fs w D/\FI st a fs/\w J4=some (.int m)/\((fs.length:Nat)<=m->∀ c∈ys,Off st fs c)/\-1<=m/\k=(17 - m).toNat) _
  ⟨[],-1,⟨k2,rfl,rfl,rfl,⟨0,(C8 d).trans (M _ _ l0)⟩,l0⟩,⟨c6r,(λ_ h=>nomatch h),(λ_ _ h=>nomatch h)⟩,rfl,(λh=>nomatch h),Int.le_refl _,rfl⟩ λk w D T W hW=>?_)
 refine a4Q T λfs m E F hm cl a0 q1=>?_;clear T;subst q1;have R:=F.len S ha;have P:(dM iV fs).length<=n8:=by rw[a7n];unfold n8;exact c5r R (c5o rfl)
 refine eE E.hf λep L=>t0 (M0 (d8 (f6 E.fnd (i8 (a8S L P (f6 hm (gt_int ⟨λt=>?_,λt=>?_⟩)))))))
 ·have t:=c5y t;rw [a7n] at t;refine f9 (t7 (M0 (d8 (f6 E.fnd (i8 (a8S L P (y0 ?_)))))));rw[a7n];refine f9 (a2c (f6 (show (w.set J4 (.int (fs.length:Nat))) a1w=some (.ref y) from E.som) (a7b (f:=iV) (ys:=ys) (λi j I=>∃ B:List (Nat×Nat),GE H g U y ys B j I/\FI st a B/\j J4=some (.int (fs.length:Nat))/\fs.length<=B.length/\(B.length=fs.length->∀ c∈ys.take i,Off st B c)) ⟨fs,⟨E.keep,E.self,E.fnd,E.som,E.hf,E.hs⟩,F,rfl,c5w _,λ_ c h=>nomatch h⟩ (λl=>by refine i9 l λ_ E _=>?_;clear l;exact E.hs) (λj I l=>?_) λi c j I Y z2 W2 Z _=>?_)))
  ·refine a1m l λB O s u b K=>?_;clear l;refine hW _ _ _ ?_ ⟨B,_,O,s,u,λh c Y=>K (by exact Nat.le_antisymm (Int.ofNat_le.mp h) b) c (by rw[c6n];exact Y),by exact c5N _,rfl⟩
   exact (Int.toNat_lt_toNat (Int.sub_pos.mpr (Int.lt_of_lt_of_le t (c6Q R)))).mpr (Int.sub_lt_sub_left t 17)
  ·refine a1m z2 λB O s u b K=>?_;clear z2;have h2:=a94 (n:=n) (W:=W2) (r:=j.set t9 (.int (c:Nat))) S G ha J d ⟨O.keep,O.self,O.fnd,O.som,O.hf,O.hs⟩ s rfl ((X c).mp (c5p Y));refine h2 (λH3 z N=>Z _ _ ⟨B,z,s,u,b,λe x hx=>?_⟩) λH3 v z F3=>Z _ _ ⟨_,z,F3,u,?_,λe=>?_⟩
   ·rw [List.take_add_one,Y] at hx;rcases c6H hx with hx | hx
    ·exact K e x hx
    ·exact c6I hx▸N
   ·rw[c50];exact Nat.le_succ_of_le b
   ·rw [List.length_append] at e;have e:B.length+1=fs.length:=e;exact (c1w b e).elim
 ·have t:=c6j t;rw [a7n] at t;refine f9 (A4 (f6 E.fnd ?_));exact q _ U fs ep E.keep L F λc Y=>cl (by exact Int.not_lt.mp t) c ((X c).mpr Y)
variable {ks:List Nat}
structure OvM (ov:List Nat->Nat):Prop where
 mono:∀ ds es:List Nat,ds.length=es.length->(∀ (q d e:Nat),ds[q]?=some d->es[q]?=some e->d<=e)->ov ds<=ov es
 grow:∀ (ds:List Nat) (m:Nat),0 < m->ds.length<=2->(∀ d∈ds,d < m)->ov ds < 2 * m
theorem b9F:OvM szO where
 mono:=λB=>by
  induction B with
  | nil=>exact λJ _ _=>c5I (c5B _) 1
  | cons d B f =>
   intro J O h;cases J with
   | nil=>exact nomatch O
   | cons e J =>
    have U:=f J (Nat.succ.inj O) λq a b Y Z=>h (q+1) a b Y Z;have V:=h 0 d e rfl rfl;unfold szO at U ⊢;rw[c6z];rw[c6z];exact c5I (c6q V (Nat.le_of_add_le_add_left U)) 1
 grow:=λB m c O h=>by
  cases B with
  | nil=>show 1+0 < _;exact c6p 2 c
  | cons a B =>
  have:=h a (c5u);cases B with
  | nil=>show 1+(a+0) < _;exact c5G (Nat.add_lt_add_of_le_of_lt (c5v (c5B _) this) this) (c5K (Nat.two_mul _).symm)
  | cons b B =>
  have:=h b (c5t _ (c5u));cases B with
  | nil=>show 1+(a+(b+0)) < _;exact c2c ‹_› this
  | cons _ _=>exact c59 O (by simp)
theorem b6D:OvM R8 where
 mono:=λB a U h=>by
  have b:∀ d∈B,d<=mx a:=λd J=>by
   refine eE (List.getElem?_of_mem J) λq Y=>?_;have Z:=(c6C Y).1;rw [U] at Z;have O:=c5s Z;exact c5r (h q d _ Y O) (a46 (c5p O))
  exact c5I (a4b b) 1
 grow:=λB m V U h=>by
  have:mx B<=m - 1:=a4b λd J=>by have:=h d J;exact Nat.pred_le_pred this
  unfold R8;exact c5G (Nat.add_lt_add_of_le_of_lt V (c5v this (Nat.sub_lt V Nat.one_pos))) (c5K (Nat.two_mul _).symm)
noncomputable def a0Q (fs:List (Nat×Nat)) (ks:List Nat):List Nat:=ks.map λk=>(fs.lookup k).getD 0
noncomputable def b6s (fs:List (Nat×Nat)) (ks:List Nat):Prop:=∀ k∈ks,(fs.lookup k).isSome=true
noncomputable def b3p (fs:List (Nat×Nat)) (c v:Nat):Prop:=fs.lookup c=none\/∃ w,fs.lookup c=some w/\v < w
structure LI (st:St) (ov:List Nat->Nat) (a:Nat) (fs:List (Nat×Nat)):Prop where
 nd:(fs.map (·.1)).Nodup
 rch:∀ c∈fs.map (·.1),Rch st a c
 val:∀ c v,fs.lookup c=some v->Trm st ov v c/\v < 2 ^ fs.length
variable {ov:List Nat->Nat}{z:G7}
theorem LI.len (S:Sy lay C H lf st) (ha:a < st.up.length) (F:LI st ov a fs):fs.length<=17:=by
 have:=I6 F.nd λx q=>(S.rch ha (F.rch x q)).1;rw [List.length_map] at this;exact c5r this S.small
theorem LI.more (S:Sy lay C H lf st) (M:OvM ov) (F:LI st ov a fs) (n:Rch st a c) (hz:Nds st c z) (i:b6s fs z.2) (l:b3p fs c (ov (a0Q fs z.2))):LI st ov a (put fs c (ov (a0Q fs z.2))):=by
 have O:=a5F (fs:=fs) (k:=c) (v:=ov (a0Q fs z.2));have f:∀ k∈z.2,Trm st ov ((fs.lookup k).getD 0) k/\(fs.lookup k).getD 0 < 2 ^ fs.length:=λk U=>by
  refine eE (c6J (i k U)) λv e=>?_;rw[e];exact F.val k v e
 have j:ov (a0Q fs z.2) < 2 * 2 ^ fs.length:=M.grow _ _ (Nat.two_pow_pos _) (by unfold a0Q;rw[(c5q ..)];exact S.two hz) λd b=>by
  refine i9 (c6D b) λk U m=>?_;clear b;subst m;exact (f k U).2
 have g:Trm st ov (ov (a0Q fs z.2)) c:=.mk ⟨_,hz,rfl⟩ (c5q ..) λq d k b U=>by
  rw[(a3h b U)];exact (f k (c5p U)).1
 have J:=c5z List.length O;rw [List.length_map] at J;cases e:fs.lookup c with
 | none =>
  rw [if_neg (by rw[e];exact Bool.false_ne_true)] at O J
  have new:c∉fs.map (·.1):=λh=>by rw [P1,e] at h;cases h
  rw [List.length_append,List.length_map] at J;have J:(put fs c (ov (a0Q fs z.2))).length=fs.length+1:=J;refine ⟨by rw[O];exact U7 F.nd new,λx V=>?_,λx v B=>?_⟩
  ·rw [O] at V;exact (c6H V).elim (F.rch x) λh=>c6I h▸n
  ·rw [Q4] at B;rw[J];rw[(Nat.pow_succ ..)];rw[(Nat.mul_comm ..)];by_cases w:x=c
   ·rw [if_pos w] at B;obtain rfl:=c5A B;exact ⟨w▸g,j⟩
   ·rw [if_neg w] at B;exact eA (F.val x v B) λY Z=>⟨Y,by exact c5r Z (c5r (c6g _ _) (c5K (Nat.two_mul _).symm))⟩
 | some o =>
  rw [if_pos (by rw[e];rfl)] at O J
  rw [List.length_map] at J;refine ⟨by rw[O];exact F.nd,λx V=>F.rch x (by rwa [O] at V),λx v B=>?_⟩
  rw [Q4] at B;rw[J];by_cases w:x=c
  ·rw [if_pos w] at B;obtain rfl:=c5A B;rcases l with h | ⟨w,Y,Z⟩
   ·rw [e] at h;cases h
   ·exact ⟨by rw[(‹x=c›)];exact g,c6i Z (F.val c w Y).2⟩
  ·rw [if_neg w] at B;exact F.val x v B
noncomputable def St1 (ov:List Nat->Nat) (fs:List (Nat×Nat)) (c:Nat) (z:G7):Prop:=b6s fs z.2->∃ v,fs.lookup c=some v/\v<=ov (a0Q fs z.2)
structure PE (H0:Hp) (g fa sb:Nat) (ys:List Nat) (f:Nm) (a:Nat) (b:Bool) (fs:List (Nat×Nat)) (r:En) (H:Hp):Prop extends GE H0 g fa sb ys fs r H where
 ove:r a5c=some (.fn f)
 isn:r T6=some (.bool b)
 cc:r n_c=some (.int (a:Nat))
structure LE (H0:Hp) (g fa sb:Nat) (ys:List Nat) (f:Nm) (a c:Nat) (b:Bool) (fs:List (Nat×Nat)) (r:En) (H:Hp):Prop extends PE H0 g fa sb ys f a b fs r H where
 her:r t9=some (.int (c:Nat))
noncomputable def X6 (x:Nat) (H H':Hp):Prop:=∀ b o,b≠x->H b=some o->H' b=some o
theorem b7U {x f:Nm} {B:Lv} (h:r x=some (.fn f)) (q:B K r H λvs J=>K.call 0 f vs J Q):a3I x B K r H Q:=⟨f,h,q⟩
theorem b1l (B:r B2=some (s9 z)) (two:z.2.length<=2):a71 (w7 (a0f (d6 B2) (j7 (.int 1)))) K r H (iL z.2) :=
 a1p λR q=>a5D (f6 B (m3 (a1z (v:=.str z.1) (by rw[(n0 ..)];unfold n8;exact zo1 two) (q _ (.refl _)))))
theorem b07:(ks.flatMap λk=>if (fs.lookup k).isSome then [] else [iV k]).isEmpty=true↔b6s fs ks:=by
 refine D5 (List.isEmpty_iff ..) ?_;refine D5 (List.flatMap_eq_nil_iff ..) ?_;refine forall_congr' λk=>forall_congr' λ_=>?_;cases (fs.lookup k).isSome
 ·exact ⟨(λz=>nomatch z),(λz=>nomatch z)⟩
 ·exact ⟨λ_=>rfl,λ_=>rfl⟩
variable {l:List Nat}{H1:Hp}
theorem X6.of {x:Nat} {H q:Hp} (k:m4 H q):X6 x H q:=λb o _ h=>k b o h
theorem X6.put {x:Nat} {H q:Hp} (k:X6 x H q):X6 x H (q.set x o):=λb p e h=>(C8 e).trans (k b p e h)
theorem b0b {q s:Nat} {f:Nm} {b:Bool} (S:Sy lay C H lf st) (ha:a < st.up.length) (L:H q=none) (R:s≠q) (O:b3r f ov) (M:OvM ov) (E:LE H g q s ys f a c b fs r H1) (F:LI st ov a fs) (hn:r B2=some (s9 z)) (rc:Rch st a c) (hz:Nds st c z)
  (q1:∀ x V,LE H g q s ys f a c b fs x V->X6 q H1 V->St1 ov fs c z->W .next x V)
  (q2:∀ x V v,LE H g q s ys f a c true (put fs c v) x V->X6 q H1 V->LI st ov a (put fs c v)->b3p fs c v->W .next x V) :
  (d9 (G6 (o7 .eq (t8 (d6 m7) [m7] true (w7 (a0f (d6 B2) (j7 (.int 1)))) (A8 (o7 .notin (d6 m7) (d6 l6)) y9)) (G9 h9))
     (d9 (p7 (l5 M9) (a3I a5c (d7 (t8 (m9 (d6 l6) (d6 m7)) [m7] true (w7 (a0f (d6 B2) (j7 (.int 1)))) y9) h9)))
     (d9 (G6 (R4 (o7 .notin (d6 t9) (d6 l6)) (R4 (o7 .lt (d6 M9) (m9 (d6 l6) (d6 t9))) a5h))
      (d9 (p7 (K1 [(a0W (d6 l6) (d6 t9)),(l5 T6)]) (z0 (d7 (d6 M9) (d7 (j7 (.bool true)) h9))))
      j9)
      j9)
     j9))
     j9)
    j9) (j3 FT (n+1)) r H1 W:=by
 refine eE E.hf λD G=>?_;have U:=S.two hz;have u:∀ {v:f7},(r.set m7 v) l6=some (.ref q):=E.fnd;have le:∀ {X:Nat->List f7},(∀ k,(X k).length<=1)->(z.2.flatMap X).length<=n8:=λh=>c5r (a4u (m:=1) λk _=>h k) (by unfold n8;exact c5r (c5I U _) (c5o rfl))
 refine f9 (J7 (t0 (X5 (l:=z.2) (f:=iV) (g:=λk=>if (fs.lookup k).isSome then [] else [iV k]) (le λk=>by split <;> first | exact c5B _ | exact c5w _) (b1l hn U) (λk hk H' k' P p=>?_) λV d k2 hd=>a60 l0 λe he=>⟨λt=>?_,λt=>?_⟩)))
 ·have p:=p H' (.refl _);refine F6 (t0 (f6 rfl (f6 u (a08 (k' _ _ G) ⟨λt=>V1 ⟨λ_=>f6 rfl ?_,(λz=>nomatch z)⟩,λt=>⟨(λz=>nomatch z),λ_=>?_⟩⟩))))
  ·rwa [c57 (by intro z;rw [z] at t;cases t)] at p
  ·rwa [c58 (by cases z:(fs.lookup k).isSome <;> rw [z] at t <;> first | rfl | cases t)] at p
 ·have A:=b07.mp t;have i:=k2.trans ((m4.new (o:=.list (z.2.flatMap λk=>if (fs.lookup k).isSome then [] else [iV k])) hd).trans (.new (o:=.list []) he))
  refine f9 (t7 (b7U E.ove (d8 (X5 (l:=z.2) (f:=iV) (g:=λk=>[iV ((fs.lookup k).getD 0)]) (le λk=>c5w _) (b1l hn U) (λk hk T Q P p=>?_) λT d4 Q K=>i8 (O _ d4 (a0Q fs z.2) _ _ ?_ ?_ λH5 k5=>y0 ?_)))))
  ·refine eE (c6J (A k hk)) λv e=>G4 (B7 (f6 u (f6 rfl (a1W ((i.trans Q) _ _ G) e ?_))));have:=p T (.refl _);rwa [e] at this
  ·rw[l0];rw[(B1 ..)];unfold iL a0Q;rw[c55];rfl
  ·unfold a0Q;rw[(c5q ..)];exact c5r U (c6g _ _)
  ·have j:=i.trans (Q.trans ((m4.new (o:=.list (z.2.flatMap λk=>[iV ((fs.lookup k).getD 0)])) K).trans k5));generalize N:ov (a0Q fs z.2)=v;have J:=j _ _ G;have Y:(r.set M9 (.int (v:Nat))) l6=some (.ref q):=E.fnd;have Z:(r.set M9 (.int (v:Nat))) t9=some (.int (c:Nat)):=E.her;have E6:∀ {y:Hp},m4 H y->(∃ D,y q=some (.dict (dM iV fs) D))->y s=some (.list (iL ys))->LE H g q s ys f a c b fs (r.set M9 (.int (v:Nat))) y:=λk h1 h2=>⟨⟨⟨k,E.self,E.fnd,E.som,h1,h2⟩,E.ove,E.isn,E.cc⟩,E.her⟩
   have B:b3p fs c v->(d9 (p7 (K1 [(a0W (d6 l6) (d6 t9)),(l5 T6)]) (z0 (d7 (d6 M9) (d7 (j7 (.bool true)) h9)))) j9) (j3 FT (n+1)) (r.set M9 (.int (v:Nat))) H5 λfl r1 H1=>a2D fl (W .next r1 H1) λv=>W (.ret v) r1 H1:=λls=>by
    refine f9 (t7 (D2 (d8 (f6 rfl (d8 (m3 (i8 ⟨[iV v,.bool true],.inl rfl,rfl,_,_,rfl,a7R (f:=iV) (v:=v) (o9 Y) (o9 Z) J (c5r (F.len S ha) (by decide)) λI=>⟨_,_,rfl,?_⟩⟩)))))))
    refine ⟨rfl,?_⟩;exact q2 _ _ v ⟨⟨⟨(E.keep.trans j).put L,E.self,E.fnd,E.som,⟨I,l0⟩,(C8 R).trans (j _ _ E.hs)⟩,E.ove,rfl,E.cc⟩,E.her⟩ ((X6.of j).put) (N▸F.more S M rc hz A (N.symm▸ls)) ls
   refine f9 (J7 (V5 (t0 (f6 Z (f6 Y (a08 J ⟨λt=>⟨λ_=>?_,(λz=>nomatch z)⟩,λt=>?_⟩))))))
   ·refine B (.inl ?_);cases e:fs.lookup c with
    | none=>rfl
    | some _=>rw [e] at t;cases t
   ·obtain ⟨w,e⟩:∃ w,fs.lookup c=some w:=by
     cases e:fs.lookup c with
     | none=>rw [e] at t;cases t
     | some w=>exact ⟨w,rfl⟩
    refine V5 (t0 (f6 rfl (B7 (f6 Y (f6 Z (a1W J e (lt_int ⟨λt=>⟨λ_=>?_,(λz=>nomatch z)⟩,λt=>a31 ⟨(λz=>nomatch z),λ_=>?_⟩⟩)))))))
    ·exact B (.inr ⟨w,e,Int.ofNat_lt.mp (c5y t)⟩)
    ·refine q1 _ _ (E6 (E.keep.trans j) ⟨D,J⟩ (j _ _ E.hs)) (.of j) λ_=>⟨w,e,?_⟩;have:=c6j t;rw[N];exact Nat.le_of_not_lt λh=>this (c6P h)
 ·have i:=k2.trans ((m4.new (o:=.list (z.2.flatMap λk=>if (fs.lookup k).isSome then [] else [iV k])) hd).trans (.new (o:=.list []) he))
  refine q1 _ _ ⟨⟨⟨E.keep.trans i,E.self,E.fnd,E.som,⟨D,i _ _ G⟩,i _ _ E.hs⟩,E.ove,E.isn,E.cc⟩,E.her⟩ (.of i) λA=>?_;rw [b07.mpr A] at t;cases t
noncomputable def msr (ys:List Nat) (fs:List (Nat×Nat)):Nat:=(ys.map λc=>(fs.lookup c).getD (2 ^ 17)).sum
theorem b5L {f h:Nat->Nat} (le:∀ x,f x<=h x):(ys.map f).sum<=(ys.map h).sum/\∀ c∈ys,f c < h c->(ys.map f).sum < (ys.map h).sum:=by
 induction ys with
 | nil=>exact ⟨c5w _,λc hc=>nomatch hc⟩
 | cons y ys q =>
  rw[c6a];rw[c6a];rw[c6z];rw[c6z];have:=le y;refine ⟨c6q this q.1,λc hc B=>?_⟩;rcases c6K hc with rfl | hc
  ·exact Nat.add_lt_add_of_lt_of_le B q.1
  ·exact Nat.add_lt_add_of_le_of_lt this (q.2 c hc B)
theorem b66 {c v:Nat} (J:c∈ys) (U:b3p fs c v) (O:v < 2 ^ 17):msr ys (put fs c v) < msr ys fs:=by
 have q:v < (fs.lookup c).getD (2 ^ 17):=by
  rcases U with h | ⟨w,h,B⟩
  ·rw[h];exact O
  ·rw[h];exact B
 refine (b5L λx=>?_).2 c J ?_
 ·rw[Q4];by_cases e:x=c
  ·rw[(c58 e)];rw[e];exact c6f q
  ·rw[(c57 e)];exact c5w _
 ·rw[Q4];rw[(c58 rfl)];exact q
structure Pg (ys:List Nat) (f0 fs:List (Nat×Nat)) (b:Bool):Prop where
 same:b=false->fs=f0
 le:msr ys fs<=msr ys f0
 lt:b=true->msr ys fs < msr ys f0
theorem b9g {q:List (Nat×Nat)} {b:Bool} {v:Nat} (S:Sy lay C H lf st) (ha:a < st.up.length) (P:Pg ys q fs b) (F:LI st ov a (put fs c v)) (O:c∈ys) (U:b3p fs c v):Pg ys q (put fs c v) true:=by
 have J:=(F.val c v (by rw[Q4];rw[(c58 rfl)];rfl)).2
 have B:=c5G (b66 O U (c5G J (Nat.pow_le_pow_right (by decide) (F.len S ha)))) P.le
 exact ⟨(λh=>nomatch h),c6f B,λ_=>B⟩
theorem a8R {d t:Nat} {f:Nm} {b:Bool} {A:List (Nat×Nat)} (S:Sy lay C H lf st) (G:Gr lay H g) (ha:a < st.up.length) (K:H d=none) (R:t≠d) (O:b3r f ov) (M:OvM ov) (E:LE H g d t ys f a c b fs r H1) (F:LI st ov a fs) (P:Pg ys A fs b) (rc:Rch st a c) (hc:c∈ys)
  (q:∀ Z x V B,PE H g d t ys f a V B Z x->LI st ov a B->Pg ys A B V->(V=false->b=false/\∀ z,Nds st c z->St1 ov B c z)->W .next Z x) :
  (d9 (Q6 [B2] true (w7 (l4 (n7 (d6 f8) w5) a0n (d7 (d6 t9) h9)))
    (d9 (G6 (o7 .eq (t8 (d6 m7) [m7] true (w7 (a0f (d6 B2) (j7 (.int 1)))) (A8 (o7 .notin (d6 m7) (d6 l6)) y9)) (G9 h9))
     (d9 (p7 (l5 M9) (a3I a5c (d7 (t8 (m9 (d6 l6) (d6 m7)) [m7] true (w7 (a0f (d6 B2) (j7 (.int 1)))) y9) h9)))
     (d9 (G6 (R4 (o7 .notin (d6 t9) (d6 l6)) (R4 (o7 .lt (d6 M9) (m9 (d6 l6) (d6 t9))) a5h))
      (d9 (p7 (K1 [(a0W (d6 l6) (d6 t9)),(l5 T6)]) (z0 (d7 (d6 M9) (d7 (j7 (.bool true)) h9))))
      j9)
      j9)
     j9))
     j9)
    j9))
   j9) (j3 FT (n+5)) r H1 W:=by
 have D:=(S.rch ha rc).1;refine f9 (a2c (a1V (S.keep E.keep) rfl rfl (λ_ q=>a3N (G.keep E.keep) (o9 E.self) q) (d8 (f6 E.her (i8 (b4j (n:=n+1) (S.keep E.keep) D λx nb u k2 Y zl zm=>?_))))));have N:=k2.trans (m4.new (o:=.list (u.map s9)) Y);have nf:nb≠d:=λe=>by
  refine eE E.hf λX I=>?_;rw [e,k2 _ _ I] at Y;cases Y
 refine a7b (f:=s9) (ys:=u) (λi Z p=>∃ B V,LE H g d t ys f a c V B Z p/\LI st ov a B/\Pg ys A B V/\p nb=some (.list (u.map s9))/\(V=false->b=false/\∀ z∈u.take i,St1 ov B c z)) ?_ (λl=>by refine B0 l λ_ _ _ _ _ h _=>?_;clear l;exact h) (λZ p l=>?_) λi z Z p j z2 W2 k _=>?_
 ·exact eE E.hf λX I=>⟨fs,b,⟨⟨⟨E.keep.trans N,E.self,E.fnd,E.som,⟨X,N _ _ I⟩,N _ _ E.hs⟩,E.ove,E.isn,E.cc⟩,E.her⟩,F,P,l0,λh=>⟨h,λz j=>nomatch j⟩⟩
 ·refine B0 l λB V J m s _ U=>?_;clear l;refine q _ _ _ _ J.toPE m s λh=>⟨(U h).1,λz j=>(U h).2 z ?_⟩;rw[c6n];exact (zm z).mpr j
 ·refine B0 z2 λB V J m s n2 U=>?_;clear z2;have L:=(zm z).mp (c5p j);refine b0b (n:=n+4) S ha K R O M (r:=Z.set B2 (s9 z)) ⟨⟨⟨J.keep,J.self,J.fnd,J.som,J.hf,J.hs⟩,J.ove,J.isn,J.cc⟩,J.her⟩ m rfl rc L (λr3 H4 w Q s1=>k _ _ ⟨B,V,w,m,s,Q _ _ nf n2,λh=>⟨(U h).1,λy hy=>?_⟩⟩) λr3 H4 v w Q T ls=>k _ _ ⟨_,true,w,T,b9g S ha s T hc ls,Q _ _ nf n2,λh=>nomatch h⟩
  rw [List.take_add_one,j] at hy;rcases c6H hy with hy | hy
  ·exact (U h).2 y hy
  ·exact c6I hy▸s1
variable {mk:List Nat}
theorem Sy.nds (S:Sy lay C H lf st) (ha:a < st.up.length):Nds st (g8 st.up a) z↔Nds st a z:=by
 unfold Nds;rw[(S.idem ha)];rfl
theorem Sy.trm (S:Sy lay C H lf st) (ha:a < st.up.length) {v:Nat}:Trm st ov v (g8 st.up a)↔Trm st ov v a :=
 ⟨λJ=>by obtain ⟨⟨z,B,e⟩,q,h⟩:=J;exact .mk ⟨z,(S.nds ha).mp B,e⟩ q h,λO=>by obtain ⟨⟨z,B,e⟩,q,h⟩:=O;exact .mk ⟨z,(S.nds ha).mpr B,e⟩ q h⟩
theorem a2a {α β:Type} [Inhabited β] {l:List α} {P:α->β->Prop} (h:∀ k∈l,∃ v,P k v):∃ f:α->β,∀ k∈l,P k (f k):=by
 classical
 exact ⟨λk=>if h:∃ v,P k v then Classical.choose h else default,λk q=>by dsimp only;rw[(dif_pos (h k q))];exact Classical.choose_spec (h k q)⟩
theorem Sy.ex_trm (S:Sy lay C H lf st) (ov:List Nat->Nat):∀ a,a < st.up.length->∃ v,Trm st ov v a:=by
 intro a;induction a using Nat.strongRecOn with
 | ind a c =>
  intro J;have O:st.nd[a]?=some _:=c5s (by rw[S.I.eqn];exact J)
  generalize st.nd[a]'(by rw[S.I.eqn];exact J)=x at O
  have B:∀ k∈x.2,∃ v,Trm st ov v (g8 st.up k):=λk B=>by
   have U:=S.I.low a x O k B;exact eE (c k U (c6i U J)) λv b=>⟨v,(S.trm (c6i U J)).mpr b⟩
  refine eE (a2a B) λf Z=>⟨_,.mk (ds:=x.2.map f) ⟨_,⟨a,x,O,rfl,rfl⟩,rfl⟩ (by rw[(c5q ..)];exact (c5q ..).symm) λq d k V B=>?_⟩
  have B:(x.2.map (g8 st.up))[q]?=_:=B;rw [List.getElem?_map] at V B;refine i9 (c6G V) λy Y e=>?_;clear V;subst e;rw [Y] at B;obtain rfl:=c5A B;exact Z y (c5p Y)
theorem b2y (M:OvM ov) (i:∀ c,Rch st a c->∀ z,Nds st c z->St1 ov fs c z):∀ w c,Trm st ov w c->Rch st a c->∃ v,fs.lookup c=some v/\v<=w:=by
 intro w c h;induction h with
 | @mk c ks ds O hl _ ih =>
  revert O;intro b;refine i9 b λz O n=>?_;clear b;subst n;intro f;have J:∀ (q d k:Nat),ds[q]?=some d->z.2[q]?=some k->∃ v,fs.lookup k=some v/\v<=d:=λq d k B J=>ih q d k B J (.step f ⟨z,O,c5p J⟩);have g:b6s fs z.2:=λk m=>by
   refine eE (List.getElem?_of_mem m) λq Y=>?_;have Z:=(c6C Y).1;rw [<- hl] at Z;refine i9 (J q _ k (c5s Z) Y) λv e _=>?_;rw[e];rfl
  refine i9 (i c f z O g) λv e V=>⟨v,e,c5r V (M.mono _ _ (by unfold a0Q;rw[(c5q ..)];exact hl.symm) λq d e B l=>?_)⟩
  unfold a0Q at B;rw [List.getElem?_map] at B;refine i9 (c6G B) λk U o=>?_;clear B;subst o;refine i9 (J q e k l U) λv j V=>?_;rw[j];exact V
theorem b4e {f:Nm} (S:Sy lay C H lf st) (G:Gr lay H g) (ha:a < st.up.length) (O:b3r f ov) (M:OvM ov) (q:∀ H' v,m4 H H'->Trm st ov v a->(∀ w,Trm st ov w a->v<=w)->Q (.int (v:Nat)) H') :
  (j3 FT (n+7)).call w6 Q0 [.ref g,.int (a:Nat),.fn f] H Q:=by
 refine o8 rfl rfl (f9 (t7 (D2 (d8 (a30 λR U=>d8 (W9 (G.keep (.new U)) rfl rfl (o9 rfl) (d8 (f6 rfl (i8 (a4Y (n:=n) (S.keep (.new U)) (G.keep (.new U)) ha λD y xs k1 Z xn xm=>d8 (m3 (i8 (b1q (.inl rfl) ?_)))))))))))));refine i9 (a5w xs) λys e p=>?_;rw[e];have ym:∀ c,c∈ys↔Rch st a c:=λc=>p.mem_iff.trans (xm c);have k2:=(m4.new (o:=.dict [] 0) U).trans (k1.trans (.new (o:=.list (iL ys)) Z))
 have m:y≠R:=λe=>by rw [e,k1 _ _ l0] at Z;cases Z
 refine f9 (a5t (λk r1 D=>∃ (V:List (Nat×Nat)) (b:Bool),PE H g R y ys f a b V r1 D/\LI st ov a V/\(b=false->∀ c∈ys,∀ z,Nds st c z->St1 ov V c z)/\k=2 * msr ys V+b.toNat) _
  ⟨[],true,⟨⟨k2,rfl,rfl,rfl,⟨0,(C8 λe=>m e.symm).trans (k1 _ _ l0)⟩,l0⟩,rfl,rfl,rfl⟩,⟨c6r,(λ_ h=>nomatch h),(λ_ _ h=>nomatch h)⟩,(λh=>nomatch h),rfl⟩ λk r1 D hI W hW=>?_)
 refine G2 hI λV b E F P q3=>?_;clear hI;subst q3;refine a2W (f6 E.isn ⟨b,rfl,λt=>?_,λt=>?_⟩)
 ·clear P;subst t;refine f9 (t7 (m3 (y0 ?_)));refine f9 (a2c (f6 (show (r1.set T6 (.bool false)) a1w=some (.ref y) from E.som) (a7b (f:=iV) (ys:=ys) (λi u K=>∃ B Y,PE H g R y ys f a Y B u K/\LI st ov a B/\Pg ys V B Y/\(Y=false->∀ c∈ys.take i,∀ z,Nds st c z->St1 ov B c z)) ⟨V,false,⟨⟨E.keep,E.self,E.fnd,E.som,E.hf,E.hs⟩,E.ove,rfl,E.cc⟩,F,⟨λ_=>rfl,c5w _,(λh=>nomatch h)⟩,λ_ c h=>nomatch h⟩ (λz3=>by refine u6 z3 λ_ _ E _=>?_;clear z3;exact E.hs) (λu K z1=>?_) λi c u K d z2 W2 X _=>?_)))
  ·refine G2 z1 λB Y J A j N=>?_;clear z1;refine hW _ _ _ ?_ ⟨B,Y,J,A,λh c d=>N h c (by rw[c6n];exact d),rfl⟩
   cases Y with
   | false=>have:=j.le;show 2 * _+0 < 2 * _+1;exact c51 (c6p 2 this)
   | true=>have:=j.lt rfl;show 2 * _+1 < 2 * _+1;exact Nat.succ_lt_succ (Nat.mul_lt_mul_of_pos_left this (c5o rfl))
  ·refine G2 z2 λB Y J A j N=>?_;clear z2;have l:=c5p d;refine a8R (n:=n+1) (r:=u.set t9 (.int (c:Nat))) S G ha U m O M ⟨⟨⟨J.keep,J.self,J.fnd,J.som,J.hf,J.hs⟩,J.ove,J.isn,J.cc⟩,rfl⟩ A j ((ym c).mp l) l λr3 H3 b3 T E3 F3 P3 s3=>X _ _ ⟨T,b3,E3,F3,P3,λh x hx=>?_⟩;refine eA (s3 h) λh2 s3=>?_;rw [List.take_add_one,d] at hx;rcases c6H hx with hx | hx
   ·rw[(P3.same h)];refine u7 (j.same h2) ?_;exact N h2 x hx
   ·exact c6I hx▸s3
 ·have P:∀ c,Rch st a c->∀ z,Nds st c z->St1 ov V c z:=λc d=>P t c ((ym c).mpr d);have low:=b2y M P;refine eE (S.ex_trm ov a ha) λw hw=>i9 (low w _ ((S.trm ha).mpr hw) .base) λv hv _=>eE E.hf λep hf=>?_;have s:=S.keep E.keep;refine f9 (A4 (B7 (f6 E.fnd (a1V s rfl rfl (λ_ q=>a3N (G.keep E.keep) (o9 E.self) q) (d8 (f6 E.cc (i8 (a40 s.L s.E s.I.toOk ha (a1W hf hv ?_)))))))))
  exact q _ v E.keep ((S.trm ha).mp (F.val _ v hv).1) λw hw=>by
   refine i9 (low w _ ((S.trm ha).mpr hw) .base) λv' e le=>?_;rw [hv] at e;obtain rfl:=c5A e;exact le
structure Fnd (st:St) (a:Nat) (fs:List (Nat×Nat)):Prop extends FI st a fs where
 cl:∀ c,Rch st a c->Off st fs c
noncomputable def a6L (st:St) (ov:List Nat->Nat) (a v:Nat):Prop:=Trm st ov v a/\∀ w,Trm st ov w a->v<=w
theorem b4b (S:Sy lay C H lf st) (G:Gr lay H g) (ha:a < st.up.length) (q:∀ B fs,m4 H B->Fnd st a fs->Q (.bool (!(fs.lookup (g8 st.up a)).isSome)) B):(j3 FT (n+8)).call w6 Y6 [.ref g,.int (a:Nat)] H Q:=by
 refine o8 rfl rfl (f9 (A4 (a0Z (t0 (a1V S rfl rfl (λ_ q=>a3N G (o9 rfl) q) (d8 (f6 rfl (i8 (a40 S.L S.E S.I.toOk ha (W9 G rfl rfl (o9 rfl) (d8 (f6 rfl (i8 (b4c (n:=n) S G ha λB V fs U k O F J=>a08 O ?_))))))))))))));exact q B fs k ⟨F,J⟩
theorem c0J (S:Sy lay C H lf st) (G:Gr lay H g) (ha:a < st.up.length) (q:∀ B v,m4 H B->a6L st szO a v->Q (.int (v:Nat)) B):(j3 FT (n+8)).call w6 Y8 [.ref g,.int (a:Nat)] H Q:=by
 refine o8 rfl rfl (f9 (A4 (W9 G rfl rfl (o9 rfl) (d8 (f6 rfl (d8 (m3 (i8 (b4e (n:=n) S G ha b7E b9F λB v k J O=>?_)))))))));exact q B v k ⟨J,O⟩
theorem b4d (S:Sy lay C H lf st) (G:Gr lay H g) (ha:a < st.up.length) (q:∀ O v fs,m4 H O->a6L st R8 a v->Fnd st a fs->Q (.tup [.int (v:Nat),((fs.lookup (g8 st.up a)).map iV).getD (.int (-1))]) O):(j3 FT (n+8)).call w6 a2s [.ref g,.int (a:Nat)] H Q:=by
 refine o8 rfl rfl (f9 (A4 (D2 (d8 (W9 G rfl rfl (o9 rfl) (d8 (f6 rfl (d8 (m3 (i8 (b4e (n:=n) S G ha a8k b6D λe v J b c=>d8 (b94 (W9 (G.keep J) rfl rfl (o9 rfl) (d8 (f6 rfl (i8 (b4c (n:=n) (S.keep J) (G.keep J) ha λV Z fs f d U F Y=>⟨.dct .get,⟨⟨Z,_,_,rfl,U⟩,rfl⟩,?_⟩)))))))))))))))));have k:=J.trans d;have B:=S.keep k;refine d8 (a1V B rfl rfl (λ_ q=>a3N (G.keep k) (o9 rfl) q) (d8 (f6 rfl (i8 (a40 B.L B.E B.I.toOk ha (d8 (a9z (m3 ⟨1,rfl,i8 (b8I U (b1v _) ?_)⟩))))))))
 rw[a22];exact q V v fs k ⟨b,c⟩ ⟨F,Y⟩
end
variable {mk:List Nat}
noncomputable def o5 (mk:List Nat) (i:Nat):Nat:=mk.getD i i
structure Mks (nd:List G7) (lf:List (Nat×Nat)) (mk:List Nat):Prop where
 len:mk.length=nd.length
 lt:∀ i,i < nd.length->o5 mk i < nd.length
 sound:∀ E,a2P nd lf E->∀ i,E i (o5 mk i)
noncomputable def a14 (mk:List Nat) (a b:Nat):List Nat:=mk.map λm=>if m=o5 mk b then o5 mk a else m
noncomputable def a13 (mk:List Nat) (x:G7):G7:=(x.1,x.2.map (o5 mk))
noncomputable def dc (n:Nat) (mk:List Nat):Nat:=((List.range n).map λv=>if v∈mk then 1 else 0).sum
variable {nd:List G7}{b:Nat}
theorem Y3 (h:i < mk.length):mk[i]?=some (o5 mk i):=by
 unfold o5;rw[c5H];rw[(c5s h)];rfl
theorem b1r (h:¬ i < mk.length):o5 mk i=i:=by
 unfold o5;rw[c5H];rw[(c5T (zo7 h))];rfl
theorem a86 (i:Nat) (h:i < mk.length):o5 (a14 mk a b) i=if o5 mk i=o5 mk b then o5 mk a else o5 mk i:=by
 have e:=Y3 h;have:(a14 mk a b)[i]?=some (if o5 mk i=o5 mk b then o5 mk a else o5 mk i):=by
  unfold a14;rw[c5x];rw[e];rfl
 rewrite [o5];rw[c5H];rw[this];rfl
theorem a3S:(a14 mk a b).length=mk.length:=c5q ..
theorem b4U (M:Mks nd lf mk) (ha:a < nd.length) (O:b < nd.length) (why:∀ E,a2P nd lf E->E a b):Mks nd lf (a14 mk a b):=by
 refine ⟨a3S.trans M.len,λi J=>?_,λE q i=>?_⟩
 ·refine b9 (a86 i (by rw[M.len];exact J)) ?_
  split
  ·exact M.lt a ha
  ·exact M.lt i J
 ·by_cases h:i < mk.length
  ·rw[(a86 i h)];have B:=M.sound E q i
   split
   ·rename_i z;rw [z] at B;exact q.trans _ _ _ B (q.trans _ _ _ (q.symm _ _ (M.sound E q b)) (q.trans _ _ _ (q.symm _ _ (why E q)) (M.sound E q a)))
   ·exact B
  ·refine b9 (b1r (by rw[a3S];exact h)) ?_;exact q.refl i
theorem b05 (M:Mks nd lf mk) (ha:a < nd.length) (q:b < nd.length) (U:o5 mk a≠o5 mk b):dc nd.length (a14 mk a b) < dc nd.length mk:=by
 have B:∀ v,v∈a14 mk a b->v∈mk/\v≠o5 mk b:=λv O=>by
  refine i9 (c6D O) λm J V=>?_;clear O;subst V
  split
  ·exact ⟨c5p (Y3 (by rw[M.len];exact ha)),U⟩
  ·rename_i z;exact ⟨J,z⟩
 refine (b5L λv=>?_).2 (o5 mk b) (c6N (M.lt b q)) ?_
 ·by_cases h:v∈a14 mk a b
  ·rw[(c58 h)];rw[(c58 (B v h).1)];exact c5w _
  ·rw[(c57 h)];exact c5B _
 ·rw[(c57 λh=>(B _ h).2 rfl)];refine b9 (c58 (c5p (Y3 (by rw[M.len];exact q)))) ?_;exact Nat.zero_lt_one
structure a4D (nd:List G7) (lf:List (Nat×Nat)) (mk:List Nat):Prop where
 tie:∀ p∈lf,o5 mk p.1=o5 mk p.2
 node:∀ (i j:Nat) (x y:G7),nd[i]?=some x->nd[j]?=some y->x.1=y.1->x.2.map (o5 mk)=y.2.map (o5 mk)->o5 mk i=o5 mk j
theorem a4D.cong (f:a4D nd lf mk):a2P nd lf λa b=>o5 mk a=o5 mk b :=
 ⟨λ_=>rfl,λ_ _ e=>e.symm,λ_ _ _ e U=>e.trans U,f.tie,λi j x y Z c V O Y=>f.node i j x y Z c V (List.ext_getElem? λq=>by
  rw[c5x];rw[c5x];by_cases h:q < x.2.length
  ·have B:=c5s h;have J:=c5s (O▸h:q < y.2.length);rw[B];rw[J];exact c5z some (Y q _ _ B J)
  ·rw[(c5T (zo7 h))];rw[(c5T (by exact Nat.not_lt.mp (O▸h)))];rfl)⟩
variable {l:List Nat}
theorem a58 (I:I7 lf st) (D:a1F st) (w:st.wt=[]):a2P st.nd lf λa b=>g8 st.up a=g8 st.up b :=
 ⟨λ_=>rfl,λ_ _ e=>e.symm,λ_ _ _ e Z=>e.trans Z,I.told,λi j x y d f J B c=>by
  have e:x8 st.up x=x8 st.up y:=by
   unfold x8;rw[J]
   congr 1
   refine List.ext_getElem? λq=>?_;rw[c5x];rw[c5x];by_cases h:q < x.2.length
   ·have V:=c5s h;have Y:=c5s (B▸h:q < y.2.length);rw[V];rw[Y];exact c5z some (c q _ _ V Y)
   ·rw[(c5T (zo7 h))];rw[(c5T (by exact Nat.not_lt.mp (B▸h)))];rfl
  have get:∀ (i:Nat) (x:G7),st.nd[i]?=some x->∃ p,G3 st.kn (x8 st.up x)=some p/\g8 st.up p=g8 st.up i:=λi x g=>by
   rcases D i x g with h | ⟨p,J,B⟩
   ·rw [w] at h;cases h
   ·exact ⟨p,J,B.resolve_right λh=>h⟩
  refine i9 (get i x d) λp O k=>i9 (get j y f) λq U l=>?_;rw [e,U] at O;have U:=B8 O;clear O;subst U;exact k.symm.trans l⟩
theorem b0f (I:I7 lf st) (D:a1F st) (w:st.wt=[]) (M:Mks st.nd lf mk) (f:a4D st.nd lf mk) {i j:Nat} (q:i < st.up.length) (B:j < st.up.length):o5 mk i=o5 mk j↔g8 st.up i=g8 st.up j:=by
 have r:∀ i,g8 st.up i=g8 st.up (o5 mk i):=M.sound _ (a58 I D w);exact ⟨λe=>(r i).trans (e▸(r j).symm),λe=>I.sound _ f.cong i j q B e⟩
theorem c3Q {q:List G7} {J:List (Nat×Nat)}:Mks q J (List.range q.length):=by
 have e:∀ i,o5 (List.range q.length) i=i:=λi=>by
  by_cases h:i < q.length
  ·unfold o5;rw[c5H];refine b9 (List.getElem?_range h) ?_;rfl
  ·exact b1r (by rw[c6b];exact h)
 exact ⟨c6b,λi B=>by rw[(e ..)];exact B,λE c i=>by rw[(e ..)];exact c.refl i⟩
variable {R:Src->Hp->Prop}
theorem c0L (h:i < mk.length):(iL mk)[i]?=some (.int (o5 mk i:Nat)):=b1c (Y3 h)
theorem a1P (O:r l9=some (.ref a)) (ha:H a=some (.list (iL mk))) (J:mk.length<=17) (U:r x=some (.int (i:Nat))) (B:i < mk.length) (q:Q (.int (o5 mk i:Nat)) H):m9 (d6 l9) (d6 x) K r H Q :=
 B7 (f6 O (f6 U (I4 ha (by rw[(n0 ..)];exact y7 J) (c0L B) q)))
theorem b7X {a:Ev} (h:a K r H λv q=>∃ n:Int,v=.int n/\-n8<=n/\n<=n8/\alloc (.list (C7 0 n)) q Q):a6Y a K r H Q:=h
theorem b92 (J:r x=some (.ref a)) (h:H a=some (.list xs)) (q:R (.enum a) H):(b1b (d6 x)).iv K r H R:=f6 (K:=K) (Q:=λv B=>itE v B R) J ⟨a,xs,rfl,h,q⟩
noncomputable def a1d (p:Nat×Nat):f7:=.tup [.int (p.1:Nat),.int (p.2:Nat)]
theorem a00 {x y:Nm} {v w:f7}:a0F [x,y] false (.tup [v,w]) r ((r.set x v).set y w):=.inr ⟨rfl,[v,w],rfl,rfl,rfl⟩
theorem b7k {x:G7} (j:r l9=some (.ref a)) (ha:H a=some (.list (iL mk))) (h:mk.length<=17) (U:r a0K=some (s9 x)) (two:x.2.length<=2) (d:∀ k∈x.2,k < mk.length) (q:∀ B,m4 H B->Q (s9 (a13 mk x)) B) :
  A6 .add (z0 (d7 (m9 (d6 a0K) (j7 (.int 0))) h9)) (O3 .tuple (d7 (t8 (m9 (d6 l9) (d6 m7)) [m7] true (w7 (a0f (d6 a0K) (j7 (.int 1)))) y9) h9)) K r H Q:=by
 have e:(x.2.flatMap λk=>[iV (o5 mk k)])=iL (x.2.map (o5 mk)):=by rw[(B1 ..)];unfold iL;rw[c55];rfl
 have O:(iL (x.2.map (o5 mk))).length<=2:=by rw[(n0 ..)];rw[(c5q ..)];exact two
 refine C5 (D2 (d8 (B7 (f6 U (m3 (a7h (i:=0) (x:=.str x.1) ?_ rfl (i8 (M0 (d8 (X5 (l:=x.2) (f:=iV) (g:=λk=>[iV (o5 mk k)]) (by rw[e];unfold n8;exact zo0 O) (a1p λR Y=>a5D (f6 U (m3 (a1z (v:=.str x.1) (by rw[(n0 ..)];unfold n8;exact zo1 two) (Y H (.refl _)))))) (λi b B k P V=>?_) λB c k Z=>i8 (a5A l0 ?_ (a4G ?_ ?_))))))))))))
 ·show (iL x.2).length+1<=_;rw[(n0 ..)];unfold n8;exact zo1 two
 ·have J:(r.set m7 (.int (i:Nat))) l9=some (.ref a):=j;exact G4 (a1P (x:=m7) J (k _ _ ha) h rfl (d i b) (V B (.refl _)))
 ·rw[e];unfold n8;exact zo0 O
 ·rw[e];show 1+_<=_;unfold n8;exact zo8 O
 ·rw[e];exact q _ (k.trans (.new Z))
structure Due (nd:List G7) (lf:List (Nat×Nat)) (mk:List Nat) (i:Nat) (sn:List (G7×Nat)) (ds:List (Nat×Nat)):Prop where
 tie:∀ p∈lf,p∈ds
 why:∀ p∈ds,(p.1 < nd.length/\p.2 < nd.length)/\∀ E,a2P nd lf E->E p.1 p.2
 row:∀ (j:Nat) (x:G7),j < i->nd[j]?=some x->∃ p,G3 sn (a13 mk x)=some p/\(p,j)∈ds
 fst:∀ q∈sn,∃ y,nd[q.2]?=some y/\a13 mk y=q.1
 sl:sn.length<=i
 dl:ds.length<=lf.length+i
variable {x:G7}{sn:List (G7×Nat)}{ds:List (Nat×Nat)}
theorem Due.more (D:Due nd lf mk i sn ds) (M:Mks nd lf mk) (U:nd[i]?=some x) {B:List (G7×Nat)} (more:∀ k q,G3 sn k=some q->G3 B k=some q) (O:G3 B (a13 mk x)=some p) (fst:∀ q∈B,∃ y,nd[q.2]?=some y/\a13 mk y=q.1) (sl:B.length<=i+1):Due nd lf mk (i+1) B (ds++[(p,i)]) where
 tie:=λt ht=>c5D _ (D.tie t ht)
 why:=λt ht=>by
  rcases c6H ht with ht | ht
  ·exact D.why t ht
  ·rw[(c6I ht)];refine i9 (fst _ (a2n O)) λy J e=>?_;have e:(y.1,y.2.map (o5 mk))=(x.1,x.2.map (o5 mk)):=e;refine ⟨⟨(c6C J).1,(c6C U).1⟩,λE c=>?_⟩;have Z:y.1=x.1:=(Prod.mk.inj e).1;have V:y.2.map (o5 mk)=x.2.map (o5 mk):=(Prod.mk.inj e).2;refine c.node p i y x J U Z (by have:=c5z List.length V;rwa [c5q,c5q] at this) λq a b g h=>?_
   have Y:=c5z (·[q]?) V;rw [List.getElem?_map,List.getElem?_map,g,h] at Y;exact c.trans _ _ _ (M.sound E c a) ((c5A Y:o5 mk a=o5 mk b)▸c.symm _ _ (M.sound E c b))
 row:=λj y l J=>by
  by_cases z:j=i
  ·clear l sl D;subst z;rw [U] at J;obtain rfl:=c5A J;exact ⟨p,O,c5E _ (c6M rfl)⟩
  ·exact i9 (D.row j y (c29 l z) J) λq d f=>⟨q,more _ _ d,c5D _ f⟩
 fst:=fst
 sl:=sl
 dl:=by rw[c50];exact c6x D.dl
theorem Due.fixed (D:Due nd lf mk nd.length sn ds) (h:∀ p∈ds,o5 mk p.1=o5 mk p.2):a4D nd lf mk :=
 ⟨λp Y=>h p (D.tie p Y),λi j x y B J U V=>by
  refine i9 (D.row i x (c6C B).1 B) λp O Z=>i9 (D.row j y (c6C J).1 J) λq a b=>?_;rw [show a13 mk x=a13 mk y by unfold a13;rw[U];rw[V];rfl,a] at O
  obtain rfl:=c5A O;exact (h _ Z).symm.trans (h _ b)⟩
variable {x:Nm}{L:List (Nat×List Nat)}{H1:Hp}{ar at_ fa da:Nat}
structure MV (ar at_ a:Nat) (b:Bool) (r:En):Prop where
 rows:r t6=some (.ref ar)
 pairs:r B3=some (.ref at_)
 mks:r l9=some (.ref a)
 goes:r M3=some (.bool b)
noncomputable def b8F (nd:List G7) (lf:List (Nat×Nat)) (mk:List Nat) (H:Hp) (ar at_ a fa da i:Nat) (r1:En) (H1:Hp):Prop :=
 ∃ sn ds ep,m4 H H1/\MV ar at_ a false r1/\r1 W3=some (.ref fa)/\r1 U2=some (.ref da)/\H1 fa=some (.dict (knV sn) ep)/\H1 da=some (.list (ds.map a1d))/\Due nd lf mk i sn ds
theorem b5m {x:G7} (I:b8F nd lf mk H ar at_ a fa da i r H1) (n:H fa=none) (Z:H da=none) (u:fa≠da) (ha:H a=some (.list (iL mk))) (M:Mks nd lf mk) (o:nd.length<=17) (S:lf.length<=20) (two:∀ x∈nd,x.2.length<=2) (kid:∀ x∈nd,∀ k∈x.2,k < nd.length) (c:nd[i]?=some x)
  (y:∀ C H1,b8F nd lf mk H ar at_ a fa da (i+1) C H1->W .next C H1) :
  (d9 (p7 (l5 a17) (A6 .add (z0 (d7 (m9 (d6 a0K) (j7 (.int 0))) h9)) (O3 .tuple (d7 (t8 (m9 (d6 l9) (d6 m7)) [m7] true (w7 (a0f (d6 a0K) (j7 (.int 1)))) y9) h9))))
   (d9 (y8 (l4 (d6 U2) v6 (d7 (z0 (d7 (l4 (d6 W3) K4 (d7 (d6 a17) (d7 (d6 U1) h9))) (d7 (d6 U1) h9))) h9)))
   j9)) K ((r.set U1 (.int (i:Nat))).set a0K (s9 x)) H1 W:=by
 obtain ⟨E,V,w,k,f,N,L,G,F,D⟩:=I;have d:=c5p c;have z:=(c6C c).1;have b:((r.set U1 (.int (i:Nat))).set a0K (s9 x)) l9=some (.ref a):=f.mks;refine f9 (t7 (b7k b (k _ _ ha) (by rw[M.len];exact o) rfl (two x d) (by rw[M.len];exact kid x d) λT t=>y0 ?_))
 generalize Y:((r.set U1 (.int (i:Nat))).set a0K (s9 x)).set a17 (s9 (a13 mk x))=j;have g:MV ar at_ a false j:=Y▸⟨f.rows,f.pairs,f.mks,f.goes⟩;have O:j W3=some (.ref fa):=Y▸N;have J:j U2=some (.ref da):=Y▸L;have P:j a17=some (s9 (a13 mk x)):=Y▸rfl;have s:j U1=some (.int (i:Nat)):=Y▸rfl;clear Y b;have m:=t _ _ G;have l:=t _ _ F;have A:=k.trans t;have B:(V.map a1d).length<=n8:=by rw[(c5q ..)];have:=D.dl;unfold n8;exact c5r this (c5r (c6q S (c6f (c5G z o))) (c5o rfl))
 refine f9 (F0 (I5 (o9 J) l (d8 (D2 (d8 (b4T (o9 O) m (d8 (f6 P (d8 (f6 s (i8 (b3u m (a6l _) (by unfold knV;rw[(c5q ..)];have:=D.sl;unfold n8;exact c5r this (c5r (c6f (c5G z o)) (c5o rfl))) (λv U=>d8 (f6 s (i8 (i8 (G1 l B ?_))))) λU=>d8 (f6 s (i8 (i8 (G1 (ys:=V.map a1d) ?_ B ?_))))))))))))))))
 ·rw [a2l] at U;refine i9 (c6G U) λp Q R=>?_;clear U;subst R;refine b9 (show V.map a1d++[.tup [.int (p:Nat),.int (i:Nat)]]=(V++[(p,i)]).map a1d by rw[c54];rfl) ?_
  exact y _ _ ⟨E,_,w,A.put Z,g,O,J,(C8 u).trans m,l0,D.more M c (λ_ _ h=>h) Q D.fst (Nat.le_succ_of_le D.sl)⟩
 ·exact (C8 λe=>u e.symm).trans l
 ·rw [a2l] at U;have U:=Option.map_eq_none_iff.mp U;refine b9 (show V.map a1d++[.tup [.int (i:Nat),.int (i:Nat)]]=(V++[(i,i)]).map a1d by rw[c54];rfl) ?_
  refine y _ _ ⟨E++[(a13 mk x,i)],_,w+1,(A.put n).put Z,g,O,J,?_,l0,D.more M c (λ_ _ h=>a45 h) (a6k U) (λq hq=>?_) ?_⟩
  ·rw[(C8 u)];rw[l0];unfold knV;rw[c54];rfl
  ·rcases c6H hq with hq | hq
   ·exact D.fst q hq
   ·obtain rfl:=c6I hq;exact ⟨x,c,rfl⟩
  ·rw[c50];exact c6x D.sl
theorem b2D {o p:Nat} {b:Bool} {Q:A2} (v:MV ar at_ a b r) (ha:H a=some (.list (iL mk))) (B:mk.length<=17) (Z:r n_a=some (.int (o:Nat))) (d:r n_b=some (.int (p:Nat))) (h:o < mk.length) (i:p < mk.length)
  (w:o5 mk o=o5 mk p->Q .next r H) (x:o5 mk o≠o5 mk p->∀ j q Y,m4 H q->MV ar at_ Y true j->q Y=some (.list (iL (a14 mk o p)))->Q .next j q) :
  (d9 (G6 (o7 .ne (m9 (d6 l9) (d6 n_a)) (m9 (d6 l9) (d6 n_b)))
    (d9 (p7 (l5 a1v) (m9 (d6 l9) (d6 n_b)))
    (d9 (p7 (l5 l9) (t8 (a3L (o7 .eq (d6 w3) (d6 a1v)) (m9 (d6 l9) (d6 n_a)) (d6 w3)) [w3] true (w7 (d6 l9)) y9))
    (d9 (p7 (l5 M3) (j7 (.bool true)))
    j9)))
    j9)
   j9) K r H Q:=by
 refine f9 (J7 (t0 (a1P v.mks ha B Z h (a1P v.mks ha B d i (b0k ⟨λt=>?_,λt=>?_⟩)))))
 ·have u:o5 mk o≠o5 mk p:=λe=>by rw [e,decide_eq_true rfl] at t;cases t
  refine f9 (t7 (a1P v.mks ha B d i (y0 ?_)));have O:(r.set a1v (.int (o5 mk p:Nat))) l9=some (.ref a):=v.mks;have e:(mk.flatMap λm=>[iV (if m=o5 mk p then o5 mk o else m)])=iL (a14 mk o p):=by rw[(B1 ..)];unfold iL a14;rw[c55];rfl
  refine f9 (t7 (X5 (l:=mk) (f:=iV) (g:=λm=>[iV (if m=o5 mk p then o5 mk o else m)]) (by rw[e];rw[(n0 ..)];rw[a3S];exact y7 B) (b4p λR n=>f6 O (n a H (.refl _) ha)) (λm y q k P J=>?_) λq c k s=>y0 ?_))
  ·have J:=J q (.refl _);have U:((r.set a1v (.int (o5 mk p:Nat))).set w3 (iV m)) l9=some (.ref a):=v.mks;have V:((r.set a1v (.int (o5 mk p:Nat))).set w3 (iV m)) n_a=some (.int (o:Nat)):=Z;refine G4 (a9y (t0 (f6 rfl (f6 rfl (a1S ⟨λt=>a1P U (k _ _ ha) B V h ?_,λt=>f6 rfl ?_⟩)))))
   ·rwa [c58 (Int.ofNat.inj (c5y t))] at J
   ·rwa [c57 λe=>c6j t (by rw[e];rfl)] at J
  ·rw[e];refine f9 (t7 (m3 (y0 ?_)));exact x u _ _ c (k.trans (.new s)) ⟨v.rows,v.pairs,rfl,rfl⟩ l0
 ·refine w ?_;cases e:decide ((o5 mk o:Int)=(o5 mk p:Int)) with
  | true=>exact Int.ofNat.inj (c5y e)
  | false=>rw [e] at t;cases t
variable {p:Nat->Bool}
theorem b61 (h:H a=some (.list xs)) (B:xs.length<=n8) (q:∀ b,H b=none->Q (.ref b) (H.set b (.list xs))):biW .list [.ref a] H Q:=⟨a,xs,rfl,h,B,q⟩
noncomputable def a9g (nd:List G7):List f7:=nd.zipIdx.map λp=>.tup [.int (p.2:Nat),s9 p.1]
theorem a9h {q:List G7} (i:Nat):(a9g q)[i]?=q[i]?.map λx=>.tup [.int (i:Nat),s9 x]:=by
 unfold a9g;rw[c5x];refine b9 List.getElem?_zipIdx ?_;rw[(Option.map_map ..)];cases q[i]? with
 | none=>rfl
 | some x=>show some (f7.tup [.int ((0+i:Nat):Int),s9 x])=_;rw[(Nat.zero_add ..)];rfl
theorem b2X {q:List G7}:(a9g q).length=q.length:=by unfold a9g;rw[(c5q ..)];rw[List.length_zipIdx];rfl
section
variable {n:Nat}
theorem c0Z {L:Hp} (y:L ar=some (.list (nd.map s9))) (a0:L at_=some (.list (lf.map a1d))) (hl:nd.length<=17) (two:∀ x∈nd,x.2.length<=2) (kid:∀ x∈nd,∀ k∈x.2,k < nd.length) (tl:lf.length<=20) (tlt:∀ p∈lf,p.1 < nd.length/\p.2 < nd.length)
  (P:m4 L H) (v:MV ar at_ a true r) (ha:H a=some (.list (iL mk))) (M:Mks nd lf mk)
  (hW:∀ F f a1 U T,m4 L f->MV ar at_ a1 T F->f a1=some (.list (iL U))->Mks nd lf U->(T=false->a4D nd lf U)->dc nd.length U<=dc nd.length mk->(T=true->dc nd.length U < dc nd.length mk)->W .next F f) :
  (d9 (p7 (l5 M3) (j7 (.bool false)))
  (d9 (p7 (K1 [(l5 W3),(l5 U2)]) (z0 (d7 a0e (d7 (O3 .list (d7 (d6 B3) h9)) h9))))
  (d9 (Q6 [U1,a0K] false (b1b (d6 t6))
   (d9 (p7 (l5 a17) (A6 .add (z0 (d7 (m9 (d6 a0K) (j7 (.int 0))) h9)) (O3 .tuple (d7 (t8 (m9 (d6 l9) (d6 m7)) [m7] true (w7 (a0f (d6 a0K) (j7 (.int 1)))) y9) h9))))
   (d9 (y8 (l4 (d6 U2) v6 (d7 (z0 (d7 (l4 (d6 W3) K4 (d7 (d6 a17) (d7 (d6 U1) h9))) (d7 (d6 U1) h9))) h9)))
   j9)))
  (d9 (Q6 [n_a,n_b] false (w7 (d6 U2))
   (d9 (G6 (o7 .ne (m9 (d6 l9) (d6 n_a)) (m9 (d6 l9) (d6 n_b)))
    (d9 (p7 (l5 a1v) (m9 (d6 l9) (d6 n_b)))
    (d9 (p7 (l5 l9) (t8 (a3L (o7 .eq (d6 w3) (d6 a1v)) (m9 (d6 l9) (d6 n_a)) (d6 w3)) [w3] true (w7 (d6 l9)) y9))
    (d9 (p7 (l5 M3) (j7 (.bool true)))
    j9)))
    j9)
   j9))
  j9)))) K r H W:=by
 have v1:(r.set M3 (.bool false)) B3=some (.ref at_):=v.pairs;refine f9 (t7 (m3 (y0 ?_)));refine f9 (t7 (D2 (d8 (a30 λX O=>d8 (M0 (d8 (f6 v1 (i8 (b61 (m4.new O _ _ (P _ _ a0)) (by rw[(c5q ..)];unfold n8;exact c5r tl (c6g _ _)) λn J=>i8 (a3g (.inl rfl) ?_))))))))))
 have z:H n=none:=by
  cases e:H n with
  | none=>rfl
  | some o=>rw [m4.new O _ _ e] at J;cases J
 have ne:X≠n:=λe=>by rw [<- e,l0] at J;cases J
 refine f9 (b5r (b92 (show (((r.set M3 (.bool false)).set W3 (.ref X)).set U2 (.ref n)) t6=some (.ref ar) from v.rows) (((m4.new O).trans (.new J)) _ _ (P _ _ y)) ⟨_,a0g (src:=.enum ar) (a9g nd) (b8F nd lf mk H ar at_ a X n) (λi F f s=>?_) (λF f s=>?_) (λi w F f A s W' Z _=>?_) _ 0 _ _ (c5J _) (c5B _) ⟨[],lf,0,(m4.new O).trans (.new J),⟨v.rows,v.pairs,v.mks,rfl⟩,rfl,rfl,m4.new J _ _ l0,l0,λ_ h=>h,λp l=>⟨tlt p l,λE c=>c.tie p l⟩,λj x hj=>c59 hj (c6A _),(λq hq=>nomatch hq),c5w _,c5w _⟩⟩))
 ·refine a36 s λ_ _ _ k _=>?_;clear s;refine ⟨_,k _ _ (P _ _ y),?_⟩;rw[(a9h ..)];rw[c5x];rw[(Option.map_map ..)];rfl
 ·obtain ⟨sn,ds,ep,k1,v1,f1,d1,hf,hd,D⟩:=s;rw [b2X] at D;refine f9 (a2c (f6 d1 (S6 hd ⟨_,a0g (src:=.lst n) (ds.map a1d) (λi G m=>∃ g B d,m4 f m/\MV ar at_ g d G/\m g=some (.list (iL B))/\Mks nd lf B/\(d=false->B=mk/\∀ p∈ds.take i,o5 mk p.1=o5 mk p.2)/\dc nd.length B<=dc nd.length mk/\(d=true->dc nd.length B < dc nd.length mk)) (λi G m S=>by refine a36 S λ_ _ _ u _=>?_;clear S;exact ⟨_,u _ _ hd,rfl⟩) (λG m S=>?_) (λi w G m A z2 W' Z _=>?_) _ 0 _ _ (c5J _) (c5B _) ⟨a,mk,false,.refl _,v1,k1 _ _ ha,M,λ_=>⟨rfl,λp l=>nomatch l⟩,c5w _,λh=>nomatch h⟩⟩)))
  ·obtain ⟨g,B,d,u,V,N,Y,I,C,t2⟩:=S;refine hW G m g B d (P.trans (k1.trans u)) V N Y (λh=>?_) C t2;refine eA (I h) λe h=>?_;rw [List.length_map,List.take_length] at h;rw[e];exact D.fixed h
  ·obtain ⟨g,B,d,u,V,N,Y,I,C,t2⟩:=z2;rw [List.getElem?_map] at A;refine i9 (c6G A) λp l q1=>?_;clear A;subst q1;refine eA (D.why p (c5p l)) λq3 why=>eA q3 λQ R=>?_;clear q3;refine ⟨_,a00,b2D (a:=g) (b:=d) (o:=p.1) (p:=p.2) ⟨V.rows,V.pairs,V.mks,V.goes⟩ N (by rw[Y.len];exact hl) rfl rfl (by rw[Y.len];exact Q) (by rw[Y.len];exact R) (λe=>Z _ _ ⟨g,B,d,u,⟨V.rows,V.pairs,V.mks,V.goes⟩,N,Y,λh=>⟨(I h).1,λt ht=>?_⟩,C,t2⟩) λe r3 H3 a3 k3 v3 h3=>Z _ _ ⟨a3,_,true,u.trans k3,v3,h3,b4U Y Q R why,(λh=>nomatch h),?_,λ_=>?_⟩⟩
   ·rw [List.take_add_one,l] at ht;rcases c6H ht with ht | ht
    ·exact (I h).2 t ht
    ·rw[(c6I ht)];refine u7 ((I h).1) ?_;exact e
   ·exact c5r (c6f (b05 Y Q R e)) C
   ·exact c5G (b05 Y Q R e) C
 ·rw [a9h] at A;refine i9 (c6G A) λx hx q2=>?_;clear A;subst q2;exact ⟨_,a00,b5m s O z ne ha M hl tl two kid hx Z⟩
theorem b0g (O:H ar=some (.list (nd.map s9))) (Z:H at_=some (.list (lf.map a1d))) (b:nd.length<=17) (two:∀ x∈nd,x.2.length<=2) (kid:∀ x∈nd,∀ k∈x.2,k < nd.length) (C:lf.length<=20) (tlt:∀ p∈lf,p.1 < nd.length/\p.2 < nd.length)
  (q:∀ U a mk,m4 H U->U a=some (.list (iL mk))->Mks nd lf mk->a4D nd lf mk->Q (.ref a) U):(j3 FT (n+1)).call 0 a1s [.ref ar,.ref at_] H Q:=by
 have j:(nd.map s9).length=nd.length:=c5q ..;refine o8 rfl rfl (f9 (t7 (D2 (d8 (b7X (M0 (d8 (f6 rfl (i8 (D8 O (by rw[j];exact y7 b) ⟨(nd.length:Nat),by rw[j];rfl,by unfold n8;exact c4j,by unfold n8;exact c4u b,λa y=>d8 (m3 (i8 (a3g (.inl rfl) ?_)))⟩))))))))))
 rw[(a2b ..)];refine f9 (a5t (λk l V=>∃ Y B J,m4 H V/\MV ar at_ Y J l/\V Y=some (.list (iL B))/\Mks nd lf B/\(J=false->a4D nd lf B)/\k=2 * dc nd.length B+J.toNat) _ ⟨a,_,true,.new y,⟨rfl,rfl,rfl,rfl⟩,l0,c3Q,(λh=>nomatch h),rfl⟩ λk l V v W w=>?_)
 obtain ⟨Y,B,J,i,d,g,e,r,rfl⟩:=v;refine a2W (f6 d.goes ⟨J,rfl,λt=>?_,λt=>?_⟩)
 ·clear r;subst t;refine c0Z O Z b two kid C tlt i d g e λF E o c f z D u m s A t2=>w _ _ _ ?_ ⟨o,c,f,z,D,u,m,s,rfl⟩;cases f with
  | false=>show 2 * _+0 < 2 * _+1;exact c51 (c6p 2 A)
  | true=>have:=t2 rfl;show 2 * _+1 < 2 * _+1;exact Nat.succ_lt_succ (Nat.mul_lt_mul_of_pos_left this (c5o rfl))
 ·refine f9 (A4 (f6 d.mks ?_));exact q _ _ _ i g e (r t)
end
variable {t d:Nat}{ks:List Nat}{N:Nat->List Nat->Prop}{ov:List Nat->Nat}
open Classical in
noncomputable def Dl (N:Nat->List Nat->Prop) (ov:List Nat->Nat) (t m:Nat):List Nat:=(List.range t).filter λd=>decide (Trn N ov d m)
open Classical in
theorem U5:d∈Dl N ov t m↔d < t/\Trn N ov d m:=by
 unfold Dl;refine D5 (List.mem_filter ..) ?_;refine D5 (List.mem_range ..) ?_;rw[decide_eq_true_eq];rfl
open Classical in
theorem b6n:Dl N ov (t+1) m=Dl N ov t m++if Trn N ov t m then [t] else []:=by
 unfold Dl;rw[List.range_succ];rw[(List.filter_append ..)];by_cases h:Trn N ov t m
 ·rw[(c58 h)];refine b9 (List.filter_cons_of_pos (by rw[decide_eq_true_eq];exact h)) ?_;rfl
 ·rw[(c57 h)];refine b9 (List.filter_cons_of_neg (by rw[decide_eq_true_eq];exact h)) ?_;rfl
theorem b3n:(Dl N ov t m).Pairwise (· < ·):=List.Pairwise.filter _ List.pairwise_lt_range
theorem b6l (h:Trn N ov d m) (lt:d < t) (b4D:∀ w,Trn N ov w m->d<=w):(Dl N ov t m)[0]?=some d:=by
 have hm:d∈Dl N ov t m:=U5.mpr ⟨lt,h⟩;have q:=b3n (N:=N) (ov:=ov) (t:=t) (m:=m);generalize B:Dl N ov t m=l at hm q;cases l with
 | nil=>exact nomatch hm
 | cons x l =>
  have J:Trn N ov x m:=(U5 (t:=t).mp (by rw[B];exact c5u)).2
  rcases c6K hm with rfl | hm
  ·rfl
  ·exact c59 (b4D x J) (Nat.not_le_of_lt ((List.pairwise_cons.mp q).1 d hm))
theorem b6m (h:Trn N ov d m) (lt:d < t) (most:∀ w,w < t->Trn N ov w m->w<=d):(Dl N ov t m).getLast?=some d:=by
 have hm:d∈Dl N ov t m:=U5.mpr ⟨lt,h⟩;have O:=b3n (N:=N) (ov:=ov) (t:=t) (m:=m);have q:∀ x∈Dl N ov t m,x<=d:=λx B=>most x (U5.mp B).1 (U5.mp B).2;generalize Dl N ov t m=l at hm O q;obtain ⟨J,x,rfl⟩:∃ J x,l=J++[x]:=⟨l.dropLast,l.getLast (List.ne_nil_of_mem hm),(List.dropLast_concat_getLast _).symm⟩;refine b9 List.getLast?_concat ?_;rcases c6H hm with hm | hm
 ·have U:=(List.pairwise_append.mp O).2.2 d hm x (c6M rfl);exact c59 (q x (c5E _ (c6M rfl))) (Nat.not_le_of_lt U)
 ·rw[(c6I hm)];rfl
theorem a6X (h:Trn N R8 d m):0 < d:=by
 obtain ⟨_,_,_⟩:=h;show 0 < 1+_;exact c5M _ _
theorem b0K (h:Trn N szO d m):0 < d:=by
 obtain ⟨_,_,_⟩:=h;show 0 < 1+_;exact c5M _ _
theorem b3Q:Trn N R8 t m↔∃ ks,N m ks/\(∀ k∈ks,Dl N R8 t k≠[])/\((∃ k∈ks,t - 1∈Dl N R8 t k)\/(ks=[]/\t=1)):=by
 constructor
 ·intro h;have c:=a6X h;obtain ⟨@⟨_,ks,ds,a,g,i⟩⟩:Nonempty (Trn N R8 t m):=⟨h⟩;have O:∀ (q k:Nat),ks[q]?=some k->∃ d,ds[q]?=some d/\d<=mx ds/\Trn N R8 d k:=λq k B=>by
   have V:=(c6C B).1;rw [<- g] at V;have J:=c5s V;exact ⟨_,J,a46 (c5p J),i q _ k J B⟩
  refine ⟨ks,a,λk B e=>?_,?_⟩
  ·refine eE (List.getElem?_of_mem B) λq b=>?_;refine p9 (O q k b) λd _ U Y=>?_;have:d∈Dl N R8 (R8 ds) k:=U5.mpr ⟨by unfold R8;exact Nat.add_comm 1 _▸c51 U,Y⟩
   rw [e] at this;cases this
  ·rcases (a0R ds 0).2.2 with e | e
   ·right
    have e:mx ds=0:=e;refine ⟨?_,by unfold R8;rw[e];rfl⟩
    cases ks with
    | nil=>rfl
    | cons k ks =>
     refine p9 (O 0 k rfl) λd _ U Y=>?_;have:=a6X Y;exact (c1m e U this).elim
   ·left
    refine eE (List.getElem?_of_mem e) λq J=>?_;have V:=(c6C J).1;rw [g] at V;have B:=c5s V;have U:=i q _ _ J B;refine ⟨_,c5p B,U5.mpr ⟨by exact Nat.sub_lt c Nat.one_pos,?_⟩⟩
    have n:R8 ds - 1=mx ds:=by unfold R8;exact Nat.add_sub_cancel_left ..
    rw[n];exact U
 ·rintro ⟨ks,a,o,h⟩
  have X4:∀ k∈ks,∃ d,d∈Dl N R8 t k/\(t - 1∈Dl N R8 t k->d=t - 1):=λk B=>by
   by_cases z:t - 1∈Dl N R8 t k
   ·exact ⟨_,z,λ_=>rfl⟩
   ·cases e:Dl N R8 t k with
    | nil=>exact c59 e (o k B)
    | cons x l=>exact ⟨x,c5u,λh=>c59 (e▸h) z⟩
  refine eE (a2a X4) λf Z=>?_;have j:=Trn.mk (N:=N) (ov:=R8) (ds:=ks.map f) a (c5q ..) λq d k J B=>by
   rw[(a3h J B)];exact (U5.mp (Z k (c5p B)).1).2
  have e:R8 (ks.map f)=t:=by
   rcases h with ⟨k,B,J⟩ | ⟨rfl,rfl⟩
   ·have c:=(U5.mp J).1;have:mx (ks.map f)=t - 1:=by
     refine Nat.le_antisymm (a4b λd J=>?_) ?_
     ·refine i9 (c6D J) λk B p=>?_;clear J;subst p;have:=(U5.mp (Z k B).1).1;exact Nat.pred_le_pred this
     ·refine u7 ((Z k B).2 J) ?_;exact a46 (c6E ⟨k,B,rfl⟩)
    unfold R8;exact (c5z (1+·) this).trans (Nat.add_sub_cancel' (c5v (c5B _) c))
   ·rfl
  rw [e] at j;exact j
theorem b9k (two:∀ m ks,N m ks->ks.length<=2):Trn N szO t m↔N m []/\t=1\/(∃ k,N m [k]/\Trn N szO (t - 1) k)\/∃ k l u,N m [k,l]/\Trn N szO u k/\u<=t - 1/\Trn N szO (t - 1 - u) l:=by
 constructor
 ·intro h;obtain ⟨@⟨_,ks,ds,B,O,Y⟩⟩:Nonempty (Trn N szO t m):=⟨h⟩;have:=two _ _ B;cases ks with
  | nil =>
   cases ds with
   | nil=>exact .inl ⟨B,rfl⟩
   | cons _ _=>cases O
  | cons k ks =>
   cases ds with
   | nil=>cases O
   | cons d ds =>
    cases ks with
    | nil =>
     cases ds with
     | cons _ _=>cases O
     | nil=>exact .inr (.inl ⟨k,B,by rw[(show szO [d] - 1=d by show 1+(d+0) - 1=d;exact Nat.add_sub_cancel_left ..)];exact Y 0 d k rfl rfl⟩)
    | cons l ks =>
     cases ds with
     | nil=>cases O
     | cons e ds =>
      cases ks with
      | cons _ _=>exact c59 this (by simp)
      | nil =>
       cases ds with
       | cons _ _=>cases O
       | nil =>
        refine .inr (.inr ⟨k,l,d,B,Y 0 d k rfl rfl,?_,?_⟩)
        ·show d<=1+(d+(e+0)) - 1;exact c5r (c5M _ _) (c5K (Nat.add_sub_cancel_left _ _).symm)
        ·rw[(show szO [d,e] - 1 - d=e by show 1+(d+(e+0)) - 1 - d=e;exact (c5z (· - _) (Nat.add_sub_cancel_left _ _)).trans (Nat.add_sub_cancel_left _ _))];exact Y 1 e l rfl rfl
 ·rintro (⟨B,rfl⟩ | ⟨k,B,h⟩ | ⟨k,l,u,B,a,c,Z⟩)
  ·exact .mk (ds:=[]) B rfl λq d k J=>nomatch J
  ·have V:=b0K h;have:=Trn.mk (N:=N) (ov:=szO) (ds:=[t - 1]) B rfl λq d b J U=>by
    cases q with
    | zero=>exact c5A J▸c5A U▸h
    | succ q=>cases J
   rwa [show szO [t - 1]=t by show 1+(t - 1+0)=t;exact Nat.add_sub_cancel' (c6f (Nat.lt_of_sub_pos V))] at this
  ·have V:=b0K Z;have:=Trn.mk (N:=N) (ov:=szO) (ds:=[u,t - 1 - u]) B rfl λq d b J U=>by
    cases q with
    | zero=>exact c5A J▸c5A U▸a
    | succ q =>
    cases q with
    | zero=>exact c5A J▸c5A U▸Z
    | succ q=>cases J
   rwa [show szO [u,t - 1 - u]=t by show 1+(u+(t - 1 - u+0))=t;exact (c5z (1+·) (Nat.add_sub_cancel' (c6f (Nat.lt_of_sub_pos V)))).trans (Nat.add_sub_cancel' (c6f (Nat.lt_of_sub_pos (c5G V (Nat.sub_le _ _)))))] at this
theorem b7R {M:Nat->List Nat->Prop} {φ:Nat->Nat} (h:∀ c ks,N c ks->M (φ c) (ks.map φ)) (x:Trn N ov d m):Trn M ov d (φ m):=by
 induction x with
 | @mk c ks ds hn hl _ ih =>
  refine .mk (h c ks hn) (by rw[(c5q ..)];exact hl) λq d k O J=>?_
  rw [List.getElem?_map] at J;refine i9 (c6G J) λU B V=>?_;clear J;subst V;exact ih q d U O B
variable {fs:List (Nat×Nat)}
noncomputable def tab {β:Type} (l:List (Nat×β)):List (Nat×β):=l.foldl (λfs p=>put fs p.1 p.2) []
theorem a3w {β:Type} (l:List (Nat×β)):∀ fs,(∀ a,(l.foldl (λfs p=>put fs p.1 p.2) fs).lookup m=some a->fs.lookup m=some a\/(m,a)∈l)/\((fs.lookup m).isSome=true\/m∈l.map (·.1)->((l.foldl (λfs p=>put fs p.1 p.2) fs).lookup m).isSome=true):=by
 induction l with
 | nil=>exact λfs=>⟨λa h=>.inl h,λh=>h.resolve_right λh=>nomatch h⟩
 | cons p l J =>
  intro fs;refine eA (J (put fs p.1 p.2)) λq B=>?_;rw [Q4] at q B;refine ⟨λa h=>?_,λh=>B ?_⟩
  ·rcases q a h with h | h
   ·by_cases e:m=p.1
    ·rw [if_pos e] at h;exact .inr (List.mem_cons.mpr (.inl (by rw[e];refine u7 (c5A h) ?_;rfl)))
    ·rw [if_neg e] at h;exact .inl h
   ·exact .inr (c5t _ h)
  ·by_cases e:m=p.1
   ·rw[(c58 e)];exact .inl rfl
   ·rw[(c57 e)];exact h.imp id λh=>(c6K h).resolve_left e
theorem b7N {β:Type} (l:List (Nat×β)):∀ fs,(l.foldl (λfs p=>put fs p.1 p.2) fs).length<=fs.length+l.length:=by
 induction l with
 | nil=>exact λ_=>c5w _
 | cons p l q =>
  intro fs;refine c5r (q (put fs p.1 p.2)) ?_;have:(put fs p.1 p.2).length<=fs.length+1:=by
   unfold put
   split
   ·rw[(c5q ..)];exact Nat.le_succ _
   ·rw[c50];exact c5w _
  rw[c6d];exact c5r (c5R this _) (c5K (Nat.succ_add _ _))
theorem a9s {β:Type} {f:β->f7} (l:List (Nat×β)):∀ fs,(dM f l).foldl (λes p=>J2 es p.1 p.2) (dM f fs)=dM f (l.foldl (λfs p=>put fs p.1 p.2) fs):=by
 induction l with
 | nil=>exact λ_=>rfl
 | cons p l q =>
  intro fs;show (dM f l).foldl _ (J2 (dM f fs) (.int (p.1:Nat)) (f p.2))=_;rw[b5g];exact q _
theorem b2L {l:List (Nat×Nat)} (h:(l.map (·.2)).Nodup) {m q a:Nat} (hp:(m,a)∈l) (hq:(q,a)∈l):(m,a)=(q,a):=by
 induction l with
 | nil=>exact nomatch hp
 | cons x l B =>
  rw [List.map_cons,List.nodup_cons] at h;rcases c6K hp with rfl | hp <;> rcases c6K hq with e | hq
  ·exact e.symm
  ·exact c59 (c6E ⟨_,hq,rfl⟩) h.1
  ·exact c59 (c6E ⟨_,hp,show a=x.2 from c5z Prod.snd e⟩) h.1
  ·exact B h.2 hp hq
structure Tbl (ms:List Nat) (H0 H:Hp) (fa:Nat) (fs:List (Nat×Nat)) (o:Nat->N2):Prop where
 keep:m4 H0 H
 dict:∃ ep,H fa=some (.dict (dM f7.ref fs) ep)
 obj:∀ m∈ms,∃ a,fs.lookup m=some a/\H a=some (o m)
 inj:∀ m m' a,fs.lookup m=some a->fs.lookup m'=some a->m=m'
 off:∀ m a,fs.lookup m=some a->H0 a=none/\a≠fa
 keys:∀ m,m∈fs.map (·.1)↔m∈ms
 len:fs.length<=ms.length
variable {t:SetTable}{o:Nat->N2}{d:Addr}{ms:List Nat}{H0:Hp}
theorem Tbl.more (T:Tbl ms H0 H fa fs o) {q:Hp} (k:m4 H q):Tbl ms H0 q fa fs o :=
 ⟨T.keep.trans k,T.dict.imp λ_=>k _ _,λm B=>(T.obj m B).imp λ_=>And.imp_right (k _ _),T.inj,T.off,T.keys,T.len⟩
theorem Tbl.set (T:Tbl ms H0 H fa fs o) (h:fs.lookup m=some a) {p:N2}:Tbl ms H0 (H.set a p) fa fs λx=>if x=m then p else o x:=by
 refine eA (T.off m a h) λB O=>⟨T.keep.put B,T.dict.imp λ_=>(C8 λe=>O e.symm).trans,λx U=>?_,T.inj,T.off,T.keys,T.len⟩;refine i9 (T.obj x U) λb q J=>⟨b,q,?_⟩;by_cases e:x=m
 ·subst e;rw [h] at q;clear J;obtain rfl:=c5A q;rw[l0];rw[(c58 rfl)];rfl
 ·refine b9 (C8 λz=>e (T.inj _ _ _ q (by rw[z];exact h))) ?_;rw[(c57 e)];exact J
noncomputable def pnV (p:Nat×List Nat):f7:=.tup [.int (p.1:Nat),.tup (iL p.2)]
theorem b59 {e0:Ev} {o0:N2} {b:Nat} (I:∀ r H (Q:l8),(∀ a,H a=none->Q (.ref a) (H.set a o0))->e0 K r H Q) (M:r r9=some (.ref b)) (A:H b=some (.list (L.map pnV))) (C:L.length<=17)
  (q:∀ u Y fs,Tbl (L.map (·.1)) H u Y fs (λ_=>o0)->Q (.ref Y) u):O3 .dict (d7 (t8 (z0 (d7 (d6 w3) (d7 e0 h9))) [w3,n6] false (w7 (d6 r9)) y9) h9) K r H Q:=by
 let t:Nat×Nat->f7:=λp=>a0q (.int (p.1:Nat),.ref p.2)
 refine M0 (d8 (f6 (K:=K) (Q:=λv O=>itV v O _) M (S6 A ⟨_,a6V (src:=.lst b) (L.map pnV) (λi acc O=>∃ l:List (Nat×Nat),acc=l.map t/\l.map (·.1)=(L.take i).map (·.1)/\(l.map (·.2)).Nodup/\(∀ p∈l,H p.2=none/\O p.2=some o0)/\m4 H O) (λi acc O E=>by refine a1m E λ_ _ _ _ _ k=>?_;clear E;exact ⟨_,k _ _ A,rfl⟩) (λacc O d=>?_) (λi v acc O D d=>?_) _ 0 [] H (c5J _) (c5B _) ⟨[],rfl,rfl,c6r,(λp h=>nomatch h),.refl _⟩⟩)))
 ·refine a1m d λl P J j U k=>?_;clear d;subst P;rw [List.length_map,List.take_length] at J;have g:l.length=L.length:=by have:=c5z List.length J;rwa [c5q,c5q] at this
  refine λc n=>i8 ⟨c,l.map λp=>((p.1:Nat),f7.ref p.2),rfl,?_,?_,λw Y V=>?_⟩
  ·rw[l0];rw[c55];rfl
  ·rw[(c5q ..)];unfold n8;exact c5r (c5K g) (c5r C (c5o rfl))
  ·have e:A9 ((l.map λp=>(((p.1:Nat):Int),f7.ref p.2)).map λp=>(.int p.1,p.2))=dM f7.ref (tab l):=by
    rw[c55];exact a9s (f:=f7.ref) l []
   rw[e];have Z:∀ {m a:Nat},(tab l).lookup m=some a->(m,a)∈l:=λh=>((a3w l []).1 _ h).resolve_left λh=>nomatch h
   have kk:=(k.trans (m4.new (o:=.list (l.map t)) n)).trans (m4.new (o:=.dict (dM f7.ref (tab l)) w) V);have y:∀ m∈L.map (·.1),((tab l).lookup m).isSome=true:=λm s=>(a3w l []).2 (.inr (by rw[J];exact s))
   refine q _ Y (tab l) ⟨kk,⟨w,l0⟩,λm s=>?_,λm T a h F=>?_,λm a h=>?_,λm=>?_,?_⟩
   ·refine eE (c6J (y m s)) λa B=>?_;have:=(U _ (Z B)).2;exact ⟨a,B,m4.new V _ _ (m4.new n _ _ this)⟩
   ·have:=b2L j (Z h) (Z F);exact c5z Prod.fst this
   ·refine ⟨(U _ (Z h)).1,λe=>?_⟩;have:=m4.new (o:=.list (l.map t)) n _ _ (U _ (Z h)).2;have e:a=Y:=e;rw [show ((m,a):Nat×Nat).2=Y from e,V] at this;cases this
   ·refine D5 (P1 ..) ?_;refine u7 J ?_;refine ⟨λh=>?_,λh=>y m (by refine u7 J ?_;exact h)⟩
    exact eE (c6J h) λa B=>c6E ⟨_,Z B,rfl⟩
   ·have:=b7N l [];rw[(c5q ..)];rw [List.length_nil,Nat.zero_add] at this;exact c5r this (c5K g)
 ·refine a1m d λl R J j U k=>?_;clear d;subst R;rw [List.getElem?_map] at D;refine i9 (c6G D) λp N S=>?_;clear D;subst S;have g:l.length<=L.length:=by have:=c5z List.length J;rw [List.length_map,List.length_map] at this;rw[this];exact List.length_take_le' _ _
  refine ⟨by rw[(c5q ..)];unfold n8;exact c5r (c5r g C) (c5o rfl),λW G=>⟨_,a00,G4 (D2 (d8 (f6 rfl (d8 (I _ _ _ λa B=>i8 (G _ _ ⟨l++[(p.1,a)],?_,?_,?_,λx hx=>?_,k.trans (.new B)⟩))))))⟩⟩
  ·rw[c54];rfl
  ·rw[c6k];rw[N];rw[c54];rw[c54];rw[J];rfl
  ·rw[c54];refine U7 j λz=>i9 (c6D z) λx hx e=>?_;have:=(U x hx).2;rw [e,B] at this;cases this
  ·rcases c6H hx with hx | hx
   ·exact ⟨(U x hx).1,m4.new B _ _ (U x hx).2⟩
   ·obtain rfl:=c6I hx;refine ⟨?_,l0⟩;cases e:H a with
    | none=>rfl
    | some o=>rw [k _ _ e] at B;cases B
theorem b5e (l:List Nat):a2L (iL l)=true:=a4v _ _
variable {o:N2}
theorem b8i {d:Nat} {Q:F7} (h:H a=some (.list (iL l))) (O:d∈l->Q true H) (J:d∉l->Q false H):P0 .isin (.int (d:Nat)) (.ref a) H Q:=by
 have e:f7.int (d:Nat)∈iL l↔d∈l:=⟨λh=>by
  refine i9 (a7t h) λi B e=>?_;rw[(Int.ofNat.inj (f7.int.inj e))];exact B,λh=>c6E ⟨d,h,rfl⟩⟩
 have q:∀ inst:Decidable (f7.int (d:Nat)∈iL l),Q (@decide _ inst) H:=λinst=>by
  by_cases z:d∈l
  ·rw[(c6h (e.mpr z))];exact O z
  ·rw[(c5Y (λw=>z (e.mp w)))];exact J z
 exact .inr (.inr (.inl ⟨a,_,rfl,h,rfl,b5e l,q _⟩))
open Classical in
theorem b09 {Q:F7} (q:Q l.isEmpty H):P0 .eq (.tup (iL l)) (.tup []) H Q :=
 ⟨l.isEmpty,.inl (.inl ⟨a4v _ _,rfl,by
  cases l with
  | nil=>exact (c6h rfl).symm
  | cons _ _=>exact (c5Y λe=>by injection e with e;exact nomatch e).symm⟩),q⟩
theorem ge_int {i j:Int} {Q:F7} (q:Q (decide (i>=j)) H):P0 .ge (.int i) (.int j) H Q:=⟨i,j,rfl,rfl,q⟩
theorem a4R {Y:List Nat} {J:Hp} {B m b:Nat} {o:Nat->N2} {x y:Nm} (T:Tbl Y J H B fs o) (U:r x=some (.ref B)) (V:r y=some (.int (m:Nat))) (O:fs.lookup m=some b) (q:Q (.ref b) H):m9 (d6 x) (d6 y) K r H Q :=
 T.dict.elim λ_ h=>B7 (f6 U (f6 V (a1W h O q)))
noncomputable def flt (p:Nat->Bool) (k:Nat):List f7:=bif p k then [iV k] else []
theorem a8F (h:p k=true):flt p k=[iV k]:=by unfold flt;rw[h];rfl
theorem a6d (h:p k=false):flt p k=[]:=by unfold flt;rw[h];rfl
theorem a9Z:(ks.flatMap (flt p)).isEmpty=true↔∀ k∈ks,p k=false:=by
 refine D5 (List.isEmpty_iff ..) ?_;refine D5 (List.flatMap_eq_nil_iff ..) ?_;refine forall_congr' λk=>forall_congr' λ_=>?_;unfold flt;cases p k
 ·exact ⟨λ_=>rfl,λ_=>rfl⟩
 ·exact ⟨(λz=>nomatch z),(λz=>nomatch z)⟩
theorem a7a (h:ks.length<=m):(ks.flatMap (flt p)).length<=m:=by
 refine c5r (a4u (m:=1) λk _=>?_) (by exact (Nat.mul_one _).symm▸h)
 unfold flt;cases p k
 ·exact c5B _
 ·exact c5w _
theorem a9C {N:Nat->List Nat->Prop} {ov:List Nat->Nat} {t m:Nat}:(Dl N ov t m).length<=t:=by
 have:=List.length_filter_le (λd=>@decide (Trn N ov d m) (Classical.propDecidable _)) (List.range t);rwa [c6b] at this
noncomputable def Nl (L:List (Nat×List Nat)) (m:Nat) (ks:List Nat):Prop:=(m,ks)∈L
structure LOk (L:List (Nat×List Nat)):Prop where
 len:L.length<=17
 two:∀ p∈L,p.2.length<=2
 kid:∀ p∈L,∀ k∈p.2,k∈L.map (·.1)
 lt:∀ m∈L.map (·.1),m < 17
noncomputable def a6y (L:List (Nat×List Nat)) (t:Nat) (ks:List Nat):Prop:=(∀ k∈ks,Dl (Nl L) R8 t k≠[])/\((∃ k∈ks,t - 1∈Dl (Nl L) R8 t k)\/(ks=[]/\t=1))
variable {t:Nat}{u:f7}{nb fr:Nat}{F:List Nat}
noncomputable abbrev oD (L:List (Nat×List Nat)) (t:Nat):Nat->N2:=λm=>.list (iL (Dl (Nl L) R8 t m))
structure DV (fa nb fr t:Nat) (r:En):Prop where
 fnd:r l6=some (.ref fa)
 nds:r r9=some (.ref nb)
 frs:r a1u=some (.ref fr)
 dep:r U6=some (.int (t:Nat))
theorem a9V (O:LOk L) (tp:0 < t) (tl:t<=100) (T:Tbl (L.map (·.1)) H0 H fa fs (oD L t)) (v:DV fa nb fr t r) (hf:H fr=some (.list (iL F))) (fl:F.length<=17) (hp:(m,ks)∈L) (hm:r w3=some (.int (m:Nat))) (p:r n6=some (.tup (iL ks)))
  (q:∀ r' a F',DV fa nb fr t r'->X6 fr H a->a fr=some (.list (iL F'))->(a6y L t ks/\F'=F++[m]\/¬a6y L t ks/\F'=F)->W .next r' a) :
  (d9 (p7 (l5 a16) (t8 (d6 m7) [m7] true (w7 (d6 n6)) (A8 (R4 (o7 .eq (m9 (d6 l6) (d6 m7)) (G9 h9)) (R4 (o7 .ge (m9 (m9 (d6 l6) (d6 m7)) (j7 (.int 0))) (d6 U6)) a5h)) y9)))
   (d9 (p7 (l5 a3V) (t8 (d6 m7) [m7] true (w7 (d6 n6)) (A8 (o7 .isin (A6 .sub (d6 U6) (j7 (.int 1))) (m9 (d6 l6) (d6 m7))) y9)))
   (d9 (G6 (A8 (o7 .eq (d6 a16) (G9 h9)) (A8 (R4 (o7 .ne (d6 a3V) (G9 h9)) (R4 (A8 (o7 .eq (d6 n6) (z0 h9)) (A8 (o7 .eq (d6 U6) (j7 (.int 1))) y9)) a5h)) y9))
    (d9 (y8 (l4 (d6 a1u) v6 (d7 (d6 w3) h9)))
    j9)
    j9)
   j9))) K r H W:=by
 classical
 have a3:ks.length<=2:=O.two _ hp;have l2:2<=n8:=by unfold n8;exact c6g _ _
 let D:=Dl (Nl L) R8 t
 refine f9 (t7 (X5 (l:=ks) (f:=iV) (g:=flt λk=>(D k).isEmpty) (c5r (a7a a3) l2) (a1p λR hR=>f6 p (hR _ (.refl _))) (λk d a s P V=>?_) λH1 n k1 a6=>y0 ?_))
 ·refine i9 ((T.more s).obj k (O.kid _ hp k d)) λb hb ho=>?_;have Y:(r.set m7 (iV k)) l6=some (.ref fa):=v.fnd;have c:(r.set m7 (iV k)) U6=some (.int (t:Nat)):=v.dep;have V:=V;refine F6 (V5 (t0 (a4R (T.more s) Y rfl hb (a60 ho λe he=>⟨λz=>⟨λ_=>V1 ⟨λ_=>f6 rfl ?_,(λz=>nomatch z)⟩,(λz=>nomatch z)⟩,λz=>?_⟩))))
  ·have:=V _ (m4.new (o:=.list []) he);rwa [a8F (show (λk=>(D k).isEmpty) k=true by unfold iL at z;rw [List.isEmpty_iff,List.map_eq_nil_iff] at z;exact List.isEmpty_iff.mpr z)] at this
  ·obtain ⟨x,l,hx⟩:∃ x l,D k=x :: l:=by
    cases e:D k with
    | nil=>have z:(iL (D k)).isEmpty=false:=z;rw [e] at z;cases z
    | cons x l=>exact ⟨x,l,rfl⟩
   have lt:x < t:=(U5.mp (show x∈D k by rw[hx];exact c5u)).1
   have u:=s.trans (m4.new (o:=.list []) he);have b2:(a.set e (.list [])) b=some (.list (iL (x :: l))):=by refine u7 hx ?_;exact m4.new he _ _ ho
   have ll:(iL (x :: l)).length<=n8:=by
    refine u7 hx ?_;rw[(n0 ..)];exact c5r a9C (by unfold n8;exact c5r tl (c5o rfl))
   refine V5 (t0 (B7 (a4R (T.more u) Y rfl hb (m3 (I4 (i:=0) (x:=iV x) b2 ll rfl (f6 c (ge_int ⟨λz=>?_,λz=>a31 ⟨(λz=>nomatch z),λ_=>⟨(λz=>nomatch z),λ_=>?_⟩⟩⟩)))))))
   ·have:=c5y z;exact (c1i lt this).elim
   ·have:=V _ (m4.new (o:=.list []) he);rwa [a6d (show (λk=>(D k).isEmpty) k=false by show (D k).isEmpty=false;rw[hx];rfl)] at this
 ·have v1:(r.set a16 (.ref n)) l6=some (.ref fa):=v.fnd;have u:=k1.trans (m4.new (o:=.list (ks.flatMap (flt λk=>(D k).isEmpty))) a6);generalize J:r.set a16 (.ref n)=U;generalize I:H1.set n (.list (ks.flatMap (flt λk=>(D k).isEmpty)))=H2 at u;have a7:H2 n=some (.list (ks.flatMap (flt λk=>(D k).isEmpty))):=I▸l0;have A:DV fa nb fr t U:=J▸⟨v.fnd,v.nds,v.frs,v.dep⟩;have a2:U n6=some (.tup (iL ks)):=J▸p
  have b0:U w3=some (.int (m:Nat)):=J▸hm;have a8:U a16=some (.ref n):=J▸rfl;clear J I v1;refine f9 (t7 (X5 (l:=ks) (f:=iV) (g:=flt λk=>decide (t - 1∈D k)) (c5r (a7a a3) l2) (a1p λR hR=>f6 a2 (hR _ (.refl _))) (λk d a s P V=>?_) λH3 G k3 M=>y0 ?_))
  ·refine i9 ((T.more (u.trans s)).obj k (O.kid _ hp k d)) λb hb ho=>?_;have Y:(U.set m7 (iV k)) l6=some (.ref fa):=A.fnd;have c:(U.set m7 (iV k)) U6=some (.int (t:Nat)):=A.dep;have V:=V a (.refl _);have et:(t:Int) - 1=((t - 1:Nat):Int):=by exact (Int.ofNat_sub tp).symm
   refine F6 (t0 (C5 (f6 c (m3 (sub_int ?_)))));rw[et];refine a4R (T.more (u.trans s)) Y rfl hb (b8i ho (λz=>⟨λ_=>V1 ⟨λ_=>f6 rfl ?_,(λz=>nomatch z)⟩,(λz=>nomatch z)⟩) λz=>⟨(λz=>nomatch z),λ_=>⟨(λz=>nomatch z),λ_=>?_⟩⟩)
   ·rwa [a8F (show (λk=>decide (t - 1∈D k)) k=true from c6h z)] at V
   ·rwa [a6d (show (λk=>decide (t - 1∈D k)) k=false from c5Y z)] at V
  ·have k4:=u.trans (k3.trans (m4.new (o:=.list (ks.flatMap (flt λk=>decide (t - 1∈D k)))) M));generalize B:U.set a3V (.ref G)=j;have N:(H3.set G (.list (ks.flatMap (flt λk=>decide (t - 1∈D k))))) G=_:=l0;have Q:=(k3.trans (m4.new (o:=.list (ks.flatMap (flt λk=>decide (t - 1∈D k)))) M)) _ _ a7;generalize H3.set G (.list (ks.flatMap (flt λk=>decide (t - 1∈D k))))=H4 at k4 N Q
   have v2:DV fa nb fr t j:=B▸⟨A.fnd,A.nds,A.frs,A.dep⟩;have a9:j n6=some (.tup (iL ks)):=B▸a2;have b1:j w3=some (.int (m:Nat)):=B▸b0;have a1:j a16=some (.ref n):=B▸a8;have b3:j a3V=some (.ref G):=B▸rfl;clear B;have a5:(iL F).length<=n8:=by rw[(n0 ..)];unfold n8;exact c5r fl (c5o rfl)
   have a4:∀ {C:Hp},m4 H4 C->a6y L t ks->(d9 (y8 (l4 (d6 a1u) v6 (d7 (d6 w3) h9))) j9) K j C λf U H1=>a2D f (W .next U H1) λv=>W (.ret v) U H1:=λZ ru=>by
    have a0:=(k4.trans Z) _ _ hf;refine f9 (F0 (I5 (o9 v2.frs) a0 (d8 (f6 b1 (i8 (G1 a0 a5 ?_))))));rw[a1o];exact q _ _ (F++[m]) v2 ((X6.of (k4.trans Z)).put) l0 (.inl ⟨ru,rfl⟩)
   have no:∀ {C:Hp},m4 H4 C->¬a6y L t ks->W .next j C:=λZ ru=>q _ _ F v2 (.of (k4.trans Z)) ((k4.trans Z) _ _ hf) (.inr ⟨ru,rfl⟩);have E:∀ {b:Bool},(ks.flatMap (flt λk=>(D k).isEmpty)).isEmpty=b->(b=true↔∀ k∈ks,D k≠[]):=λe=>by
    refine u7 e ?_;refine D5 (a9Z ..) ?_;refine forall_congr' λk=>forall_congr' λ_=>?_;refine D5 (Bool.eq_false_iff ..) ?_;rewrite [Ne];refine D5 (List.isEmpty_iff ..) ?_;rfl
   have ex:∀ {b:Bool},(ks.flatMap (flt λk=>decide (t - 1∈D k))).isEmpty=b->(b=true↔∀ k∈ks,t - 1∉D k):=λe=>by
    refine u7 e ?_;refine D5 (a9Z ..) ?_;refine forall_congr' λk=>forall_congr' λ_=>?_;refine D5 (decide_eq_false_iff_not ..) ?_;rfl
   refine f9 (J7 (F6 (t0 (f6 a1 (a60 Q λe1 S=>⟨λz=>?_,λz=>⟨(λz=>nomatch z),λ_=>?_⟩⟩)))))
   ·have h1:=(E rfl).mp z;have Z:=m4.new (o:=.list []) S;refine F6 (V5 (t0 (f6 b3 (b0l (Z _ _ N) λe2 X=>⟨λz=>⟨λ_=>V1 ⟨λ_=>a4 (Z.trans (.new X)) ⟨h1,.inl ?_⟩,(λz=>nomatch z)⟩,(λz=>nomatch z)⟩,λz=>?_⟩))))
    ·refine c5O λw=>?_;have:=(ex rfl).mpr λk p hd=>w ⟨k,p,hd⟩;rw [this] at z;cases z
    ·have h2:=(ex (b:=true) (by cases e:(ks.flatMap (flt λk=>decide (t - 1∈D k))).isEmpty <;> rw [e] at z <;> first | rfl | cases z)).mp rfl
     have k6:=Z.trans (m4.new (o:=.list []) X);have nr:¬(ks=[]/\t=1)->¬a6y L t ks:=λh z1=>by refine eA z1 λ_ z=>?_;clear z1;exact z.elim (λz2=>by refine i9 z2 λk p hd=>?_;clear z2;exact h2 k p hd) h
     refine V5 (F6 (t0 (f6 a9 (D2 (i8 (b09 ⟨λz=>F6 (t0 (f6 v2.dep (m3 (a1S ⟨λy=>V1 ⟨λ_=>⟨λ_=>V1 ⟨λ_=>?_,(λz=>nomatch z)⟩,(λz=>nomatch z)⟩,(λz=>nomatch z)⟩,λy=>⟨(λz=>nomatch z),λ_=>?_⟩⟩)))),λz=>⟨(λz=>nomatch z),λ_=>?_⟩⟩))))))
     ·exact a4 k6 ⟨h1,.inr ⟨List.isEmpty_iff.mp z,Int.ofNat.inj (c5y y)⟩⟩
     ·exact a31 ⟨(λz=>nomatch z),λ_=>⟨(λz=>nomatch z),λ_=>no k6 (nr λh=>c6j y (by rw[h.2];rfl))⟩⟩
     ·exact a31 ⟨(λz=>nomatch z),λ_=>⟨(λz=>nomatch z),λ_=>no k6 (nr λh=>by rw [h.1] at z;cases z)⟩⟩
   ·exact no (.new S) λ⟨h,_⟩=>by rw [(E rfl).mpr h] at z;cases z
variable {o:Nat->N2}
theorem Tbl.congr (T:Tbl ms H0 H fa fs o) {o':Nat->N2} (h:∀ m∈ms,o m=o' m):Tbl ms H0 H fa fs o' :=
 ⟨T.keep,T.dict,λm q=>(T.obj m q).imp λ_=>And.imp_right λz=>z.trans (c5z some (h m q)),T.inj,T.off,T.keys,T.len⟩
theorem Tbl.new (T:Tbl ms H0 H fa fs o) {x:Nat} (h:H x=none):H0 x=none/\x≠fa/\∀ m a,fs.lookup m=some a->a≠x:=by
 refine ⟨?_,λe=>?_,λm a J e=>?_⟩
 ·cases e:H0 x with
  | none=>rfl
  | some p=>rw [T.keep _ _ e] at h;cases h
 ·refine eE T.dict λU O=>?_;rw [e,O] at h;cases h
 ·refine i9 (T.obj m ((T.keys m).mp (P1.mpr (by rw[J];rfl)))) λb q B=>?_
  rw [J] at q;obtain rfl:=c5A q;rw [e,h] at B;cases B
theorem Tbl.keepX (T:Tbl ms H0 H fa fs o) {x:Nat} (n:H0 x=none/\x≠fa/\∀ m a,fs.lookup m=some a->a≠x) {q:Hp} (k:X6 x H q):Tbl ms H0 q fa fs o :=
 ⟨λb p e=>k b p (λz=>by rw [z,n.1] at e;cases e) (T.keep b p e),T.dict.imp λ_=>k _ _ (λe=>n.2.1 e.symm),λm B=>(T.obj m B).imp λa z=>⟨z.1,k _ _ (n.2.2 m a z.1) z.2⟩,T.inj,T.off,T.keys,T.len⟩
variable {t:SetTable}{o:N2}
theorem X6.trans {x:Nat} {H q B:Hp} (k:X6 x H q) (l:X6 x q B):X6 x H B:=λb o e h=>l b o e (k b o e h)
theorem b0o {α:Type} {l:List α} {j:Nat} {m:α} (h:l.Nodup) (q:l[j]?=some m):m∉l.take j:=λz=>by
 have e:=List.take_append_drop j l;rw [<- e] at h;refine (List.nodup_append.mp h).2.2 m z m ?_ rfl;exact c5p (i:=0) (by refine b9 List.getElem?_drop ?_;rw[(Nat.add_zero ..)];exact q)
theorem b8B {N:Nat->List Nat->Prop}:Dl N R8 1 m=[]:=by
 refine List.eq_nil_iff_forall_not_mem.mpr λd J=>eA (U5.mp J) λq B=>?_;have:=a6X B;exact c21 q this
theorem a9e {most i:Nat} (U:((most:Int)+1 - 1).toNat=most) (q:(C7 1 ((most:Int)+1))[i]?=some v):i < most/\v=iV (i+1):=by
 unfold C7 at q;rw [List.getElem?_map] at q;refine i9 (c6G q) λj O V=>?_;clear q;subst V;rw [U] at O;refine eE (c6C O) λB J=>?_;rw [List.length_range] at B;rw [List.getElem_range] at J;exact ⟨B,by refine u7 J ?_;show f7.int (1+(i:Int))=.int ((i+1:Nat):Int);congr 1;exact Int.add_comm _ _⟩
theorem a5r {t:List Nm} {es:Lv} {b:Bv} {Q:A2} (h:es K r H λvs q=>itR vs q λsrc B=>∃ n,a5T t one (b K) src n 0 r B Q):Q6 t one (N4 es) b K r H Q:=h
theorem a6w {n:Int} (B:-n8<=n) (J:n<=n8) (q:R (.seq (C7 1 n)) H):itR [.int 1,.int n] H R:=.inr ⟨1,n,rfl,by unfold n8;exact c5N _,by unfold n8;exact c5N _,B,J,q⟩
section
variable {n most:Nat}
theorem a8l (O:LOk L) (hL:H nb=some (.list (L.map pnV))) (V:most<=50) (q:∀ H' Z fs,Tbl (L.map (·.1)) H H' Z fs (oD L (most+1))->Q (.ref Z) H'):(j3 FT (n+1)).call 0 a0U [.ref nb,.int (most:Nat)] H Q:=by
 refine o8 rfl rfl (f9 (t7 (b59 (e0:=G9 h9) (o0:=.list []) (λr H Q h=>a0x (i8 h)) rfl hL O.len λH1 Z fs T1=>y0 ?_)));have T1:=T1.congr (o':=oD L 1) λm _=>by show _=N2.list (iL _);rw[b8B];rfl
 have e1:((most:Int)+1 - 1).toNat=most:=by exact c5z Int.toNat (Int.add_sub_cancel _ _)
 refine f9 (a5r (d8 (m3 (d8 (C5 (f6 rfl (m3 (K7 (i8 (a6w (by unfold n8;exact c20) (by unfold n8;exact c22 V) ⟨_,a0g (src:=.seq (C7 1 ((most:Int)+1))) _ (λi R E=>R l6=some (.ref Z)/\R r9=some (.ref nb)/\Tbl (L.map (·.1)) H E Z fs (oD L (i+1))) (λ_ _ _ _=>rfl) (λR E Y=>?_) (λi v R E hv Y W hW _=>?_) _ 0 _ _ (c5J _) (c5B _) ⟨rfl,rfl,T1⟩⟩))))))))))
 ·refine eAA Y λh1 J T=>?_;clear Y;unfold C7 at T;rw [List.length_map,List.length_range,e1] at T;refine f9 (A4 (f6 h1 ?_));exact q _ _ _ T
 ·refine eAA Y λh1 J T=>?_;clear Y;refine eA (a9e e1 hv) λhi q1=>?_;clear hv;subst q1;refine ⟨_,D6,?_⟩;have tl:i+1<=100:=by exact c5r (c5r hi V) (c5o rfl)
  generalize ht:i+1=t at T tl;have tp:0 < t:=by exact ht▸c53 _
  rw [ht] at hW;refine f9 (t7 (a0x (i8 λU g=>y0 ?_)));have nw:=T.new g;have T3:=T.more (m4.new (o:=.list []) g);have A:(E.set U (.list [])) nb=some (.list (L.map pnV)):=T3.keep _ _ hL;have a6:nb≠U:=λe=>by rw [<- e,T.keep _ _ hL] at g;cases g
  have u:(E.set U (.list [])) U=some (.list (iL [])):=l0;generalize E.set U (.list [])=H3 at T3 A u;generalize hr:(R.set U6 (iV t)).set a1u (.ref U)=r3;have v3:DV Z nb U t r3:=hr▸⟨h1,J,rfl,rfl⟩;clear hr;refine f9 (a2c (f6 v3.nds (S6 A ⟨_,a0g (src:=.lst nb) (L.map pnV) (λj r4 G=>∃ F,DV Z nb U t r4/\X6 U H3 G/\G U=some (.list (iL F))/\F.length<=j/\∀ m,m∈F↔∃ l,(m,l)∈L.take j/\a6y L t l) (λj r4 G X=>by refine p9 X λF _ k _=>?_;clear X;exact ⟨_,k _ _ a6 A,rfl⟩) (λr4 G Y=>?_) (λj w r4 G hw Y W4 a0 _=>?_) _ 0 _ _ (c5J _) (c5B _) ⟨[],v3,λb o _ h=>h,u,c5w _,λm=>⟨(λh=>nomatch h),λz2=>by refine i9 z2 λ_ h _=>?_;clear z2;exact nomatch h⟩⟩⟩)))
  ·refine a1m Y λF C k4 y K d=>?_;clear Y;rw [List.length_map,List.take_length] at d;rw [List.length_map] at K;have d:∀ m,m∈F↔Trn (Nl L) R8 t m:=λm=>(d m).trans (b3Q (N:=Nl L) (t:=t) (m:=m)).symm;have Fm:∀ m∈F,m∈L.map (·.1):=λm V=>by
    exact i9 (b3Q.mp ((d m).mp V)) λl h _=>c6E ⟨_,h,rfl⟩
   have T4:=T3.keepX nw k4;refine f9 (a2c (a32 (f6 C.frs (.inl ⟨F.map Int.ofNat,.inr ⟨U,rfl,by rw[(a0H ..)];exact y⟩,λx hx=>?_,λys P V c hc=>?_⟩))))
   ·refine i9 (c6D hx) λm V q2=>?_;clear hx;subst q2;have:=O.lt m (Fm m V);exact ⟨c5N _,c6P this⟩
   ·refine p9 (a5E P V) λD e2 zn zm=>?_;rw[e2];have nc:=T4.new hc;have T5:=T4.more (m4.new (o:=.list (iL D)) hc);refine a7b (f:=iV) (ys:=D) (λj S I=>DV Z nb U t S/\I c=some (.list (iL D))/\Tbl (L.map (·.1)) H I Z fs λm=>.list (iL (Dl (Nl L) R8 t m++if m∈D.take j then [t] else []))) ⟨C,l0,T5.congr λm _=>by rw[(c57 (λh=>nomatch h))];rw[(c6o ..)];rfl⟩ (λh=>h.2.1) (λS I X=>?_) λj m S I V z2 W5 a1 _=>?_
    ·refine eAA X λs _ T=>?_;clear X;refine hW _ _ ⟨s.fnd,s.nds,T.congr λm _=>?_⟩;show N2.list (iL _)=.list (iL (Dl (Nl L) R8 (t+1) m));rw[b6n];rw[c6n];by_cases h:m∈D
     ·rw[(c58 h)];rw[(c58 ((d m).mp ((zm m).mp h)))];rfl
     ·rw[(c57 h)];rw[(c57 λz=>h ((zm m).mpr ((d m).mpr z)))];rfl
    ·refine eAA z2 λs c5 T=>?_;clear z2;have a5:=c5p V;have nt:=b0o zn V;refine i9 (T.obj m (Fm m ((zm m).mp a5))) λa ha M=>?_;have M:I a=some (.list (iL (Dl (Nl L) R8 t m++if m∈D.take j then [t] else []))):=M
     rw [if_neg nt,List.append_nil] at M;have a3:(S.set w3 (iV m)) l6=some (.ref Z):=s.fnd;have ca:c≠a:=λe=>nc.2.2 m a ha e.symm;refine f9 (F0 (I5 (λ_ q=>a4R T a3 rfl ha q) M (d8 (f6 (show (S.set w3 (iV m)) U6=some (iV t) from s.dep) (i8 (G1 M (by rw[(n0 ..)];exact c5r a9C (by unfold n8;exact c5r tl (c5o rfl))) ?_))))))
     rw[a1o];refine a1 _ _ ⟨⟨s.fnd,s.nds,s.frs,s.dep⟩,(C8 ca).trans c5,(T.set ha).congr λx _=>?_⟩;rw[c6k];rw[V];rw[(show (some m).toList=[m] from rfl)];by_cases h:x=m
     ·clear a3 M ha nt a5 V;subst h;rw[(c58 rfl)];rw[(c58 (c5E _ (c6M rfl)))];rfl
     ·rw[(c57 h)];by_cases J:x∈D.take j
      ·rw[(c58 J)];rw[(c58 (c5D _ J))];rfl
      ·rw[(c57 J)];rw[(c57 λz=>(c6H z).elim J λz=>h (c6I z))];rfl
  ·refine a1m Y λF C k4 y K d=>?_;clear Y;rw [List.getElem?_map] at hw;refine i9 (c6G hw) λp P q4=>?_;subst q4;obtain ⟨m,l⟩:=p;have a4:=(c6C P).1;have ll:=O.len;refine ⟨_,a00,a9V O tp tl (T3.keepX nw k4) ⟨C.fnd,C.nds,C.frs,C.dep⟩ y (by exact c5r K (c5r (c6f a4) ll)) (c5p P) rfl rfl λr' H' F' v' k' a2 al=>a0 _ _ ⟨F',v',k4.trans k',a2,?_,λx=>?_⟩⟩
   ·rcases al with ⟨_,rfl⟩ | ⟨_,rfl⟩
    ·rw[c50];exact c6x K
    ·exact Nat.le_succ_of_le K
   ·rw[c6k];rw[P];have mem:∀ {B:List Nat},(x,B)∈L.take j++(some (m,l)).toList↔(x,B)∈L.take j\/(x,B)=(m,l):=λ{B}=>by
     refine D5 (List.mem_append ..) ?_;rw[(show (some (m,l)).toList=[(m,l)] from rfl)];refine D5 (List.mem_singleton ..) ?_;rfl
    rcases al with ⟨ru,rfl⟩ | ⟨ru,rfl⟩
    ·refine D5 (List.mem_append ..) ?_;refine D5 (d x ..) ?_;refine D5 (List.mem_singleton ..) ?_;constructor
     ·rintro (⟨B,h1,J⟩ | rfl)
      ·exact ⟨B,mem.mpr (.inl h1),J⟩
      ·exact ⟨l,mem.mpr (.inr rfl),ru⟩
     ·rintro ⟨B,h1,J⟩
      rcases mem.mp h1 with h1 | h1
      ·exact .inl ⟨B,h1,J⟩
      ·exact .inr (Prod.mk.inj h1).1
    ·refine D5 (d x ..) ?_;constructor
     ·rintro ⟨B,h1,J⟩
      exact ⟨B,mem.mpr (.inl h1),J⟩
     ·rintro ⟨B,h1,J⟩
      rcases mem.mp h1 with h1 | h1
      ·exact ⟨B,h1,J⟩
      ·exact c59 ((Prod.mk.inj h1).2▸J) ru
theorem b3U {β:Type} {f:β->f7} {fs:List (Nat×β)} {z:Int} (h:z < 0):B4 (dM f fs) (.int z)=none:=a6c λp _ e=>by
 have:=f7.int.inj e;exact Int.not_lt.mpr (c5N _) (Int.lt_of_le_of_lt (Int.le_of_eq this) h)
theorem b1g {xs:List (Nat×Unit)} {z:Int} {Q:F7} (h:H a=some (.dict (dM tt xs) ep)) (q:∀ b,(b=true↔0<=z/\z.toNat∈xs.map (·.1))->Q b H):P0 .isin (.int z) (.ref a) H Q:=by
 refine .inr (.inr (.inr ⟨a,_,ep,rfl,h,⟨rfl,λp J=>?_⟩,?_⟩))
 ·refine i9 (c6D J) λx _ O=>?_;clear J;subst O;rfl
 ·by_cases B:0<=z
  ·refine eE (Int.eq_ofNat_of_zero_le B) λd U=>?_;subst U;refine q _ ?_;rw[a22];rw[Option.isSome_map];rw[(Int.toNat_natCast ..)];refine D5 (P1 ..) ?_;exact ⟨λh=>⟨B,h⟩,λh=>h.2⟩
  ·refine q _ ?_;rw[(b3U (by exact Int.not_le.mp B))]
   exact ⟨(λh=>nomatch h),λh=>c59 h.1 B⟩
theorem b60 {l:List f7} (B:l.length<=n8) (q:Q (.int (l.length:Nat)) H):biW .len [.tup l] H Q:=⟨.tup l,l,rfl,.inl (.inl rfl),B,q⟩
theorem b1k {β:Type} {f:β->f7} {xs:List (Nat×β)} (h:H a=some (.dict (dM f xs) ep)) (q:R (.keys a (iL (xs.map (·.1))) ep) H):itV (.ref a) H R:=.inr (.inr (.inr ⟨a,_,ep,rfl,h,by rw[(a1r ..)];exact q⟩))
theorem a6h {β:Type} {f:β->f7} {xs:List (Nat×β)} (h:H a=some (.dict (dM f xs) ep)):(Src.keys a (iL (xs.map (·.1))) ep).next H i ((xs.map (·.1)).map iV)[i]?:=⟨_,h,a1r ..,rfl⟩
theorem c3M {α:Type} {l:List α} (h:l.length=2):∃ a b,l=[a,b]:=by
 cases l with
 | nil=>cases h
 | cons a l =>
  refine eE (List.length_eq_one_iff.mp (Nat.succ.inj h)) λb q=>?_;clear h;subst q;exact ⟨a,b,rfl⟩
structure SK (L:List (Nat×List Nat)) (t u:Nat) (A:Prop) (m:Nat) (xs:List (Nat×Unit)):Prop where
 nd:(xs.map (·.1)).Nodup
 so:∀ s∈xs.map (·.1),Trn (Nl L) szO s m/\s<=u
 all:∀ s,s < t->Trn (Nl L) szO s m->s∈xs.map (·.1)
 now:A->t∈xs.map (·.1)
noncomputable def a9E (L:List (Nat×List Nat)) (t u:Nat) (A:Nat->Prop) (o:Nat->N2):Prop:=∀ m∈L.map (·.1),∃ xs ep,o m=.dict (dM tt xs) ep/\SK L t u (A m) m xs
noncomputable def a6z (L:List (Nat×List Nat)) (t:Nat) (ks:List Nat):Prop:=ks=[]/\t=1\/(∃ k,ks=[k]/\Trn (Nl L) szO (t - 1) k)\/∃ k l u,ks=[k,l]/\Trn (Nl L) szO u k/\u<=t - 1/\Trn (Nl L) szO (t - 1 - u) l
theorem b5s (O:LOk L) {t m:Nat}:Trn (Nl L) szO t m↔∃ ks,(m,ks)∈L/\a6z L t ks:=by
 refine D5 ((b9k (N:=Nl L) λm ks h=>O.two _ h) ..) ?_;constructor
 ·rintro (⟨h,e⟩ | ⟨k,h,e⟩ | ⟨k,l,u,h,e⟩)
  ·exact ⟨_,h,.inl ⟨rfl,e⟩⟩
  ·exact ⟨_,h,.inr (.inl ⟨k,rfl,e⟩)⟩
  ·exact ⟨_,h,.inr (.inr ⟨k,l,u,rfl,e⟩)⟩
 ·rintro ⟨ks,h,(⟨rfl,e⟩ | ⟨k,rfl,e⟩ | ⟨k,l,u,rfl,e⟩)⟩
  ·exact .inl ⟨h,e⟩
  ·exact .inr (.inl ⟨k,h,e⟩)
  ·exact .inr (.inr ⟨k,l,u,h,e⟩)
end
variable {t:Nat}{o:Nat->N2}{A:Nat->Prop}{hs:List Int}
structure SV (fa nb t:Nat) (r:En):Prop where
 thr:r D1=some (.ref fa)
 nds:r r9=some (.ref nb)
 big:r a0J=some (.int (t:Nat))
theorem b31 (T:Tbl (L.map (·.1)) H0 H fa fs o) (Z:a9E L t t A o) (c:r D1=some (.ref fa)) (b:r n6=some (.tup (iL ks))) (two:ks.length<=2) (Y:ks[i]?=some k) (J:k∈L.map (·.1)) (q:∀ a xs ep,fs.lookup k=some a->H a=some (.dict (dM tt xs) ep)->SK L t t (A k) k xs->Q (.ref a) H):m9 (d6 D1) (m9 (d6 n6) (j7 (.int (i:Nat)))) K r H Q:=by
 refine eE T.dict λU V=>i9 (T.obj k J) λa B O=>u6 (Z k J) λxs ep e d=>?_;rw [e] at O;exact B7 (f6 c (B7 (f6 b (m3 (a7h (by rw[(n0 ..)];unfold n8;exact zo0 two) (b1c Y) (a1W V B (q a xs ep B O d)))))))
theorem c0S (O:LOk L) (C:0 < t) (tl:t<=100) (T:Tbl (L.map (·.1)) H0 H fa fs o) (Z:a9E L t t A o) (v:SV fa nb t r) (R:(m,ks)∈L) (j:r n6=some (.tup (iL ks)))
  (q:∀ V b,m4 H V->(b=true↔a6z L t ks)->W .next (r.set Y7 (.bool b)) V) :
  G6 (o7 .eq (O3 .len (d7 (d6 n6) h9)) (j7 (.int 2)))
    (d9 (p7 (l5 Y7) (R0 (o7 .ne (t8 (d6 X9) [X9] true (w7 (m9 (d6 D1) (m9 (d6 n6) (j7 (.int 0))))) (A8 (o7 .isin (A6 .sub (A6 .sub (d6 a0J) (j7 (.int 1))) (d6 X9)) (m9 (d6 D1) (m9 (d6 n6) (j7 (.int 1))))) y9)) (G9 h9))))
    j9)
    (d9 (p7 (l5 Y7) (a3L (o7 .eq (d6 n6) (z0 h9)) (R0 (o7 .eq (d6 a0J) (j7 (.int 1)))) (R0 (o7 .isin (A6 .sub (d6 a0J) (j7 (.int 1))) (m9 (d6 D1) (m9 (d6 n6) (j7 (.int 0))))))))
    j9) K r H W:=by
 classical
 have B:ks.length<=2:=O.two _ R;have kid:∀ k∈ks,k∈L.map (·.1):=O.kid _ R;have U:∀ {k c} {s:Nat},SK L t t (A k) k c->s < t->(s∈c.map (·.1)↔Trn (Nl L) szO s k):=λJ h=>⟨λz=>(J.so _ z).1,J.all _ h⟩;refine J7 (t0 (M0 (d8 (f6 j (i8 (b60 (by rw[(n0 ..)];unfold n8;exact zo0 B) (m3 (a1S ⟨λz=>?_,λz=>?_⟩))))))))
 ·obtain ⟨k,l,rfl⟩:∃ k l,ks=[k,l]:=c3M (by rw [n0] at z;exact Int.ofNat.inj (c5y z))
  have kl:=kid l (c5t _ (c5u));refine f9 (t7 (a0Z (t0 (a2A (b31 (i:=0) T Z v.thr j B rfl (kid k (c5u)) λa c X ha y J=>b1k y ?_)))));have F:∀ {w:f7},(r.set X9 w) n6=some (.tup (iL [k,l])):=j;have xl:(c.map (·.1)).length<=101:=I6 (n:=101) J.nd λs hs=>by have:=(J.so s hs).2;exact c51 (c5r this tl)
  let p:Nat->Bool:=λu=>decide (u<=t - 1/\Trn (Nl L) szO (t - 1 - u) l)
  refine O0 (l:=c.map (·.1)) (f:=iV) (g:=flt p) (λV k i=>a6h (k _ _ y)) (c5r (a7a xl) (by unfold n8;exact c6g _ _)) (λu S V x P Y=>⟨_,D6,?_⟩) λV x d hd=>?_
  ·have Y:=Y V (.refl _);refine F6 (t0 (C5 (C5 (f6 (show (r.set X9 (iV u)) a0J=some (.int (t:Nat)) from v.big) (m3 (sub_int (f6 rfl (sub_int (b31 (i:=1) (T.more x) Z v.thr F B rfl kl λa' ys a0 a1 G I=>b1g G λb E=>?_)))))))));have M:p u=b:=by
    refine D5 (Bool.eq_iff_iff ..) ?_;refine D5 (E ..) ?_;rw[decide_eq_true_eq];by_cases h:u<=t - 1
    ·have e:((t:Int) - 1 - (u:Int)).toNat=t - 1 - u:=by exact c4B
     rw[e];refine D5 ((U I (by exact c5v (Nat.sub_le _ _) (Nat.sub_lt C Nat.one_pos))) ..) ?_
     exact ⟨λz=>⟨by exact Int.sub_nonneg.mpr (Int.le_sub_right_of_add_le (c6Q (Nat.add_le_of_le_sub C h))),z.2⟩,λz=>⟨h,z.2⟩⟩
    ·exact ⟨λz=>c59 z.1 h,λz=>c59 z.1 (c1P h)⟩
   cases b with
   | true=>rw [a8F M] at Y;exact ⟨λ_=>V1 ⟨λ_=>f6 rfl Y,(λz=>nomatch z)⟩,(λz=>nomatch z)⟩
   | false=>rw [a6d M] at Y;exact ⟨(λz=>nomatch z),λ_=>⟨(λz=>nomatch z),λ_=>Y⟩⟩
  ·refine b0l l0 λe he=>y0 (q _ _ (x.trans ((m4.new hd).trans (.new he))) ?_);rw[(Bool.not_eq_true' ..)];refine D5 (Bool.eq_false_iff ..) ?_;rewrite [Ne];refine D5 (a9Z ..) ?_;constructor
   ·intro h;refine c5O λw=>h λu S=>c5Y λz=>w (.inr (.inr ⟨k,l,u,rfl,(J.so u S).1,z⟩))
   ·rintro (⟨h,_⟩ | ⟨_,h,_⟩ | ⟨x,l',u,h,D,Q,h3⟩) z
    ·cases h
    ·cases h
    ·injection h with e1 h
     injection h with e2 h
     subst e1 e2;have:=z u ((U J (by exact c5v Q (Nat.sub_lt C Nat.one_pos))).mpr D)
     rw [decide_eq_false_iff_not] at this;exact this ⟨Q,h3⟩
 ·have nt:¬ks.length=2:=λe=>c6j z (by rw[(n0 ..)];rw[e];rfl)
  refine f9 (t7 (a9y (t0 (f6 j (D2 (i8 (b09 ⟨λz=>a0Z (t0 (f6 v.big (m3 (a1S (y0 (q _ _ (.refl _) ?_)))))),λz=>?_⟩)))))))
  ·obtain rfl:=List.isEmpty_iff.mp z;rw[decide_eq_true_eq];constructor
   ·exact λh=>.inl ⟨rfl,Int.ofNat.inj h⟩
   ·rintro (⟨_,h⟩ | ⟨_,h,_⟩ | ⟨_,_,_,h,_⟩)
    ·rw[h];rfl
    ·cases h
    ·cases h
  ·obtain ⟨k,rfl⟩:∃ k,ks=[k]:=List.length_eq_one_iff.mp (by
    have:ks.length≠0:=λe=>by rw [List.eq_nil_of_length_eq_zero e] at z;cases z
    exact Nat.le_antisymm (c5L (c6v B nt)) (Nat.pos_of_ne_zero this))
   have N:(t:Int) - 1=((t - 1:Nat):Int):=by exact (Int.ofNat_sub C).symm
   refine a0Z (t0 (C5 (f6 v.big (m3 (sub_int (b31 (i:=0) T Z v.thr j B rfl (kid k (c5u)) λa c X ha y J=>b1g y λb E=>y0 (q _ _ (.refl _) ?_)))))));refine D5 (E ..) ?_;rw[N];rw[(Int.toNat_natCast ..)];refine D5 (U J (c4h N) ..) ?_;constructor
   ·exact λh=>.inr (.inl ⟨k,rfl,h.2⟩)
   ·rintro (⟨h,_⟩ | ⟨x,h,D⟩ | ⟨_,_,_,h,_⟩)
    ·cases h
    ·injection h with e
     subst e;exact ⟨c5N _,D⟩
    ·cases h
noncomputable def b0Y (L:List (Nat×List Nat)) (most m:Nat):Option Nat->Prop
 | some s=>s<=most/\Trn (Nl L) szO s m/\∀ w,Trn (Nl L) szO w m->s<=w
 | none=>∀ w,Trn (Nl L) szO w m->most < w
noncomputable def oV:Option Nat->f7
 | some s=>iV s
 | none=>.none
theorem b2B (x:Nat) (l:List Nat):∃ s,s∈x :: l/\b4N ((x :: l).map Int.ofNat)=(s:Nat)/\∀ y∈x :: l,s<=y:=by
 show ∃ s,s∈x :: l/\List.foldl min (x:Int) (l.map Int.ofNat)=(s:Nat)/\_;induction l generalizing x with
 | nil=>exact ⟨x,c5u,rfl,λy hy=>by rw[(c6I hy)];exact c5w _⟩
 | cons a l U =>
  rw[c6a];rw[List.foldl_cons];rw[(show min (x:Int) (Int.ofNat a)=((min x a:Nat):Int) by show min (x:Int) (a:Int)=_;exact c27)]
  refine p9 (U (min x a)) λs J O q=>?_;have B:=q _ (c5u);refine ⟨s,?_,O,λy hy=>?_⟩
  ·rcases c6K J with h | h
   ·rcases c5Z x a with w | w
    ·rw [Nat.min_eq_left w] at h;exact h▸c5u
    ·rw [Nat.min_eq_right w] at h;exact h▸c5t _ (c5u)
   ·exact c5t _ (c5t _ h)
  ·rcases c6K hy with rfl | hy
   ·exact c5r B (Nat.min_le_left _ _)
   ·rcases c6K hy with rfl | hy
    ·exact c5r B (Nat.min_le_right _ _)
    ·exact q y (c5t _ hy)
section
variable {t:SetTable}{o:N2}{A:Around}{n most:Nat}
theorem SK.put {t m:Nat} {A B:Prop} {xs:List (Nat×Unit)} (s:SK L t t A m xs) (h:Trn (Nl L) szO t m):SK L t t B m (put xs t ()):=by
 have q:=a5F (fs:=xs) (k:=t) (v:=());cases e:(xs.lookup t).isSome with
 | true =>
  rw [e,if_pos rfl] at q;have O:=P1.mpr e;rw [<- q] at O;exact ⟨q▸s.nd,q▸s.so,q▸s.all,λ_=>O⟩
 | false =>
  rw [e,if_neg Bool.false_ne_true] at q;have new:t∉xs.map (·.1):=λz=>by rw [P1,e] at z;cases z
  refine ⟨q▸U7 s.nd new,λx J=>?_,λx U J=>?_,λ_=>?_⟩
  ·rw [q] at J;exact (c6H J).elim (s.so x) λz=>by rw[(c6I z)];exact ⟨h,c5w _⟩
  ·rw[q];exact c5D _ (s.all x U J)
  ·rw[q];exact c5E _ (c6M rfl)
theorem a9p {c t:Nat} {o:Nat->N2} (O:LOk L) (tp:0 < t) (tl:t<=100) (X:H nb=some (.list (L.map pnV))) (T:Tbl (L.map (·.1)) H H1 c fs o) (Z:a9E L t (t - 1) (λ_=>False) o) (v:SV c nb t r)
  (hW:∀ r' R o',SV c nb t r'->Tbl (L.map (·.1)) H R c fs o'->a9E L (t+1) t (λ_=>False) o'->W .next r' R) :
  (d9 (Q6 [w3,n6] false (w7 (d6 r9))
   (d9 (G6 (o7 .eq (O3 .len (d7 (d6 n6) h9)) (j7 (.int 2)))
    (d9 (p7 (l5 Y7) (R0 (o7 .ne (t8 (d6 X9) [X9] true (w7 (m9 (d6 D1) (m9 (d6 n6) (j7 (.int 0))))) (A8 (o7 .isin (A6 .sub (A6 .sub (d6 a0J) (j7 (.int 1))) (d6 X9)) (m9 (d6 D1) (m9 (d6 n6) (j7 (.int 1))))) y9)) (G9 h9))))
    j9)
    (d9 (p7 (l5 Y7) (a3L (o7 .eq (d6 n6) (z0 h9)) (R0 (o7 .eq (d6 a0J) (j7 (.int 1)))) (R0 (o7 .isin (A6 .sub (d6 a0J) (j7 (.int 1))) (m9 (d6 D1) (m9 (d6 n6) (j7 (.int 0))))))))
    j9))
   (d9 (G6 (a2C (d6 Y7))
    (d9 (p7 (a0W (m9 (d6 D1) (d6 w3)) (d6 a0J)) (j7 (.bool true)))
    j9)
    j9)
   j9)))
  j9) K r H1 W:=by
 refine f9 (a2c (f6 v.nds (S6 (T.keep _ _ X) ⟨_,a0g (src:=.lst nb) (L.map pnV) (λj D u=>∃ l,SV c nb t D/\Tbl (L.map (·.1)) H u c fs l/\a9E L t t (λm=>∃ C,(m,C)∈L.take j/\a6z L t C) l) (λj D u z1=>by refine p9 z1 λ_ _ g _=>?_;clear z1;exact ⟨_,g.keep _ _ X,rfl⟩) (λD u y=>?_) (λj w D u hw y W2 A _=>?_) _ 0 _ _ (c5J _) (c5B _) ⟨o,v,T,λm k=>let ⟨E,G,e,s⟩:=Z m k;⟨E,G,e,s.nd,λx U=>⟨(s.so x U).1,c5r (s.so x U).2 (Nat.sub_le t 1)⟩,s.all,λz2=>by refine i9 z2 λ_ h _=>?_;clear z2;exact nomatch h⟩⟩⟩)))
 ·refine p9 y λl J g i=>?_;clear y;refine hW D u l J g λm k=>u6 (i m k) λE G e s=>⟨E,G,e,s.nd,s.so,λx lt U=>?_,λh=>h.elim⟩;by_cases e:x=t
  ·clear lt i J hW v Z tl tp;subst e;refine s.now ?_;rw[(c5q ..)];rw[c6n];exact (b5s O).mp U
  ·exact s.all x (c29 lt e) U
 ·refine p9 y λl J g i=>?_;clear y;rw [List.getElem?_map] at hw;refine i9 (c6G hw) λp hp q2=>?_;subst q2;obtain ⟨m,C⟩:=p;have d:=c5p hp;have k:m∈L.map (·.1):=c6E ⟨_,d,rfl⟩;have tk:∀ {I:Nat},(∃ B,(I,B)∈L.take (j+1)/\a6z L t B)->(∃ B,(I,B)∈L.take j/\a6z L t B)\/I=m/\a6z L t C:=λ{I} z3=>by
   refine i9 z3 λB h1 S=>?_;clear z3;rw [List.take_add_one,hp,List.mem_append] at h1;rcases h1 with h1 | h1
   ·exact .inl ⟨B,h1,S⟩
   ·have e:=Prod.mk.inj (c6I h1);exact .inr ⟨e.1,e.2▸S⟩
  refine ⟨_,a00,f9 (c0S O tp tl g i ⟨J.thr,J.nds,J.big⟩ d rfl λH3 b k3 hb=>?_)⟩;have F:=g.more k3;refine i9 (F.obj m k) λa ha ho=>u6 (i m k) λE G e P=>?_;rw [e] at ho;refine f9 (J7 (a2W (f6 rfl ⟨b,rfl,λz=>?_,λz=>?_⟩)))
  ·have ru:=hb.mp z;have xl:E.length<=101:=by
    have:=I6 (n:=101) P.nd λs hs=>by have:=(P.so s hs).2;exact c51 (c5r this tl)
    rwa [c5q] at this
   refine f9 (t7 (m3 (a7R (f:=tt) (v:=()) (λ_ q=>a4R F (show _=some (f7.ref c) from J.thr) rfl ha q) (o9 (show _=some (iV t) from J.big)) ho (by unfold n8;exact c5r xl (c6g _ _)) λa0=>?_)))
   refine A _ _ ⟨_,⟨J.thr,J.nds,J.big⟩,F.set ha,λx U=>?_⟩;by_cases M:x=m
   ·clear e ha tk k hw hp;subst M;rw[(c58 rfl)];exact ⟨_,_,rfl,P.put ((b5s O).mpr ⟨C,d,ru⟩)⟩
   ·rw[(c57 M)];exact u6 (i x U) λQ Y N V=>⟨Q,Y,N,V.nd,V.so,V.all,λh=>V.now ((tk h).resolve_right λh=>M h.1)⟩
  ·refine A _ _ ⟨l,⟨J.thr,J.nds,J.big⟩,F,λx U=>?_⟩;exact u6 (i x U) λQ Y N V=>⟨Q,Y,N,V.nd,V.so,V.all,λh=>V.now ((tk h).resolve_right λh=>by rw [hb.mpr h.2] at z;cases z)⟩
noncomputable def Res (xs:List (Nat×Unit)):Option Nat->Prop
 | some s=>xs≠[]/\b4N ((xs.map (·.1)).map Int.ofNat)=(s:Nat)
 | none=>xs=[]
theorem b9G {xs:List (Nat×Unit)} (s:SK L (most+1) most False m xs):∃ v,Res xs v/\b0Y L most m v:=by
 have J:∀ x∈xs.map (·.1),x<=most:=λx V=>(s.so x V).2;cases xs with
 | nil=>exact ⟨none,rfl,λw B=>Nat.lt_of_not_le λh=>nomatch s.all w (c51 h) B⟩
 | cons p xs =>
  refine p9 (b2B p.1 (xs.map (·.1))) λv q O U=>⟨some v,⟨(λe=>nomatch e),O⟩,J v q,(s.so v q).1,λw B=>?_⟩
  by_cases h:w < most+1
  ·exact U w (s.all w h B)
  ·have:=J v q;exact c5r this (Nat.le_of_succ_le (Nat.le_of_not_lt h))
theorem b5a (res:Nat->Option Nat) (ks:List Nat):(ks.map λm=>a0q (iV m,oV (res m)))=(ks.map λm=>(((m:Nat):Int),oV (res m))).map λp=>a0q (.int p.1,p.2):=by rw[c55];rfl
theorem b6E (res:Nat->Option Nat) (ks:List Nat):A9 ((ks.map λm=>(((m:Nat):Int),oV (res m))).map λp=>(.int p.1,p.2))=dM oV (tab (ks.map λm=>(m,res m))):=by
 refine Eq.trans ?_ (a9s (f:=oV) (ks.map λm=>(m,res m)) []);unfold dM A9;rw[c55];rw[c55];rfl
theorem b0H (O:LOk L) (K:H nb=some (.list (L.map pnV))) (U:most<=50) (q:∀ p u fs,m4 H p->(∃ ep,p u=some (.dict (dM oV fs) ep))->(∀ m∈L.map (·.1),∃ v,fs.lookup m=some v/\b0Y L most m v)->Q (.ref u) p):(j3 FT (n+1)).call 0 a1t [.ref nb,.int (most:Nat)] H Q:=by
 refine o8 rfl rfl (f9 (t7 (b59 (e0:=a0e) (o0:=.dict [] 0) (λr H Q h=>a30 h) rfl K O.len λH1 u fs T1=>y0 ?_)));have Z1:a9E L 1 0 (λ_=>False) λ_=>.dict [] 0:=λm _=>⟨[],0,rfl,c6r,(λs h=>nomatch h),λs B Y=>by have:=b0K Y;exact (c21 B this).elim,λh=>h.elim⟩
 have D:((most:Int)+1 - 1).toNat=most:=by exact c5z Int.toNat (Int.add_sub_cancel _ _)
 refine f9 (a5r (d8 (m3 (d8 (C5 (f6 rfl (m3 (K7 (i8 (a6w (by unfold n8;exact c20) (by unfold n8;exact c22 U) ⟨_,a0g (src:=.seq (C7 1 ((most:Int)+1))) _ (λi C E=>∃ o,C D1=some (.ref u)/\C r9=some (.ref nb)/\Tbl (L.map (·.1)) H E u fs o/\a9E L (i+1) i (λ_=>False) o) (λ_ _ _ _=>rfl) (λC E x=>?_) (λi v C E t x W hW _=>?_) _ 0 _ _ (c5J _) (c5B _) ⟨_,rfl,rfl,T1,Z1⟩⟩))))))))))
 ·refine J9 x λo B Y T Z=>?_;clear x;unfold C7 at Z;rw [List.length_map,List.length_range,D] at Z;refine eE (a2a (l:=L.map (·.1)) (β:=Option Nat) (P:=λm v=>∃ V ep,o m=.dict (dM tt V) ep/\Res V v/\b0Y L most m v) λm U=>by
   refine u6 (Z m U) λV ep e s=>?_;refine i9 (b9G s) λv B Y=>?_;exact ⟨v,V,ep,e,B,Y⟩) λres j=>?_
  refine eE T.dict λa0 N=>?_;have R:(fs.map (·.1)).length<=n8:=by
   have B:=T.len;have Y:=O.len;rw [List.length_map] at B ⊢;unfold n8;exact c5r (c5r B Y) (c5o rfl)
  refine f9 (A4 (M0 (d8 (a2A (f6 B (b1k N (O0 (l:=fs.map (·.1)) (f:=iV) (g:=λm=>[a0q (iV m,oV (res m))]) (λp k i=>a6h (k _ _ N)) (by rw[(B1 ..)];rw[(c5q ..)];exact R) (λm U p k P w=>⟨_,D6,G4 ?_⟩) λp k c hc=>i8 (?_:biW .dict _ _ _))))))))
  ·have y:=(T.keys m).mp U;refine i9 ((T.more k).obj m y) λa M I=>j8 (j m y) λV ep e b _=>?_;rw [e] at I;have A:(C.set w3 (iV m)) D1=some (.ref u):=B;refine D2 (d8 (f6 rfl (d8 (a9y (t0 (a4R (T.more k) A rfl M (a30 λd J=>.inr ⟨a,d,_,_,_,rfl,rfl,m4.new J _ _ I,l0,?_⟩)))))));have k2:=k.trans (m4.new (o:=.dict [] 0) J);have w:=w _ (m4.new (o:=.dict [] 0) J)
   cases t:res m with
   | none =>
    rw [t] at b w;have b:V=[]:=b;clear e I;subst b;exact ⟨(λz=>nomatch z),λ_=>m3 (i8 w)⟩
   | some s =>
    rw [t] at b w;have G:(dM tt V).isEmpty=false:=by
     cases V with
     | nil=>exact c59 rfl b.1
     | cons _ _=>rfl
    rw[G];refine ⟨λ_=>M0 (d8 (a4R (T.more k2) A rfl M (i8 ⟨a,(V.map (·.1)).map Int.ofNat,rfl,⟨_,ep,m4.new J _ _ I,by rw[(a1r ..)];rw[(a0H ..)];rfl⟩,λe=>b.1 (List.map_eq_nil_iff.mp (List.map_eq_nil_iff.mp e)),?_⟩))),(λz=>nomatch z)⟩
    rw[b.2];exact i8 w
  ·rw[(B1 ..)];refine ⟨c,(fs.map (·.1)).map λm=>((m:Nat),oV (res m)),rfl,?_,?_,λep ga F=>?_⟩
   ·rw[l0];rw[(b5a ..)];rfl
   ·rw[(c5q ..)];exact R
   ·rw[(b6E ..)];refine q _ ga _ (T.keep.trans (k.trans ((m4.new hc).trans (.new F)))) ⟨ep,l0⟩ λm U=>?_;refine eE (c6J ((a3w (m:=m) ((fs.map (·.1)).map λm=>(m,res m)) []).2 (.inr (c6E ⟨_,c6E ⟨m,(T.keys m).mpr U,rfl⟩,rfl⟩)))) λv t=>?_;refine ⟨v,t,?_⟩;have:=((a3w (m:=m) ((fs.map (·.1)).map λm=>(m,res m)) []).1 v t).resolve_left λh=>nomatch h
    refine i9 (c6D this) λm' _ e=>eA (Prod.mk.inj e) λD e2=>?_;clear e this t;subst D e2;exact j8 (j _ U) λ_ _ _ _ h=>h
 ·refine J9 x λo B Y T Z=>?_;clear x;refine eA (a9e D t) λhi q1=>?_;clear t;subst q1;refine ⟨_,D6,a9p O (c53 i) (by exact c5r (c5r hi U) (c5o rfl)) K T Z ⟨B,Y,rfl⟩ λr' p o' S X Z'=>hW _ _ ⟨o',S.thr,S.nds,X,Z'⟩⟩
inductive Rc (N:Nat->List Nat->Prop) (c:Nat):Nat->Prop
 | base:Rc N c c
 | step {a k:Nat} {ks:List Nat}:Rc N c a->N a ks->k∈ks->Rc N c k
theorem c0M {d:Nat} {Q:F7} (h:H a=some (.list (iL l))) (q:∀ b,(b=true↔d∈l)->Q b H):P0 .isin (.int (d:Nat)) (.ref a) H Q :=
 b8i h (λz=>q true ⟨λ_=>z,λ_=>rfl⟩) λz=>q false ⟨(λh=>nomatch h),λh=>c59 h z⟩
theorem b7d {d:Nat} {Q:F7} (h:H a=some (.list (iL l))) (q:∀ b,(b=true↔d∈l)->Q (!b) H):P0 .notin (.int (d:Nat)) (.ref a) H Q:=c0M (Q:=λb H=>Q (!b) H) h q
theorem b0n {xs ys:List Nat} (h:xs.Nodup) (i:∀ x∈xs,x∈ys) (le:ys.length<=xs.length):∀ y∈ys,y∈xs:=λy B=>by
 refine c5O λw=>?_;have:=a0o (U7 h w) (m:=ys) λa q=>(c6H q).elim (i a) λe=>c6I e▸B;rw [List.length_append] at this;have:xs.length+1<=ys.length:=this;exact c3e le this
variable {sc:Scope}{m0:Nat}
structure BV (nb sa:Nat) (m:Int) (r:En):Prop where
 nds:r r9=some (.ref nb)
 see:r J5=some (.ref sa)
 man:r J4=some (.int m)
structure Sn (L:List (Nat×List Nat)) (m0:Nat) (xs:List Nat):Prop where
 nd:xs.Nodup
 rc:∀ x∈xs,Rc (Nl L) m0 x
 st:m0∈xs
theorem Sn.lt (O:LOk L) (h0:m0∈L.map (·.1)) {xs:List Nat} (S:Sn L m0 xs):xs.length<=17:=I6 S.nd λx J=>O.lt x (by
 have:=S.rc x J;induction this with
 | base=>exact h0
 | step _ B q _=>exact O.kid _ B _ q)
theorem a9H {C m:Nat} {N:Int} {ks xs:List Nat} (O:LOk L) (h0:m0∈L.map (·.1)) (S:Sn L m0 xs) (v:BV nb C N r) (M:H1 C=some (.list (iL xs))) (a:(m,ks)∈L) (hm:r t9=some (.int (m:Nat))) (U:r n6=some (.tup (iL ks)))
  (q:∀ Q J T ys,m4 H1 J->BV nb T N Q->J T=some (.list (iL ys))->Sn L m0 ys->xs.length<=ys.length->(∀ x∈xs,x∈ys)->(m∈xs->∀ k∈ks,k∈ys)->W .next Q J) :
  (d9 (p7 (l5 J5) (A6 .add (d6 J5) (t8 (d6 m7) [m7] true (w7 (D3 (d6 n6))) (A8 (A8 (o7 .isin (d6 t9) (d6 J5)) (A8 (o7 .notin (d6 m7) (d6 J5)) y9)) y9))))
   j9) K r H1 W:=by
 classical
 have a0:ks.length<=2:=O.two _ a;have xl:=S.lt O h0
 let p:Nat->Bool:=λk=>decide (m∈xs/\k∉xs)
 refine f9 (t7 (C5 (f6 v.see (a2A (a32 (f6 U (.inl ⟨ks.map Int.ofNat,.inl (by rw[(a0H ..)];rfl),λx hx=>?_,λys w u c H=>?_⟩)))))))
 ·refine i9 (c6D hx) λk U q1=>?_;clear hx;subst q1;exact ⟨c5N _,c6P (O.lt k (O.kid _ a k U))⟩
 ·refine p9 (a5E w u) λB e F E=>?_;rw[e];have D:B.length<=17:=I6 F λk U=>O.lt k (O.kid _ a k ((E k).mp U));refine S6 l0 (O0 (l:=B) (f:=iV) (g:=flt p) (λJ k i=>⟨_,k _ _ l0,rfl⟩) (c5r (a7a D) (by unfold n8;exact c6g _ _)) (λk U J n P V=>⟨_,D6,?_⟩) λJ n d I=>?_)
  ·have Z:=n _ _ (m4.new (o:=.list (iL B)) H _ _ M);have V:=V J (.refl _);have R:(r.set m7 (iV k)) J5=some (.ref C):=v.see;refine F6 (F6 (t0 (f6 (show (r.set m7 (iV k)) t9=some (iV m) from hm) (f6 R (c0M Z λb G=>⟨λz=>F6 (t0 (f6 rfl (f6 R (b7d Z λX Y=>⟨λs=>V1 ⟨λ_=>V1 ⟨λ_=>f6 rfl ?_,(λz=>nomatch z)⟩,(λz=>nomatch z)⟩,λs=>⟨(λz=>nomatch z),λ_=>⟨(λz=>nomatch z),λ_=>?_⟩⟩⟩)))),λz=>⟨(λz=>nomatch z),λ_=>⟨(λz=>nomatch z),λ_=>?_⟩⟩⟩)))))
   ·rwa [a8F (show p k=true from c6h ⟨G.mp z,λh=>by rw [Y.mpr h] at s;cases s⟩)] at V
   ·rwa [a6d (show p k=false from c5Y λh=>h.2 (Y.mp (by clear Y;cases X <;> first | rfl | cases s)))] at V
   ·rwa [a6d (show p k=false from c5Y λh=>by rw [G.mpr h.1] at z;cases z)] at V
  ·have A:=((m4.new (o:=.list (iL B)) H).trans n).trans (m4.new (o:=.list (B.flatMap (flt p))) I);have ef:B.flatMap (flt p)=iL (B.filter p):=by
    clear F E D n I A e;induction B with
    | nil=>rfl
    | cons z B ih =>
     rw[List.flatMap_cons];rw[ih];cases j:p z with
     | true=>rw[(a8F j)];rw[(List.filter_cons_of_pos j)];rfl
     | false=>rw[(a6d j)];refine b9 (List.filter_cons_of_neg (by rw[j];exact c5F)) ?_;rfl
   have mem:∀ k,k∈B.filter p↔k∈ks/\m∈xs/\k∉xs:=λk=>by refine D5 (List.mem_filter ..) ?_;rw[decide_eq_true_eq];refine D5 (E ..) ?_;rfl
   have fl:(B.filter p).length<=17:=c5r (List.length_filter_le ..) D;have t:(J.set d (.list (B.flatMap (flt p)))) d=some (.list (iL (B.filter p))):=by rw[l0];rw[ef];rfl
   refine add_list (A _ _ M) t (by rw[(n0 ..)];rw[(n0 ..)];unfold n8;exact c5r (c6q xl fl) (c5o rfl)) λg hg=>y0 ?_
   refine q _ _ g (xs++B.filter p) (A.trans (.new hg)) ⟨v.nds,rfl,v.man⟩ ?_ ⟨List.nodup_append.mpr ⟨S.nd,F.filter _,λx hx y w e=>((mem y).mp w).2.2 (e▸hx)⟩,λx hx=>?_,c5D _ S.st⟩ ?_ (λx hx=>c5D _ hx) λhx k U=>?_
   ·rw[l0];unfold iL;rw[c54];rfl
   ·rcases c6H hx with hx | hx
    ·exact S.rc x hx
    ·exact eAA ((mem x).mp hx) λh1 h2 _=>.step (S.rc m h2) a h1
   ·rw[c50];exact c5M _ _
   ·by_cases h:k∈xs
    ·exact c5D _ h
    ·exact c5E _ ((mem k).mpr ⟨U,hx,h⟩)
theorem a9I (O:LOk L) (h0:m0∈L.map (·.1)) (I:H nb=some (.list (L.map pnV))) (q:∀ A a xs,m4 H A->A a=some (.list (iL xs))->xs.Nodup->(∀ x,x∈xs↔Rc (Nl L) m0 x)->Q (.ref a) A):(j3 FT (n+1)).call 0 Y4 [.ref nb,.int (m0:Nat)] H Q:=by
 refine o8 rfl rfl (f9 (t7 (D2 (d8 (a0x (d8 (f6 rfl (i8 λs0 E=>d8 (m3 (i8 (a3g (.inl rfl) ?_)))))))))));refine f9 (a5t (λk G i=>∃ d xs m,m4 H i/\BV nb d ((m:Nat):Int) G/\i d=some (.list (iL xs))/\Sn L m0 xs/\(xs.length<=m->∀ p∈L,p.1∈xs->∀ k∈p.2,k∈xs)/\k=18 - m) _ ⟨s0,[m0],0,.new E,⟨rfl,rfl,rfl⟩,l0,⟨List.nodup_cons.mpr ⟨c5P,c6r⟩,λx B=>c6I B▸.base,c6M rfl⟩,(λh=>c59 h (Nat.not_succ_le_zero 0)),rfl⟩ λk G i Z W hW=>?_)
 obtain ⟨d,xs,m,y,v,s,S,cl,rfl⟩:=Z;have P:=S.lt O h0;have J:(iL xs).length<=n8:=by rw[(n0 ..)];unfold n8;exact c5r P (c5o rfl)
 refine t0 (M0 (d8 (f6 v.see (i8 (D8 s J (f6 v.man (gt_int ⟨λt=>?_,λt=>?_⟩)))))))
 ·have t:=c5y t;rw [n0] at t;refine f9 (t7 (M0 (d8 (f6 v.see (i8 (D8 s J (y0 ?_)))))));rw[(n0 ..)];refine f9 (a2c (f6 (show (G.set J4 (.int (xs.length:Nat))) r9=some (.ref nb) from v.nds) (S6 (y _ _ I) ⟨_,a0g (src:=.lst nb) (L.map pnV) (λj z Y=>∃ f U,m4 i Y/\BV nb f ((xs.length:Nat):Int) z/\Y f=some (.list (iL U))/\Sn L m0 U/\xs.length<=U.length/\(∀ x∈xs,x∈U)/\(∀ p∈L.take j,p.1∈xs->∀ k∈p.2,k∈U)) (λj z Y R=>by refine u6 R λ_ _ c _=>?_;clear R;exact ⟨_,(y.trans c) _ _ I,rfl⟩) (λz Y Z=>?_) (λj w z Y K Z W2 D _=>?_) _ 0 _ _ (c5J _) (c5B _) ⟨d,xs,.refl _,⟨v.nds,v.see,rfl⟩,s,S,c5w _,λx h=>h,λp h=>nomatch h⟩⟩)))
  ·obtain ⟨f,U,c,g,C,l,N,u,o⟩:=Z;rw [List.length_map,List.take_length] at o;have yl:=l.lt O h0;refine hW _ _ _ ?_ ⟨f,U,xs.length,y.trans c,g,C,l,λle p r B k V=>?_,rfl⟩
   ·exact Nat.sub_lt_sub_left (c5G (Int.ofNat_lt.mp t) (Nat.le_succ_of_le P)) (Int.ofNat_lt.mp t)
   ·exact o p r (b0n S.nd u le _ B) k V
  ·obtain ⟨f,U,c,g,C,l,N,u,o⟩:=Z;rw [List.getElem?_map] at K;refine i9 (c6G K) λp r q2=>?_;subst q2;clear K;obtain ⟨m',ks⟩:=p;refine ⟨_,a00,a9H O h0 l ⟨g.nds,g.see,g.man⟩ C (c5p r) rfl rfl λr3 H3 sc zs k3 v3 h3 T l3 M X=>D _ _ ⟨sc,zs,c.trans k3,v3,h3,T,c5r N l3,λx B=>M x (u x B),λF b B k V=>?_⟩⟩;rw [List.take_add_one,r] at b
   rcases c6H b with h | h
   ·exact M k (o F h B k V)
   ·have e:=Prod.mk.inj (c6I h:(F.1,F.2)=(m',ks));rw [e.2] at V;rw [e.1] at B;exact X (u _ B) k V
 ·have t:=c6j t;rw [n0] at t;refine f9 (A4 (f6 v.see ?_));refine q _ d xs y s S.nd λx=>⟨S.rc x,λh=>?_⟩;induction h with
  | base=>exact S.st
  | step _ hn V ih=>exact cl (by exact Int.ofNat_le.mp (Int.not_lt.mp t)) _ hn ih _ V
noncomputable def LOf (st:St) (mk:List Nat) (L:List (Nat×List Nat)):Prop:=∀ p,p∈L↔∃ (i:Nat) (x:G7),st.nd[i]?=some x/\p=(o5 mk i,x.2.map (o5 mk))
structure Mx (lf:List (Nat×Nat)) (st:St) (mk:List Nat) (L:List (Nat×List Nat)) (zs:List Nat):Prop where
 I:I7 lf st
 like:∀ i j,i < st.up.length->j < st.up.length->(o5 mk i=o5 mk j↔g8 st.up i=g8 st.up j)
 back:∀ i,i < st.up.length->g8 st.up (o5 mk i)=g8 st.up i
 lt:∀ i,i < st.up.length->o5 mk i < st.up.length
 of:LOf st mk L
 zn:zs.Nodup
 zm:∀ m,m∈zs↔∃ i,i < st.up.length/\m=o5 mk i
end
variable {t:SetTable}{o:N2}{d:Nat}
theorem Mx.rlt (X:Mx lf st mk L zs) (h:i < st.up.length):g8 st.up i < st.up.length:=E9 X.I.up X.I.lt i h
theorem Mx.rr (X:Mx lf st mk L zs) (h:i < st.up.length):g8 st.up (g8 st.up i)=g8 st.up i:=a0b X.I.up h
theorem Mx.mr (X:Mx lf st mk L zs) (h:i < st.up.length):o5 mk (g8 st.up i)=o5 mk i:=(X.like _ _ (X.rlt h) h).mpr (X.rr h)
theorem Mx.t1 (X:Mx lf st mk L zs) (ha:a < st.up.length) (h:Kn st a ks):Nl L (o5 mk a) (ks.map (o5 mk)):=by
 refine i9 h λz q O=>?_;clear h;refine j8 q λi x B e J=>?_;clear q;subst J;subst O;refine (X.of _).mpr ⟨i,x,B,?_⟩;rw[((X.like _ _ (X.I.nlt B) ha).mpr e)];show (_,(x.2.map (g8 st.up)).map (o5 mk))=_;rw[c55];exact c5z (Prod.mk _) (c5C λk U=>X.mr (X.I.kid x (c5p B) k U))
theorem Mx.t2 (X:Mx lf st mk L zs) (h:Nl L m ks):Kn st (g8 st.up m) (ks.map (g8 st.up))/\m < st.up.length:=by
 refine u6 ((X.of _).mp h) λi x B e=>eA (Prod.mk.inj e) λO U=>?_;subst O;clear e h;subst U;have q:=X.I.nlt B;refine ⟨⟨_,⟨i,x,B,by rw[(X.back i q)];rw[(X.rr q)];rfl,rfl⟩,?_⟩,X.lt i q⟩
 rw[c55];exact c5C λk J=>(X.back k (X.I.kid x (c5p B) k J)).symm
theorem Mx.trn (X:Mx lf st mk L zs) (O:i < st.up.length):Trn (Nl L) ov d (o5 mk i)↔Trm st ov d i:=by
 have nds:∀ {z:G7},Nds st (g8 st.up i) z↔Nds st i z:=by unfold Nds;rw[(X.rr O)];rfl
 constructor
 ·intro h;have:=b7R (φ:=g8 st.up) (λc r h=>(X.t2 h).1) h;rw [X.back i O] at this;clear h;obtain ⟨⟨z,o,e⟩,U,l⟩:=this;exact .mk ⟨z,nds.mp o,e⟩ U l
 ·intro h;have V:∀ {d c:Nat},Trm st ov d c->c < st.up.length->Trn (Nl L) ov d (o5 mk c):=λh=>by
   induction h with
   | @mk c r ds hn U _ ih =>
    intro g;refine .mk (X.t1 g hn) (by rw[(c5q ..)];exact U) λq d k j f=>?_
    rw [List.getElem?_map] at f;refine i9 (c6G f) λp B a=>?_;subst a;refine ih q d p j B (i9 hn λz J Z=>?_);clear hn;refine j8 J λi x m _ Y=>?_;clear J;subst Y;clear ih U;subst Z;refine i9 (c6D (c5p B)) λy n b=>?_;clear f B;subst b;exact X.rlt (X.I.kid x (c5p m) y n)
  exact V h O
theorem Mx.klt (X:Mx lf st mk L zs) (h:Kd st c k):k < st.up.length/\g8 st.up k=k:=by
 refine i9 h λz B J=>?_;clear h;refine j8 B λi x O _ q=>?_;clear B;subst q;refine i9 (c6D J) λy U V=>?_;clear J;subst V;have:=X.I.kid x (c5p O) y U;exact ⟨X.rlt this,X.rr this⟩
theorem Mx.rch_lt (X:Mx lf st mk L zs) (ha:a < st.up.length) (h:Rch st a k):k < st.up.length/\g8 st.up k=k:=by
 cases h with
 | base=>exact ⟨X.rlt ha,X.rr ha⟩
 | step _ h=>exact X.klt h
theorem Mx.rc1 (X:Mx lf st mk L zs) (ha:a < st.up.length) (h:Rch st a k):Rc (Nl L) (o5 mk a) (o5 mk k):=by
 induction h with
 | base=>rw[(X.mr ha)];exact .base
 | step h q O =>
  revert q;intro B;refine i9 B λz J q=>?_;clear B;exact .step O (X.t1 (X.rch_lt ha h).1 ⟨z,J,rfl⟩) (c6E ⟨_,q,rfl⟩)
theorem Mx.rc2 (X:Mx lf st mk L zs) (ha:a < st.up.length) (h:Rc (Nl L) (o5 mk a) m):Rch st a (g8 st.up m):=by
 induction h with
 | base=>rw[(X.back a ha)];exact .base
 | step _ B q O =>
  exact i9 ((X.t2 B).1) λz J e=>.step O ⟨z,J,by rw[e];exact c6E ⟨_,q,rfl⟩⟩
theorem Mx.few (X:Mx lf st mk L zs) (n:l.Nodup) (h:∀ c∈l,c < st.up.length/\g8 st.up c=c):l.length<=zs.length:=by
 have e:(l.map (o5 mk)).Nodup:=by
  unfold List.Nodup at n ⊢;refine D5 (List.pairwise_map ..) ?_;refine List.Pairwise.imp_of_mem (λU V a e=>a ?_) n;refine eA (h _ U) λq B=>eA (h _ V) λJ O=>?_;refine u7 B ?_;refine u7 O ?_;exact (X.like _ _ q J).mp e
 have:=a0o e (m:=zs) λm Z=>by
  refine i9 (c6D Z) λc Y b=>?_;clear Z;subst b;exact (X.zm _).mpr ⟨c,(h c Y).1,rfl⟩
 rwa [c5q] at this
noncomputable def cnt (st:St) (c:Nat):Nat:=((List.range c).filter λr=>g8 st.up r==r).length
theorem b8W {b c:Nat} (h:b<=c):cnt st b<=cnt st c:=(List.Sublist.filter _ (List.range_sublist.mpr h)).length_le
theorem b3O (h:g8 st.up c=c):cnt st (c+1)=cnt st c+1:=by
 unfold cnt;rw[List.range_succ];rw[(List.filter_append ..)];rw[c50];refine b9 (List.filter_cons_of_pos (by rw[h];exact c6m c)) ?_;rfl
theorem Mx.most (X:Mx lf st mk L zs) (h:c<=st.up.length):cnt st c<=zs.length :=
 X.few (List.nodup_range.filter _) λr J=>by
  exact eA (List.mem_filter.mp J) λq B=>⟨c5G (c6O q) h,c6u B⟩
theorem Mx.low (X:Mx lf st mk L zs):∀ c,c < st.up.length->g8 st.up c=c->∃ d,Trm st R8 d c/\d<=cnt st (c+1):=by
 intro c;induction c using Nat.strongRecOn with
 | ind c h =>
  intro J e;have V:st.nd[c]?=some _:=c5s (by rw[X.I.eqn];exact J)
  generalize st.nd[c]'(by rw[X.I.eqn];exact J)=x at V
  have B:∀ k∈(x8 st.up x).2,∃ d,Trm st R8 d k/\d<=Mine.Internal.cnt st c:=λk B=>by
   refine i9 (c6D B) λy g i=>?_;clear B;subst i;have O:=X.I.low c x V y g;have Z:=b1C X.I.up y (c6i O J);exact i9 (h (g8 st.up y) (c5v Z O) (X.rlt (c6i O J)) (X.rr (c6i O J))) λd a b=>⟨d,a,c5r b (b8W (c5v Z O))⟩
  refine eE (a2a B) λf Y=>⟨_,.mk (ds:=(x8 st.up x).2.map f) ⟨_,⟨c,x,V,rfl,rfl⟩,rfl⟩ (c5q ..) λq d k U B=>?_,?_⟩
  ·rw[(a3h U B)];exact (Y k (c5p B)).1
  ·rw[(b3O e)];rw[(Nat.add_comm ..)];refine c5I (a4b λd U=>?_) 1;refine i9 (c6D U) λk B j=>?_;clear U;subst j;exact (Y k B).2
theorem Mx.short (X:Mx lf st mk L zs) (q:c < st.up.length) (B:g8 st.up c=c):∃ d,Trm st R8 d c/\d<=zs.length :=
 (X.low c q B).imp λ_=>And.imp_right λz=>c5r z (X.most q)
theorem Mx.pump (X:Mx lf st mk L zs) (ha:a < st.up.length) (F:Fnd st a fs):∀ k c,Rch st a c->fs.lookup c=none->∃ d,k < d/\d<=zs.length+k/\Trm st R8 d c:=by
 intro k;induction k with
 | zero =>
  intro c Y _;exact eA (X.rch_lt ha Y) λZ b=>i9 (X.short Z b) λd V g=>⟨d,a6X V,g,V⟩
 | succ k v =>
  intro c Y t;refine i9 (F.cl c Y t) λB U n=>i9 U λz o J=>?_;clear U;refine p9 (v B (.step Y ⟨z,o,J⟩) n) λd p r s=>?_;have O:∀ l∈z.2,∃ e,Trm st R8 e l/\e<=zs.length+k/\(l=B->e=d):=λl m=>by
   by_cases e:l=B
   ·exact ⟨d,e▸s,r,λ_=>rfl⟩
   ·exact eA (X.klt ⟨z,o,m⟩) λZ b=>i9 (X.short Z b) λu V g=>⟨u,V,by exact c5r g (c5M _ _),λh=>c59 h e⟩
  refine eE (a2a O) λf j=>⟨R8 (z.2.map f),?_,?_,.mk ⟨z,o,rfl⟩ (c5q ..) λq d k i J=>?_⟩
  ·have:=a46 (c6E ⟨B,J,rfl⟩:f B∈z.2.map f);rw [(j B J).2.2 rfl] at this;unfold R8;exact c5G (Nat.succ_lt_succ (c5G p this)) (c5K (Nat.add_comm _ 1))
  ·have:mx (z.2.map f)<=zs.length+k:=a4b λd i=>by
    refine i9 (c6D i) λl m w=>?_;clear i;subst w;exact (j l m).2.1
   unfold R8;exact c5r (c5K (Nat.add_comm 1 _)) (c6x this)
  ·rw[(a3h i J)];exact (j _ (c5p J)).1
variable {d:Addr}
theorem Mx.head (X:Mx lf st mk L zs) (q:i < st.up.length) {v:Nat} (h:a6L st R8 i v):(Dl (Nl L) R8 (2 * zs.length+1) (o5 mk i))[0]?=some v:=by
 refine i9 (X.short (X.rlt q) (X.rr q)) λd J O=>?_;have B:=(X.trn (X.rlt q)).mpr J;rw [X.mr q] at B;have:=h.2 d ((X.trn q).mp B);exact b6l ((X.trn q).mpr h.1) (by exact c51 (c5r (c5r this O) (Nat.le_mul_of_pos_left _ Nat.two_pos))) λw U=>h.2 w ((X.trn q).mp U)
theorem Mx.last (X:Mx lf st mk L zs) (J:i < st.up.length) (F:Fnd st i fs):∃ d,(Dl (Nl L) R8 (2 * zs.length+1) (o5 mk i)).getLast?=some d/\((fs.lookup (g8 st.up i)=some d/\d<=zs.length)\/(fs.lookup (g8 st.up i)=none/\zs.length < d)):=by
 have V:∀ {d:Nat},Trm st R8 d (g8 st.up i)↔Trn (Nl L) R8 d (o5 mk i):=λ{d}=>by
  have:=X.trn (ov:=R8) (d:=d) (X.rlt J);rw [X.mr J] at this;exact this.symm
 cases e:fs.lookup (g8 st.up i) with
 | some g =>
  refine eA (F.val _ g e) λa B=>eA a λq U=>?_;clear a;have O:=X.few F.nd λc b=>X.rch_lt J (F.rch c b);rw [List.length_map] at O;exact ⟨g,b6m (V.mp q) (by exact c51 (c5r (c5r B O) (Nat.le_mul_of_pos_left _ Nat.two_pos))) λw _ f=>U w (V.mpr f),.inl ⟨rfl,c5r B O⟩⟩
 | none =>
  refine p9 (X.pump J F zs.length _ .base e) λd q U B=>?_;have hm:d∈Dl (Nl L) R8 (2 * zs.length+1) (o5 mk i):=U5.mpr ⟨by exact c51 (c5r U (c5K (Nat.two_mul _).symm)),V.mp B⟩
  have Z:=b3n (N:=Nl L) (ov:=R8) (t:=2 * zs.length+1) (m:=o5 mk i);generalize Dl (Nl L) R8 (2 * zs.length+1) (o5 mk i)=l at hm Z;obtain ⟨Y,x,rfl⟩:∃ Y x,l=Y++[x]:=⟨l.dropLast,l.getLast (List.ne_nil_of_mem hm),(List.dropLast_concat_getLast _).symm⟩;refine ⟨x,List.getLast?_concat,.inr ⟨rfl,?_⟩⟩;rcases c6H hm with hm | hm
  ·have:=(List.pairwise_append.mp Z).2.2 d hm x (c6M rfl);exact c6i q this
  ·rw [List.mem_singleton.mp hm] at q;exact q
section
variable {A:Around}{n:Nat}
theorem b41 (q:∀ B g,m4 H B->Gr lay B g->Q (.ref g) B):b2H (j3 FT (n+1)) w6 [.ref (lay (.eg 0))] H Q:=λa d V J O=>by
 refine o8 rfl rfl (f9 (t7 (f6 rfl (f6 (K:=j3 FT n) (Q:=λo U=>a5u o w5 (.ref (lay (.eg 0))) U _) rfl ⟨w6,d,[],⟨a,rfl,l0,(C8 λe=>O e.symm).trans l0⟩,c5B _,?_⟩))));refine ⟨rfl,q _ a ((((m4.refl H).put J).put V).put J) ⟨d,(C8 O).trans l0,l0⟩⟩
theorem b93 (h:e K r H λv q=>(b0E v q λys=>Q (.int ys.length) q)\/b0G v q λys=>Q (.int ys.length) q):a4t e K r H Q:=h
theorem b7W {elt:Ev} {es:Lv} {ifs:Cv} (h:es K r H λvs q=>itR vs q λsrc B=>∃ n,a01 (a3z [x] true r (a2g elt ifs K)) src n 0 [] B λxs J=>alloc (.list xs) J Q):t8 elt [x] true (N4 es) ifs K r H Q:=h
theorem b9E (p:Nat×List Nat):a9n (pnV p)=true:=List.all_eq_true.mpr λv q=>by
 refine i9 (a7t q) λi _ B=>?_;clear q;subst B;rfl
theorem b1y {p q:Nat×List Nat} (h:pnV p=pnV q):p=q:=by
 injection h with h
 injection h with h1 h2
 injection h2 with h2
 injection h2 with h2
 exact Prod.ext (Int.ofNat.inj (f7.int.inj h1)) (b4k h2)
theorem b0m {lf:List (Nat×Nat)} {st:St} {am ar:Nat} (I:I7 lf st) (J:mk.length=st.nd.length) (V:H am=some (.list (iL mk))) (Y:H ar=some (.list (st.nd.map s9))) (G:r l9=some (.ref am)) (M:r t6=some (.ref ar))
  (q:∀ O b L,m4 H O->O b=some (.list (L.map pnV))->LOf st mk L->L.length<=17->Q (.ref b) O) :
  D3 (t8 (z0 (d7 (m9 (d6 l9) (d6 U1)) (d7 (O3 .tuple (d7 (t8 (m9 (d6 l9) (d6 m7)) [m7] true (w7 (a0f (m9 (d6 t6) (d6 U1)) (j7 (.int 1)))) y9) h9)) h9))) [U1] true (N4 (d7 (O3 .len (d7 (d6 t6) h9)) h9)) y9) K r H Q:=by
 have d:=I.toOk.nd;have T:(st.nd.map s9).length<=n8:=by rw[(c5q ..)];exact y7 d
 let g:Nat->Nat×List Nat:=λi=>(o5 mk i,(st.nd.getD i ("",[])).2.map (o5 mk))
 have s:∀ {i:Nat} {x:G7},st.nd[i]?=some x->g i=(o5 mk i,x.2.map (o5 mk)):=λh=>by
  show (_,(st.nd.getD _ _).2.map _)=_;rw[c5H];rw[h];rfl
 refine a32 (X5 (l:=List.range st.nd.length) (f:=iV) (g:=λi=>[pnV (g i)]) (by rw[(B1 ..)];rw[(c5q ..)];rw[c6b];exact y7 d) (b85 (y7 d) λR u=>d8 (M0 (d8 (f6 M (i8 (D8 Y T (i8 ?_))))))) (λi U O k P n=>?_) λO c k w=>.inr ?_)
 ·rw[(c5q ..)];exact u H (.refl _)
 ·have U:=c6O U;have B:st.nd[i]?=some _:=c5s U;generalize st.nd[i]=x at B;have m:=I.toOk.two x (c5p B);have n:=n;rw [s B] at n;have A:(r.set U1 (iV i)) l9=some (.ref am):=G;have C:(r.set U1 (iV i)) t6=some (.ref ar):=M;have a:mk.length<=17:=J▸d;have o:(x.2.flatMap λk=>[iV (o5 mk k)])=iL (x.2.map (o5 mk)):=by rw[(B1 ..)];unfold iL;rw[c55];rfl
  have N:(iL (x.2.map (o5 mk))).length<=n8:=by rw[(n0 ..)];rw[(c5q ..)];unfold n8;exact zo0 m
  have z:a71 (w7 (a0f (m9 (d6 t6) (d6 U1)) (j7 (.int 1)))) K (r.set U1 (iV i)) O (iL x.2):=a1p λR u=>by
   refine a5D (B7 (f6 C (f6 rfl (I4 (i:=i) (x:=s9 x) (k _ _ Y) T (by rw[c5x];rw[B];rfl) (m3 (a1z (v:=.str x.1) ?_ (u _ (.refl _))))))))
   rw[(n0 ..)];unfold n8;exact zo1 m
  refine G4 (D2 (d8 (a1P A (k _ _ V) a rfl (by rw[J];exact U) (d8 (M0 (d8 (X5 (l:=x.2) (f:=iV) (g:=λk=>[iV (o5 mk k)]) (by rw[o];exact N) z (λj hj F D P2 t=>G4 (a1P (x:=m7) (show ((r.set U1 (iV i)).set m7 (iV j)) l9=some (.ref am) from G) ((k.trans D) _ _ V) a rfl (by rw[J];rw[I.eqn];exact I.kid x (c5p B) j hj) (t F (.refl _)))) λF c D w=>i8 (a5A l0 (by rw[o];exact N) (i8 ?_)))))))))
  rw[o];exact n _ (D.trans (.new w))
 ·rw[(B1 ..)];have S:((List.range st.nd.length).map λi=>pnV (g i)).length<=17:=by rw[(c5q ..)];rw[c6b];exact d
  refine ⟨c,_,rfl,l0,S,.inr λv Z=>?_,λvs vn E e X=>?_⟩
  ·refine i9 (c6D Z) λi _ q3=>?_;clear Z;subst q3;exact b9E _
  ·have W:=a0o vn λv Z=>(E v).mp Z;refine eE (a6m (f:=pnV) (ys:=vs) λv Z=>by
    refine i9 (c6D ((E v).mp Z)) λi _ q4=>?_;clear Z;subst q4;exact ⟨_,rfl⟩) λL q5=>?_;clear vn;subst q5
   rw [List.length_map] at W;refine q _ e L (k.trans ((m4.new w).trans (.new X))) l0 (λp=>?_) (c5r W S);refine D5 ((show p∈L↔pnV p∈L.map pnV from ⟨λh=>c6E ⟨p,h,rfl⟩,λh=>by
    refine i9 (c6D h) λy hy e=>?_;refine u7 (b1y e) ?_;exact hy⟩) ..) ?_;refine D5 (E ..) ?_
   constructor
   ·intro h;refine i9 (c6D h) λi U e=>?_;have B:st.nd[i]?=some _:=c5s (c6O U);exact ⟨i,_,B,by refine u7 (b1y e) ?_;rw[(s B)];rfl⟩
   ·rintro ⟨i,x,B,rfl⟩
    exact c6E ⟨i,c6N (c6C B).1,by rw[(s B)];rfl⟩
theorem a8J {x:f7} (h:H a=some (.list xs)) (B:xs.length<=n8) (e:xs.getLast?=some x) (q:Q x H):a7g (.ref a) (.int (-1)) H Q:=by
 have O:xs≠[]:=λz=>by rw [z] at e;cases e
 have J:=List.length_pos_iff.mpr O;rw [List.getLast?_eq_getElem?] at e;refine .inr (.inl ⟨xs,-1,xs.length - 1,x,.inr ⟨a,rfl,h⟩,rfl,?_,e,q⟩);unfold a1x;rw[(c58 B)];rw[(c57 (c4z))];rw[(c58 (by exact ⟨c5y rfl,Int.neg_le_neg (c6Q J)⟩))]
 congr 1;exact c4d
theorem a97 {a b:Bool} {Q:F7} (q:Q (!(a==b)) H):P0 .isnot (.bool a) (.bool b) H Q:=.inr ⟨a,b,rfl,rfl,q⟩
open Classical in
theorem a7C {Q:F7} (B:a0M v=true) (q:Q false H):P0 .ne v v H Q:=.inl ⟨true,.inl (.inl ⟨B,B,(c6h rfl).symm⟩),q⟩
open Classical in
theorem a42 {Q:F7} (B:v≠.none->Q true H) (q:v=.none->Q false H):P0 .isnot v .none H Q:=by
 refine .inl ⟨rfl,?_⟩;by_cases h:v=.none
 ·rw[(c6h h)];exact q h
 ·rw[(c5Y h)];exact B h
theorem c3L {i j:Int} {Q:F7} (q:Q (decide (i<=j)) H):P0 .le (.int i) (.int j) H Q:=⟨i,j,rfl,rfl,q⟩
theorem b90 {c x y:Cv} {Q:F7} (h:c K r H λt q=>(t=true->x K r q Q)/\(t=false->y K r q Q)):b3G c x y K r H Q:=h
theorem b1d {d:Nat} (h:l.getLast?=some d):(iL l).getLast?=some (iV d):=by
 unfold iL;refine b9 List.getLast?_map ?_;rw[h];rfl
structure RH (lay:Slot->Nat) (C:A0) (lf:List (Nat×Nat)) (st:St) (mk:List Nat) (L:List (Nat×List Nat)) (zs:List Nat) (am g nb fa ga:Nat) (fs:List (Nat×Nat)) (gs:List (Nat×Option Nat)) (H0 H:Hp):Prop where
 S:Sy lay C H lf st
 G:Gr lay H g
 X:Mx lf st mk L zs
 O:LOk L
 ml:mk.length=st.nd.length
 hm:H am=some (.list (iL mk))
 hL:H nb=some (.list (L.map pnV))
 T:Tbl (L.map (·.1)) H0 H fa fs (oD L (2 * zs.length+1))
 sz:∃ ep,H ga=some (.dict (dM oV gs) ep)
 sr:∀ m∈L.map (·.1),∃ v,gs.lookup m=some v/\b0Y L 12 m v
 zl:zs.length<=17
structure RV (am g nb fa ga R:Nat) (a b c d:Nat) (r:En):Prop where
 mks:r l9=some (.ref am)
 gra:r M4=some (.ref g)
 nds:r r9=some (.ref nb)
 dep:r K9=some (.ref fa)
 siz:r a4w=some (.ref ga)
 man:r J4=some (.int (R:Nat))
 va:r n_a=some (.int (a:Nat))
 vb:r n_b=some (.int (b:Nat))
 vc:r n_c=some (.int (c:Nat))
 vd:r n_d=some (.int (d:Nat))
variable {d am ga:Nat}{gs:List (Nat×Option Nat)}{rest:Bv}
theorem RH.keep (R:RH lay C lf st mk L zs am g nb fa ga fs gs H0 H) {q:Hp} (k:m4 H q):RH lay C lf st mk L zs am g nb fa ga fs gs H0 q :=
 ⟨R.S.keep k,R.G.keep k,R.X,R.O,R.ml,k _ _ R.hm,k _ _ R.hL,R.T.more k,R.sz.imp λ_=>k _ _,R.sr,R.zl⟩
theorem RH.mem (R:RH lay C lf st mk L zs am g nb fa ga fs gs H0 H) (q:i < st.up.length):o5 mk i∈L.map (·.1):=by
 have B:st.nd[i]?=some _:=c5s (by rw[R.S.I.eqn];exact q)
 exact c6E ⟨_,(R.X.of _).mpr ⟨i,_,B,rfl⟩,rfl⟩
theorem RH.mark (R:RH lay C lf st mk L zs am g nb fa ga fs gs H0 H) (J:r l9=some (.ref am)) (B:i < st.up.length) (O:r x=some (.int (i:Nat))) (q:Q (.int (o5 mk i:Nat)) H):m9 (d6 l9) (d6 x) K r H Q :=
 a1P J R.hm (by rw[R.ml];exact R.S.I.nd) O (by rw[R.ml];rw[R.S.I.eqn];exact B) q
theorem RH.e_dep (R:RH lay C lf st mk L zs am g nb fa ga fs gs H0 H) (v:RV am g nb fa ga zs.length a b c d r) (B:i < st.up.length) (V:r x=some (.int (i:Nat))) (q:∀ u,H u=some (.list (iL (Dl (Nl L) R8 (2 * zs.length+1) (o5 mk i))))->Q (.ref u) H):m9 (d6 K9) (m9 (d6 l9) (d6 x)) K r H Q:=by
 exact eE R.T.dict λY J=>i9 (R.T.obj _ (R.mem B)) λu U O=>B7 (f6 v.dep (R.mark v.mks B V (a1W J U (q u O))))
theorem a9D (h:zs.length<=17):(iL (Dl (Nl L) R8 (2 * zs.length+1) m)).length<=n8:=by
 rw[(n0 ..)];exact c5r a9C (by unfold n8;exact c5v (c6p _ h) (c5o rfl))
theorem b9N (R:RH lay C lf st mk L zs am g nb fa ga fs gs H0 H) (v:RV am g nb fa ga zs.length a b c d r) (ha:a < st.up.length) (q:∀ O,m4 H O->rest (j3 FT (n+8)) r O W) :
  (d9 (G6 (o7 .isnot (l4 (d6 M4) Y6 (d7 (d6 n_a) h9)) (R0 (o7 .gt (m9 (m9 (d6 K9) (m9 (d6 l9) (d6 n_a))) (a24 (j7 (.int 1)))) (d6 J4))))
  (d9 (z5 (j7 (.bool false)))
  j9)
  j9) rest) (j3 FT (n+8)) r H W:=by
 refine f9 (J7 (t0 (W9 R.G rfl rfl (o9 v.gra) (d8 (f6 v.va (i8 (b4b (n:=n) R.S R.G ha λi Z k F=>?_)))))));have U:=R.keep k;refine i9 (R.X.last ha F) λe f V=>a0Z (t0 (B7 (U.e_dep v ha v.va λu h=>a9z (m3 ⟨1,rfl,a8J h (a9D R.zl) (b1d f) (f6 v.man (gt_int (a97 ?_)))⟩))));have Y:(!(Z.lookup (g8 st.up a)).isSome)=decide ((e:Int) > (zs.length:Nat)):=by
  rcases V with ⟨B,J⟩ | ⟨B,J⟩
  ·rw[B];rw[(c5Y (by exact Int.not_lt.mpr (c6Q J)))];rfl
  ·rw[B];rw[(c6h (by exact c6Q J))];rfl
 rw[Y];rw[(c6m ..)];exact ⟨(λz=>nomatch z),λ_=>q _ k⟩
theorem b9O (R:RH lay C lf st mk L zs am g nb fa ga fs gs H0 H) (v:RV am g nb fa ga zs.length a b c d r) (O:b < st.up.length) (q:∀ l Z,m4 H Z->RV am g nb fa ga zs.length a b c d l->rest (j3 FT (n+8)) l Z W) :
  (d9 (p7 (l5 l6) (m9 (d6 K9) (m9 (d6 l9) (d6 n_b))))
 (d9 (G6 (o7 .ne (l4 (d6 M4) a2s (d7 (d6 n_b) h9)) (z0 (d7 (m9 (d6 l6) (j7 (.int 0))) (d7 (a3L (o7 .gt (m9 (d6 l6) (a24 (j7 (.int 1)))) (d6 J4)) (a24 (j7 (.int 1))) (m9 (d6 l6) (a24 (j7 (.int 1))))) h9))))
  (d9 (z5 (j7 (.bool false)))
  j9)
  j9) rest)) (j3 FT (n+8)) r H W:=by
 refine f9 (t7 (R.e_dep v O v.vb λu p=>y0 ?_));have B:RV am g nb fa ga zs.length a b c d (r.set l6 (.ref u)):=⟨v.mks,v.gra,v.nds,v.dep,v.siz,v.man,v.va,v.vb,v.vc,v.vd⟩;have Y:(r.set l6 (.ref u)) l6=some (.ref u):=rfl;generalize r.set l6 (.ref u)=t at B Y;refine f9 (J7 (t0 (W9 R.G rfl rfl (o9 B.gra) (d8 (f6 B.vb (i8 (b4d (n:=n) R.S R.G O λf w y k s F=>?_)))))));have J:=k _ _ p
 refine i9 (R.X.last O F) λe o h=>?_;have m:=R.X.head O s;have last:∀ {Q:l8},Q (iV e) f->m9 (d6 l6) (a24 (j7 (.int 1))) (j3 FT (n+8)) t f Q:=λq=>B7 (f6 Y (a9z (m3 ⟨1,rfl,a8J J (a9D R.zl) (b1d o) q⟩)));have j:∀ x:Int,a0M (.tup [.int (w:Nat),.int x])=true:=λ_=>rfl;refine D2 (d8 (B7 (f6 Y (m3 (I4 (i:=0) J (a9D R.zl) (b1c m) (d8 (a9y (t0 (last (f6 B.man (gt_int ⟨λz=>?_,λz=>?_⟩)))))))))))
 ·have z:=c5y z;rcases h with ⟨_,V⟩ | ⟨U,_⟩
  ·exact (c4F z V).elim
  ·refine a9z (m3 ⟨1,rfl,i8 ?_⟩);rw[U];exact a7C (j _) ⟨(λz=>nomatch z),λ_=>q _ _ k B⟩
 ·have z:=c6j z;rcases h with ⟨U,_⟩ | ⟨_,V⟩
  ·refine last (i8 ?_);rw[U];exact a7C (j _) ⟨(λz=>nomatch z),λ_=>q _ _ k B⟩
  ·exact (c1M z V).elim
theorem b9P (R:RH lay C lf st mk L zs am g nb fa ga fs gs H0 H) (v:RV am g nb fa ga zs.length a b c d r) (O:c < st.up.length) (q:∀ j i,m4 H i->RV am g nb fa ga zs.length a b c d j->rest (j3 FT (n+8)) j i W) :
  (d9 (p7 (K1 [(l5 U2),(l5 Q0)]) (z0 (d7 (m9 (d6 a4w) (m9 (d6 l9) (d6 n_c))) (d7 (l4 (d6 M4) Y8 (d7 (d6 n_c) h9)) h9))))
 (d9 (G6 (b3G (o7 .isnot (d6 U2) (j7 .none)) (o7 .ne (d6 Q0) (d6 U2)) (o7 .le (d6 Q0) (j7 (.int 12))))
  (d9 (z5 (j7 (.bool false)))
  j9)
  j9) rest)) (j3 FT (n+8)) r H W:=by
 refine eE R.sz λy p=>i9 (R.sr _ (R.mem O)) λs t Z=>f9 (t7 (D2 (d8 (B7 (f6 v.siz (R.mark v.mks O v.vc (a1W p t (d8 (W9 R.G rfl rfl (o9 v.gra) (d8 (f6 v.vc (i8 (c0J (n:=n) R.S R.G O λx w k V=>i8 (a3g (.inl rfl) ?_))))))))))))));generalize U:(r.set U2 (oV s)).set Q0 (.int (w:Nat))=Y;have l:RV am g nb fa ga zs.length a b c d Y:=U▸⟨v.mks,v.gra,v.nds,v.dep,v.siz,v.man,v.va,v.vb,v.vc,v.vd⟩
 have B:Y U2=some (oV s):=U▸rfl;have J:Y Q0=some (.int (w:Nat)):=U▸rfl;clear U;have f:∀ {u:Nat},Trn (Nl L) szO u (o5 mk c)↔Trm st szO u c:=λ{u}=>R.X.trn O;refine f9 (J7 (b90 (t0 (f6 B (m3 ?_)))));cases s with
 | some s =>
  refine eAA Z λA m o=>?_;clear Z;have e:w=s:=Nat.le_antisymm (V.2 s (f.mp m)) (o w (f.mpr V.1));clear o m A t;subst e;exact a42 (λ_=>⟨λ_=>t0 (f6 J (f6 B (a7C rfl ⟨(λz=>nomatch z),λ_=>q _ _ k l⟩))),(λz=>nomatch z)⟩) λz=>nomatch z
 | none =>
  have h:=Z w (f.mpr V.1);refine a42 (λz=>c59 rfl z) λ_=>⟨(λz=>nomatch z),λ_=>t0 (f6 J (m3 (c3L ⟨λz=>?_,λ_=>q _ _ k l⟩)))⟩
  have:=c5y z;exact (c4g h this).elim
theorem a7Y {l m:List Int} (h:l.Perm m):N0 l=N0 m:=by
 have J:∀ l:List Int,(N0 l).Pairwise λa b=>decide (a<=b)=true:=λl=>List.pairwise_mergeSort (le:=λa b:Int=>decide (a<=b)) (λa b c q B=>c6h (c6l (c5y q) (c5y B))) (λa b=>by
  rcases Int.le_total a b with h | h
  ·rw[(c6h h)];rfl
  ·rw[(c6h h)];rw[(Bool.or_true ..)];rfl) l
 exact List.Perm.eq_of_pairwise (λa b _ _ q B=>Int.le_antisymm (c5y q) (c5y B)) (J l) (J m) ((List.mergeSort_perm ..).trans (h.trans (List.mergeSort_perm ..).symm))
theorem a5n {q m:Nat} (O:LOk L) (h0:q∈L.map (·.1)) (h:Rc (Nl L) q m):m∈L.map (·.1):=by
 induction h with
 | base=>exact h0
 | step _ J B _=>exact O.kid _ J _ B
theorem b5f (l:List Int):a2L (l.map f7.int)=true:=by
 induction l with
 | nil=>rfl
 | cons i l q=>exact c6R ⟨rfl,q⟩
theorem b63 {q:Lv} (O:∀ Q:l8,Q (.ref a) H->e K r H Q) (J:H a=some (.list xs)) (h:q K r H λvs B=>S8 K (.lst .index) (.ref a) a3j vs B Q):l4 e a3j q K r H Q:=O _ ⟨.lst .index,⟨⟨a,xs,rfl,J⟩,rfl⟩,h⟩
theorem b6q {v i:Nat} (h:H a=some (.list (iL l))) (J:l.length<=n8) (e:l[i]?=some v) (U:∀ j,j < i->l[j]?≠some v) (q:Q (iV i) H):S8 K (.lst .index) (.ref a) a3j [iV v] H Q:=by
 refine ⟨a,_,rfl,h,l.map Int.ofNat,v,i,rfl,by rw[c55];rfl,by rw[(c5q ..)];exact J,by rw[c5x];rw[e];rfl,λj B z=>U j B ?_,q⟩
 rw [List.getElem?_map] at z;refine i9 (c6G z) λx O z=>?_;rw[O];rw[(Int.ofNat.inj z)];rfl
theorem RH.ix (R:RH lay C lf st mk L zs am g nb fa ga fs gs H0 H) (h:m∈L.map (·.1)):∃ i,i < st.up.length/\m=o5 mk i:=by
 refine i9 (c6D h) λp q J=>?_;clear h;subst J;exact u6 ((R.X.of p).mp q) λi x B e=>⟨i,R.S.I.nlt B,(Prod.ext_iff.mp e).1⟩
theorem b9Q (R:RH lay C lf st mk L zs am g nb fa ga fs gs H0 H) (v:RV am g nb fa ga zs.length a b c d r) (U:d < st.up.length) (q:∀ x,m4 H x->W (.ret (.bool true)) r x) :
  (d9 (z5 (R0 (o7 .eq (l4 (d6 M4) Z9 (d7 (d6 n_d) h9)) (O3 .sorted (d7 (t8 (l4 (d6 l9) a3j (d7 (d6 X9) h9)) [X9] true (w7 (D0 Y4 (d7 (d6 r9) (d7 (m9 (d6 l9) (d6 n_d)) h9)))) y9) h9)))))
 j9) (j3 FT (n+6)) r H W:=by
 refine f9 (A4 (a0Z (t0 (W9 R.G rfl rfl (o9 v.gra) (d8 (f6 v.vd (i8 (a4Y (n:=n) R.S R.G U λH1 e1 xs k1 D xn xm=>M0 (d8 (a2A (M7 (d8 (f6 v.nds (d8 ?_))))))))))))) );have Q:=k1.trans (m4.new (o:=.list ((N0 (xs.map Int.ofNat)).map f7.int)) D);have A:=R.keep Q;have u:=R.mem U;refine A.mark v.mks U v.vd (i8 (a9I (n:=n+5) R.O (R.mem U) A.hL λH2 e2 B T z y J=>S6 z (O0 (l:=B) (f:=iV) (g:=λm=>[iV (g8 st.up m)]) (λx k i=>⟨_,k _ _ z,rfl⟩) ?_ (λm Z x k P M=>⟨_,D6,G4 ?_⟩) λH3 k4 e3 E=>?_)))
 ·rw[(B1 ..)];rw[(c5q ..)];exact c5r (I6 y λm Z=>R.O.lt m (a5n R.O u ((J m).mp Z))) (by unfold n8;exact c6g _ _)
 ·refine i9 (R.ix (a5n R.O u ((J m).mp Z))) λi V q2=>?_;clear Z;subst q2;have t:=(A.keep (T.trans k)).hm;have le:mk.length<=n8:=by rw[R.ml];exact y7 R.S.I.nd
  have N:=R.X.rlt V;have ml:mk.length=st.up.length:=R.ml.trans R.S.I.eqn;rw [R.X.back i V] at M;refine b63 (o9 (show (r.set X9 (iV (o5 mk i))) l9=some (.ref am) from v.mks)) t (d8 (f6 rfl (i8 (b6q t le (i:=g8 st.up i) ?_ (λj s e=>?_) (M _ (.refl _))))))
  ·refine u7 (R.X.mr V) ?_;exact Y3 (by rw[ml];exact N)
  ·have Y:=c6i s N;rw [Y3 (by rw[ml];exact Y)] at e
   have e:=(R.X.like j i Y V).mp (c5A e);have:=b1C R.S.I.up j Y;exact Nat.not_lt.mpr this (c5G s (c5K e.symm))
 ·have k5:=(T.trans k4).trans (m4.new (o:=.list (B.flatMap λm=>[iV (g8 st.up m)])) E);have e:(B.flatMap λm=>[iV (g8 st.up m)])=((B.map (g8 st.up)).map Int.ofNat).map f7.int:=by rw[(B1 ..)];rw[c55];rw[c55];rfl
  have p:B.length<=17:=I6 y λm Z=>R.O.lt m (a5n R.O u ((J m).mp Z));refine i8 (a6B (l:=(B.map (g8 st.up)).map Int.ofNat) (.inl (by rw[l0];rw[e];rfl)) (by rw[(c5q ..)];rw[(c5q ..)];exact c5v p (c5o rfl)) λe4 F=>?_)
  have k6:=k5.trans (m4.new (o:=.list ((N0 ((B.map (g8 st.up)).map Int.ofNat)).map f7.int)) F);have w:xs.Perm (B.map (g8 st.up)):=(List.perm_ext_iff_of_nodup xn ?nd).mpr λk=>?mem
  case nd =>
   unfold List.Nodup at y ⊢;refine D5 (List.pairwise_map ..) ?_;refine List.Pairwise.imp_of_mem (λha hb K e=>K ?_) y;refine i9 (R.ix (a5n R.O u ((J _).mp ha))) λi V q3=>?_;clear ha;subst q3;refine i9 (R.ix (a5n R.O u ((J _).mp hb))) λj s q4=>?_;clear K hb;subst q4;rw [R.X.back i V,R.X.back j s] at e;exact (R.X.like i j V s).mpr e
  case mem =>
   refine D5 (xm ..) ?_;refine D5 (List.mem_map ..) ?_;constructor
   ·intro h;exact eA (R.X.rch_lt U h) λh1 z=>⟨o5 mk k,(J _).mpr (R.X.rc1 U h),by rw[(R.X.back k h1)];rw[z];rfl⟩
   ·rintro ⟨m,Z,rfl⟩
    exact R.X.rc2 U ((J m).mp Z)
  have ps:∀ l:List Int,a2L (l.map f7.int)=true:=λl=>b5f l;refine a8W (k6 _ _ l0) l0 (ps _) (ps _) (λ_=>q _ (Q.trans k6)) λK=>c59 (c5z (List.map f7.int) (a7Y (w.map Int.ofNat))) K
variable {d:Addr}
theorem c0V {x y z w:Nm} {a b c d:f7} {Q:a2F} (h:a1E H u [a,b,c,d]) (q:Q ((((r.set x a).set y b).set z c).set w d) H):K1 [l5 x,l5 y,l5 z,l5 w] K u r H Q:=⟨[a,b,c,d],h,rfl,a,_,rfl,b,_,rfl,c,_,rfl,d,[],rfl,rfl,q⟩
theorem mul_int {i j:Int} (B:small i) (J:small j) (q:Q (.int (i * j)) H):a4h .mul (.int i) (.int j) H Q:=⟨i,j,rfl,rfl,B,J,q⟩
variable {d so:Nat}
theorem b0z (S:Sy lay C H lf st) (D:a1F st) (w:st.wt=[]) (s:H ar=some (.list (st.nd.map s9))) (E:H at_=some (.list (lf.map a1d))) (F:H so=some (.list [iV a,iV b,iV c,iV d])) (ha:a < st.up.length) (hb:b < st.up.length) (hc:c < st.up.length) (hd:d < st.up.length) (sm:st.up.length < 17)
  (q:∀ H',m4 H H'->Q (.bool true) H'):(j3 FT (n+9)).call 0 P9 [.ref (lay (.eg 0)),.ref ar,.ref at_,.ref so] H Q:=by
 have I:=S.I;have nl:st.nd.length<=17:=I.toOk.nd;refine o8 rfl rfl (f9 (t7 (D2 (d8 (M7 (d8 (f6 rfl (d8 (f6 rfl (i8 (b0g (n:=n+7) s E nl I.toOk.two (by rw[I.eqn];exact I.kid) I.tl (by rw[I.eqn];exact I.tlt) λH1 am mk k1 r M f=>d8 (b1Q (d8 (f6 rfl (i8 (b41 (n:=n+7) λH2 g P G=>i8 (a3g (.inl rfl) ?_)))))))))))))))))
 have like:∀ i j,i < st.up.length->j < st.up.length->(o5 mk i=o5 mk j↔g8 st.up i=g8 st.up j):=λi j B hj=>b0f I D w M f B hj;have back:∀ i,i < st.up.length->g8 st.up (o5 mk i)=g8 st.up i:=λi _=>((M.sound _ (a58 I D w) i):g8 st.up i=g8 st.up (o5 mk i)).symm;have V:∀ i,i < st.up.length->o5 mk i < st.up.length:=λi B=>by rw [<- I.eqn] at B ⊢;exact M.lt i B
 have u:=k1.trans P;refine f9 (t7 (b0m (am:=am) (ar:=ar) I M.len (P _ _ r) (u _ _ s) rfl rfl λH3 nb L W A J ll=>y0 ?_));have N:=u.trans W;have t:=(P.trans W) _ _ r;refine f9 (t7 (b93 (f6 rfl (.inl ⟨mk.map Int.ofNat,.inr ⟨am,rfl,by rw[(a0H ..)];exact t⟩,λx l=>?_,λys Z Y=>?_⟩))))
 ·refine i9 (c6D l) λm Y q5=>?_;clear l;subst q5;refine eE (List.getElem?_of_mem Y) λi B=>?_;have v:=(c6C B).1;rw [Y3 v] at B;have:=V i (by refine u7 I.eqn ?_;refine u7 M.len ?_;exact v)
  rw [Option.some.inj B] at this;exact ⟨c5N _,c6P (c6i this sm)⟩
 ·refine p9 (a5E Z Y) λo e zn zm=>?_;show l5 _ _ _ _ _ _;rw[e];rw[(n0 ..)];have X:Mx lf st mk L o:=⟨I,like,back,V,J,zn,λm=>(zm m).trans ⟨λh=>by
   refine eE (List.getElem?_of_mem h) λi B=>?_;have v:=(c6C B).1;rw [Y3 v] at B;exact ⟨i,by refine u7 I.eqn ?_;refine u7 M.len ?_;exact v,(c5A B).symm⟩,λz1=>by refine i9 z1 λi B e=>?_;clear z1;exact e▸c5p (Y3 (by rw[M.len];rw[I.eqn];exact B))⟩⟩
  have zl:o.length<=17:=I6 zn λm Y=>by
   refine i9 ((X.zm m).mp Y) λi B q1=>?_;clear Y;subst q1;have:=V i B;exact c6i this sm
  have O:LOk L:=⟨ll,λp Z=>by
   refine u6 ((J p).mp Z) λi x l q2=>?_;clear Z;subst q2;rw[(c5q ..)];exact I.toOk.two x (c5p l),λp Z k hk=>by
   refine u6 ((J p).mp Z) λi x l q3=>?_;clear Z;subst q3;refine i9 (c6D hk) λy hy q6=>?_;clear hk;subst q6;have K:st.nd[y]?=some _:=c5s (by rw[I.eqn];exact I.kid x (c5p l) y hy)
   exact c6E ⟨_,(J _).mpr ⟨y,_,K,rfl⟩,rfl⟩,λm Y=>by
   refine i9 (c6D Y) λp Z q7=>?_;subst q7;refine u6 ((J p).mp Z) λi x l q4=>?_;clear Y Z;subst q4;have:=V i (I.nlt l);show o5 mk i < 17;exact c6i this sm⟩
  refine y0 (f9 (t7 (D2 (d8 (M7 (d8 (f6 rfl (d8 (C5 (m3 (f6 rfl (mul_int (by unfold small;exact c3Y) (by unfold small;exact c4v zl) (i8 ?_)))))))))))) )
  rw[(show (2:Int) * ((o.length:Nat):Int)=((2 * o.length:Nat):Int) by exact rfl)]
  refine a8l (n:=n+7) (most:=2 * o.length) O A (by exact c5r (c6p _ zl) (c5o rfl)) λH4 fa fs T=>d8 (M7 (d8 (f6 rfl (d8 (m3 (i8 (b0H (n:=n+7) (most:=12) O (T.keep _ _ A) (by decide) λH5 ga gs k5 sz sr=>i8 (a3g (.inl rfl) ?_))))))))
  have U:=T.keep.trans k5;have k:=N.trans U;have R:RH lay C lf st mk L o am g nb fa ga fs gs H3 H5:=⟨S.keep k,G.keep (W.trans U),X,O,M.len,U _ _ t,U _ _ A,T.more k5,sz,sr,zl⟩;refine f9 (t7 (f6 rfl (c0V (.inr ⟨so,rfl,k _ _ F⟩) ?_)));refine b9N (n:=n) (a:=a) (b:=b) (c:=c) (d:=d) R ⟨rfl,rfl,rfl,rfl,rfl,rfl,rfl,rfl,rfl,rfl⟩ ha λH6 z=>b9O (n:=n) (a:=a) (b:=b) (c:=c) (d:=d) (R.keep z) ⟨rfl,rfl,rfl,rfl,rfl,rfl,rfl,rfl,rfl,rfl⟩ hb λr7 H7 k7 v7=>?_
  exact b9P (n:=n) ((R.keep z).keep k7) v7 hc λr8 H8 k8 v8=>b9Q (n:=n+2) (((R.keep z).keep k7).keep k8) v8 hd λH9 k9=>q _ (k.trans (z.trans (k7.trans (k8.trans k9))))
noncomputable def dkO (lay:Slot->Nat) (k:Nat) (ep:Nat):N2:=.dict [(.str "cells",.ref (lay (.ow 1))),(.str "spot",.int (k:Nat))] ep
theorem a56:B4 [(.str "cells",u),(.str "spot",v)] (.str "spot")=some v:=by unfold B4;simp
theorem a4O:B4 [(.str "cells",u),(.str "spot",v)] (.str "cells")=some u:=by unfold B4;simp
theorem b2a {u v w:f7}:J2 [(.str "cells",u),(.str "spot",v)] (.str "spot") w=[(.str "cells",u),(.str "spot",w)]:=by
 unfold J2;rw[a56];simp
theorem b1w (s:String):J6 [(.str "cells",u),(.str "spot",v)] (.str s):=⟨rfl,λp q=>by
 simp only [List.mem_cons,List.not_mem_nil,or_false] at q;rcases q with rfl | rfl <;> rfl⟩
structure LH (cells:List Int) (lay:Slot->Nat) (C:A0) (H:Hp) (st:St) (lf:List (Nat×Nat)) (k:Nat):Prop where
 L:J1 lay C H
 E:EG lay C st
 I:I7 lf st
 D:a1F st
 c0:∃ ep,C (.ow 0)=some (dkO lay k ep)
 c1:C (.ow 1)=some (.list (cells.map f7.int))
 c2:C (.ow 2)=some (.list (st.nd.map s9))
 c3:C (.ow 3)=some (.list (lf.map a1d))
structure Ly (lay lay':Slot->Nat):Prop where
 eg:∀ k,lay' (.eg k)=lay (.eg k)
 ow:∀ k,lay' (.ow k)=lay (.ow k)
theorem Ly.refl (lay:Slot->Nat):Ly lay lay:=⟨λ_=>rfl,λ_=>rfl⟩
theorem EG.ow {lay:Slot->Nat} {C:A0} {st:St} (E:EG lay C st):EG lay (upd C (.ow k) o) st :=
 {c0:=E.c0,c1:=E.c1,c2:=E.c2,c3:=E.c3,c8:=E.c8,c9:=E.c9,c4:=E.c4,c5:=E.c5,c6:=E.c6,c7:=E.c7,c10:=E.c10,c11:=E.c11,cl:=E.cl,c12:=E.c12,c13:=E.c13,c14:=E.c14,c15:=E.c15,c16:=E.c16,cu:=E.cu,c17:=E.c17}
theorem EG.own {lay:Slot->Nat} {C:A0} {st:St} (E:EG lay C st):EG (M6 lay (.ow k) a) (upd C (.ow k) o) st :=
 {c0:=E.c0,c1:=E.c1,c2:=E.c2,c3:=E.c3,c8:=E.c8,c9:=E.c9,c4:=E.c4,c5:=E.c5,c6:=E.c6,c7:=E.c7,c10:=E.c10,c11:=E.c11,cl:=E.cl,c12:=E.c12,c13:=E.c13,c14:=E.c14,c15:=E.c15,c16:=E.c16,cu:=E.cu,c17:=E.c17}
variable {d:Addr}{cells:List Int}{H':Hp}
theorem LH.keep (X:LH cells lay C H st lf k) (z:m4 H H'):LH cells lay C H' st lf k:=⟨X.L.keep z,X.E,X.I,X.D,X.c0,X.c1,X.c2,X.c3⟩
theorem a7v {i j:Int} (h:0 < j) (q:Q (.int (i % j)) H):a4h .mod (.int i) (.int j) H Q:=⟨i,j,rfl,rfl,h,q⟩
theorem b35 {i j:Int} (h:0 < j) (B:j < 1073741824) (q:Q (.int (i / j)) H):a4h .fdiv (.int i) (.int j) H Q:=⟨i,j,rfl,rfl,h,B,q⟩
theorem V0 {i:Int} (q:0<=i) (B:i<=1000000):small i:=by unfold small;exact c36 q B
theorem draw (X:LH cells lay C H st lf k) (h:cells.length<=50) (J:k<=1000) {many:Nat} (Y:0 < many) (q:∀ e b (j:Nat),j < many->LH cells lay e b st lf (k+1)->Q (.int (j:Nat)) b):(j3 FT (n+1)).call 0 w9 [.ref (lay (.ow 0)),.int (many:Nat)] H Q:=by
 refine eE X.c0 λl Z=>?_;have L:=X.L;refine o8 rfl rfl (f9 (t7 (B7 (f6 rfl (m3 (a0h (L.at_ _ _ Z) (b1w _) a56 (y0 ?_)))))));refine f9 (t7 (C5 (f6 rfl (m3 (K7 (a2e (o9 rfl) (λ_ q=>q) (L.at_ _ _ Z) (b1w _) (by show 2<=1000000;decide) ?_))))))
 rw[b2a];rw[(show ((k:Nat):Int)+1=((k+1:Nat):Int) from rfl)];generalize dep _ _ _=B;have O:J1 lay (upd C (.ow 0) (dkO lay (k+1) B)) (H.set (lay (.ow 0)) (dkO lay (k+1) B)):=L.put Z;have d:(upd C (.ow 0) (dkO lay (k+1) B)) (.ow 0)=some (dkO lay (k+1) B):=C0;have a:(upd C (.ow 0) (dkO lay (k+1) B)) (.ow 1)=some (.list (cells.map f7.int)):=(j5 (by decide)).trans X.c1
 have U:∀ x:Int,Q (.int (x % (many:Nat))) (H.set (lay (.ow 0)) (dkO lay (k+1) B)):=λx=>by
  have f:=Int.emod_nonneg x (show ((many:Nat):Int)≠0 by exact Int.natCast_ne_zero_iff_pos.mpr Y)
  have c:=Int.emod_lt_of_pos x (show (0:Int) < ((many:Nat):Int) by exact Int.natCast_pos.mpr Y)
  refine eE (Int.eq_ofNat_of_zero_le f) λj g=>?_;rw [g] at c ⊢;exact q _ _ j (by exact Int.ofNat_lt.mp c) ⟨O,X.E.ow,X.I,X.D,⟨B,C0⟩,a,X.c2,X.c3⟩
 have V:(cells.map f7.int).length<=n8:=by rw[(c5q ..)];unfold n8;exact c5r h (c6g _ _)
 have i:(9:Int) * (k:Nat)=((9 * k:Nat):Int):=by exact rfl
 refine f9 (A4 (C5 (a9y (t0 (f6 rfl (M0 (d8 (B7 (f6 rfl (m3 (a0h (x:=.ref (lay (.ow 1))) (O.at_ _ _ d) (b1w _) a4O (i8 (D8 (O.at_ _ _ a) V (lt_int ⟨λt=>?_,λ_=>?_⟩))))))))))))) )
 ·have t:=c5y t;rw [List.length_map] at t;have J:k < cells.length:=by exact Int.ofNat_lt.mp t
  exact B7 (B7 (f6 rfl (m3 (a0h (x:=.ref (lay (.ow 1))) (O.at_ _ _ d) (b1w _) a4O (f6 rfl (I4 (x:=.int cells[k]) (O.at_ _ _ a) V (by rw[c5x];rw[(c5s J)];rfl) (f6 (v:=.int (many:Nat)) rfl (a7v (by exact Int.natCast_pos.mpr Y) (U _)))))))))
 ·refine C5 (C5 (C5 (C5 (C5 (m3 (f6 rfl (mul_int (V0 (by exact c5N _) (by exact c5N _)) (V0 (c5N k) (b98 J)) (f6 rfl (mul_int ?_ (V0 (c5N k) (b98 J)) (C5 (m3 (f6 rfl (mul_int (V0 (by exact c5N _) (by exact c5N _)) (V0 (c5N k) (b98 J)) (K7 (m3 (K7 (m3 (b35 (by exact c5N _) (by exact c5N _) (f6 (v:=.int (many:Nat)) rfl (a7v (by exact Int.natCast_pos.mpr Y) (U _)))))))))))))))))))))
  rw[i];exact V0 (c5N _) (c4s J)
variable {lay':Slot->Nat}{C':A0}{st':St}
theorem LH.same (X:LH cells lay C H st lf k) (s:O9 lay C lay' C') (q:st'.nd=st.nd) (L:J1 lay' C' H') (E:EG lay' C' st') (I:I7 lf st') (D:a1F st'):LH cells lay' C' H' st' lf k :=
 ⟨L,E,I,D,X.c0.imp λ_ h=>by rw[(s.con ..)];rw[h];unfold dkO;rw[(s.lay ..)];rfl,by rw[(s.con ..)];exact X.c1,by rw[(s.con ..)];rw[q];exact X.c2,by rw[(s.con ..)];exact X.c3⟩
theorem O9.ly (s:O9 lay C lay' C'):Ly lay lay':=⟨s.eg,s.lay⟩
theorem LH.row (X:LH cells lay C H st lf k) {x:G7} (s:O9 lay C lay' C') (J:st'.nd=st.nd++[x]) (L:J1 lay' C' H') (E:EG lay' C' st') (I:I7 lf st') (D:a1F st'):C' (.ow 2)=some (.list (st.nd.map s9))/\LH cells lay' (upd C' (.ow 2) (.list (st.nd.map s9++[s9 x]))) (H'.set (lay' (.ow 2)) (.list (st.nd.map s9++[s9 x]))) st' lf k:=by
 have q:C' (.ow 2)=some (.list (st.nd.map s9)):=by rw[(s.con ..)];exact X.c2
 refine ⟨q,L.put q,E.ow,I,D,?_,?_,?_,?_⟩
 ·exact eE X.c0 λB h=>⟨B,by rw[(j5 (by decide))];rw[(s.con ..)];rw[h];unfold dkO;rw[(s.lay ..)];rfl⟩
 ·rw[(j5 (by decide))];rw[(s.con ..)];exact X.c1
 ·rw[C0];rw[J];rw[c54];rfl
 ·rw[(j5 (by decide))];rw[(s.con ..)];exact X.c3
theorem b9b {m:Nm} {q:Lv} {K:Nat} (X:LH cells lay C H st lf k) (O:(FT w4 m).isSome=true) (J:a0i (a7e lay) m=none) (U:∀ Q:l8,Q (.ref (lay (.eg 0))) H->e (j3 FT K) r H Q) (h:q (j3 FT K) r H λvs B=>(j3 FT K).call w4 m (.ref (lay (.eg 0)) :: vs) B Q):l4 e m q (j3 FT K) r H Q :=
 C6 O (X.L.at_ _ _ X.E.c0) (X.L.at_ _ _ X.E.c1) J U h
theorem added (X:LH cells lay C H st lf k) (O:st.nd.length < 16) {c:Char} (y:97<=c.toNat) (z:c.toNat<=122) (two:ks.length<=2) (G:∀ k∈ks,k < st.nd.length)
  (q:∀ B e Y J,LH cells B e Y J lf k->Ly lay B->0 < J.nd.length->st.nd.length<=J.nd.length->J.nd.length<=st.nd.length+1->Q (.bool true) Y) :
  (j3 FT (n+6)).call 0 K3 [.ref (lay (.eg 0)),.ref (lay (.ow 2)),.str (String.singleton c),.tup (iL ks)] H Q:=by
 have Z:∀ {l:List G7},l.length<=17->(l.map s9).length<=n8:=λh=>by rw[(c5q ..)];exact y7 h
 have a:∀ {H:Hp} {r:En} {Q:l8},r a18=some (.str (String.singleton c))->r n6=some (.tup (iL ks))->Q (s9 (String.singleton c,ks)) H->A6 .add (z0 (d7 (d6 a18) h9)) (d6 n6) (j3 FT (n+5)) r H Q:=λF U q=>C5 (D2 (d8 (f6 F (i8 (f6 U (a4G (by rw[(n0 ..)];show 1+_<=_;unfold n8;exact zo8 two) q))))))
 have o:a0M (s9 (String.singleton c,ks))=true:=by
  show (true&&V8 19 (iL ks))=true;rw[(a4v ..)];rfl
 refine o8 rfl rfl (f9 (t7 (b9b X rfl rfl (o9 rfl) (d8 (f6 rfl (d8 (f6 rfl (i8 (c3E (n:=n) (x:=(String.singleton c,ks)) X.L X.E X.I X.D (by refine u7 X.I.eqn ?_;exact Nat.le_succ_of_le O) rfl y z two (by refine u7 X.I.eqn ?_;exact G) (λp g=>y0 ?_) λB e Y J f u d v s V=>y0 ?_)))))))))
 ·have m:=(c6C g).1;refine f9 (J7 (t0 (f6 rfl (M0 (d8 (f6 rfl (i8 (D8 (X.L.at_ _ _ X.c2) (Z (b7Z O)) (a1S ⟨λt=>?_,λ_=>?_⟩)))))))))
  ·have t:=Int.ofNat.inj (c5y t);rw [List.length_map] at t;exact (b71 m t).elim
  ·refine f9 (A4 (a0Z (t0 (B7 (f6 rfl (f6 rfl (I4 (i:=p) (x:=s9 (String.singleton c,ks)) (X.L.at_ _ _ X.c2) (Z (b7Z O)) (by rw[c5x];rw[g];rfl) (a rfl rfl (c0E o ?_)))))))))
   exact q _ _ _ _ X (.refl _) (by exact Nat.zero_lt_of_lt m) (c5w _) (Nat.le_succ _)
 ·refine eA (X.row d V f u v s) λA w=>?_;have j:lay (.ow 2)=B (.ow 2):=(d.lay 2).symm;have U:Y (lay (.ow 2))=some (.list (st.nd.map s9)):=by rw[j];exact f.at_ _ _ A
  refine f9 (J7 (t0 (f6 rfl (M0 (d8 (f6 rfl (i8 (D8 U (Z (b7Z O)) (a1S ⟨λ_=>?_,λt=>?_⟩)))))))))
  ·refine f9 (F0 (I5 (o9 rfl) U (d8 (a rfl rfl (i8 (G1 U (Z (b7Z O)) ?_))))));rw[j];have K:(st.nd.map s9++[s9 (String.singleton c,ks)]).length<=n8:=by rw[c50];rw[(c5q ..)];show st.nd.length+1<=n8;unfold n8;exact c5r O (c6g _ _)
   have b:J.nd.length=st.nd.length+1:=by rw[V];rw[c50];rfl
   refine f9 (A4 (a0Z (t0 (B7 (f6 rfl (f6 rfl (I4 (i:=st.nd.length) (x:=s9 (String.singleton c,ks)) l0 K ?_ (a rfl rfl (c0E o ?_)))))))))
   ·refine b9 (List.getElem?_append_right (by rw[(c5q ..)];exact c5w _)) ?_;rw[(c5q ..)];rw[(Nat.sub_self ..)];rfl
   ·exact q _ _ _ _ w d.ly (by exact b▸c53 _) (c0b b) (by exact c5K b)
  ·refine c59 ?_ (c6j t);rw[(c5q ..)];rfl
theorem b3b (h:i<=20):(toString ((i:Nat):Int)).length<=10:=by
 have:∀ j:Fin 21,(toString ((j.val:Nat):Int)).length<=10:=by decide +kernel
 exact this ⟨i,c51 h⟩
variable {pos:Pos}
theorem b7J (h:small i) (q:Q (.str (toString ((i:Nat):Int))) H):biW .str [.int (i:Nat)] H Q:=⟨i,rfl,h,q⟩
theorem add_str {a b:String} (h:a.length+b.length<=n8) (q:Q (.str (a++b)) H):a4h .add (.str a) (.str b) H Q:=.inr (.inl ⟨a,b,rfl,rfl,h,q⟩)
theorem b1e {s:String} {c:Char} (B:s.toList[k]?=some c) (J:s.toList.length<=n8) (O:∀ c∈s.toList,c.toNat < 128) (q:Q (.str (String.singleton c)) H):a7g (.str s) (.int (k:Nat)) H Q:=.inl ⟨s,k,c,rfl,rfl,B,J,O,q⟩
theorem a1Z (X:LH cells lay C H st lf k) (le:st.nd.length<=8) (B:r t6=some (.ref (lay (.ow 2)))) (q:Q (.int (st.nd.length:Nat)) H):O3 .len (d7 (d6 t6) h9) K r H Q :=
 M0 (d8 (f6 B (i8 (D8 (X.L.at_ _ _ X.c2) (by rw[(c5q ..)];unfold n8;exact c5r le (c6g _ _)) (by rw[(c5q ..)];exact q)))))
structure DR (lay:Slot->Nat) (way x y:Nat) (r:En):Prop where
 heap:r w5=some (.ref (lay (.eg 0)))
 rows:r t6=some (.ref (lay (.ow 2)))
 pairs:r B3=some (.ref (lay (.ow 3)))
 way:r a6r=some (.int (way:Nat))
 x:r n_x=some (.int (x:Nat))
 y:r n_y=some (.int (y:Nat))
noncomputable def Dd (cells:List Int) (lay:Slot->Nat) (lf:List (Nat×Nat)) (k:Nat) (Q:l8):Prop:=∀ lay' C' H' st' ties',LH cells lay' C' H' st' ties' k->Ly lay lay'->0 < st'.nd.length->st'.nd.length<=8->ties'.length<=lf.length+1->Q (.bool true) H'
theorem a4N {f x y:Nat} {B:Hp->Prop} (X:LH cells lay C H st lf k) (v:DR lay f x y r) (pos:0 < st.nd.length) (le:st.nd.length<=8) (Y:lf.length < 20) (A:x < st.nd.length) (F:y < st.nd.length) (q:Dd cells lay lf k Q) :
  (d9 (y8 (l4 (d6 B3) v6 (d7 (z0 (d7 (d6 n_x) (d7 (d6 n_y) h9))) h9)))
 (d9 (y8 (l4 (d6 w5) Y9 (d7 (d6 n_x) (d7 (d6 n_y) (d7 (z0 (d7 (j7 (.str "told")) (d7 (A6 .add (j7 (.str "t")) (O3 .str (d7 (O3 .len (d7 (d6 B3) h9)) h9))) h9))) h9)))))
 (d9 (z5 (j7 (.bool true)))
 j9))) (j3 FT (n+6)) r H (λz _ Z=>a2D z (B Z) λv=>Q v Z):=by
 have G:(lf.map a1d).length<=n8:=by rw[(c5q ..)];unfold n8;exact c5r (c6f Y) (c5o rfl)
 have e:lf.map a1d++[.tup [.int (x:Nat),.int (y:Nat)]]=(lf++[(x,y)]).map a1d:=by rw[c54];rfl
 refine f9 (F0 (I5 (o9 v.pairs) (X.L.at_ _ _ X.c3) (d8 (D2 (d8 (f6 v.x (d8 (f6 v.y (i8 (i8 (G1 (X.L.at_ _ _ X.c3) G ?_)))))))))));rw[e];have a:=X.L.put (o:=.list ((lf++[(x,y)]).map a1d)) X.c3;have b:EG lay (upd C (.ow 3) (.list ((lf++[(x,y)]).map a1d))) st:=X.E.ow;have J:(lf++[(x,y)]).length=lf.length+1:=c50;have c:((lf++[(x,y)]).map a1d).length<=n8:=by rw[(c5q ..)];rw[J];unfold n8;exact c5r Y (c6g _ _)
 refine f9 (F0 (C6 rfl (a.at_ _ _ b.c0) (a.at_ _ _ b.c1) rfl (o9 v.heap) (d8 (f6 v.x (d8 (f6 v.y (d8 (D2 (d8 (m3 (d8 (C5 (m3 (M0 (d8 (M0 (d8 (f6 v.pairs (i8 (D8 (a.at_ (.ow 3) _ C0) c (i8 (b7J ?_ (add_str ?_ (i8 (i8 (b2F (n:=n+2) a b X.I X.D Y (by refine u7 X.I.eqn ?_;exact A) (by refine u7 X.I.eqn ?_;exact F) λV g Z d u p l U m j O=>?_))))))))))))))))))))))))))
 ·rw[(c5q ..)];rw[J];exact V0 (c5N _) (c4n Y)
 ·rw[(c5q ..)];rw[J];have:=b3b (i:=lf.length+1) (by exact Y)
  have s:"t".length=1:=rfl;rw[s];unfold n8;exact c5r (c5I this _) (c5o rfl)
 ·refine f9 (A4 (m3 ?_));refine q V g Z d (lf++[(x,y)]) ⟨p,l,m,j,?_,?_,?_,?_⟩ ⟨U.eg,U.lay⟩ (by rw[O];exact pos) (by rw[O];exact le) (c5K J)
  ·exact eE X.c0 λw h=>⟨w,by rw[(U.con ..)];rw[(j5 (by decide))];rw[h];unfold dkO;rw[(U.lay ..)];rfl⟩
  ·rw[(U.con ..)];rw[(j5 (by decide))];exact X.c1
  ·rw[(U.con ..)];rw[(j5 (by decide))];rw[O];exact X.c2
  ·rw[(U.con ..)];rw[C0];rfl
theorem b3R {Z x y:Nat} {B:Hp->Prop} (X:LH cells lay C H st lf k) (v:DR lay Z x y r) (pos:0 < st.nd.length) (le:st.nd.length<=8) (a:lf.length < 20) (U:x < st.nd.length) (V:y < st.nd.length) (q:Dd cells lay lf k Q) :
  (d9 (G6 (A8 (o7 .eq (d6 a6r) (j7 (.int 4))) (A8 (o7 .lt (O3 .len (d7 (d6 t6) h9)) (j7 (.int 8))) y9))
  (d9 (z5 (D0 K3 (d7 (d6 w5) (d7 (d6 t6) (d7 (j7 (.str "g")) (d7 (z0 (d7 (d6 n_x) (d7 (d6 n_y) h9))) h9))))))
  j9)
  j9)
 (d9 (y8 (l4 (d6 B3) v6 (d7 (z0 (d7 (d6 n_x) (d7 (d6 n_y) h9))) h9)))
 (d9 (y8 (l4 (d6 w5) Y9 (d7 (d6 n_x) (d7 (d6 n_y) (d7 (z0 (d7 (j7 (.str "told")) (d7 (A6 .add (j7 (.str "t")) (O3 .str (d7 (O3 .len (d7 (d6 B3) h9)) h9))) h9))) h9)))))
 (d9 (z5 (j7 (.bool true)))
 j9)))) (j3 FT (n+6)) r H (λe _ O=>a2D e (B O) λv=>Q v O):=by
 refine f9 (J7 (F6 (t0 (f6 v.way (m3 (a1S ⟨λt=>F6 (t0 (a1Z X le v.rows (m3 (lt_int ⟨λt2=>V1 ⟨λ_=>?_,(λz=>nomatch z)⟩,λt2=>⟨(λz=>nomatch z),λ_=>?_⟩⟩)))),λt=>⟨(λz=>nomatch z),λ_=>?_⟩⟩))))))
 ·have t2:=c5y t2;refine f9 (A4 (M7 (d8 (f6 v.heap (d8 (f6 v.rows (d8 (m3 (d8 (D2 (d8 (f6 v.x (d8 (f6 v.y (i8 (i8 ?_))))))))))))))));refine added (n:=n) (c:='g') (ks:=[x,y]) X (by exact c6i (Int.ofNat_lt.mp t2) (c5o rfl)) (by decide) (by decide) (c5w _) (λz hz=>?_) λJ b O Y d ly h i f=>q J b O Y lf d ly h (by exact c5r f (Int.ofNat_lt.mp t2)) (Nat.le_succ _)
  rcases c6K hz with rfl | hz
  ·exact U
  ·rw[(c6I hz)];exact V
 ·exact a4N (n:=n) (B:=B) X v pos le a U V q
 ·exact a4N (n:=n) (B:=B) X v pos le a U V q
theorem c0H (h:i < 2):∃ c,"fh".toList[i]?=some c/\97<=c.toNat/\c.toNat<=122:=by
 cases i with
 | zero=>exact ⟨'f',rfl,by decide,by decide⟩
 | succ i =>
  cases i with
  | zero=>exact ⟨'h',rfl,by decide,by decide⟩
  | succ i=>exact c59 h (Nat.not_lt.mpr (c6g 2 i))
theorem c3y (X:LH cells lay C H st lf k) (V:cells.length<=50) (Y:k<=900) (pos:0 < st.nd.length) (le:st.nd.length<=8) (h:lf.length < 20) (q:Dd cells lay lf (k+3) Q) :
  (j3 FT (n+7)).call 0 W0 [.ref (lay (.ow 0)),.ref (lay (.eg 0)),.ref (lay (.ow 2)),.ref (lay (.ow 3))] H Q:=by
 refine o8 rfl rfl (f9 (t7 (D2 (d8 (M7 (d8 (f6 rfl (d8 (m3 (i8 (draw (n:=n+5) (many:=5) X V (by exact c5r Y (c6g _ _)) (by decide) λv D b f d=>d8 (M7 (d8 (f6 rfl (d8 (a1Z d le rfl (i8 (draw (n:=n+5) d V (by exact c5v Y (c5o rfl)) pos λw E x Z e=>d8 (M7 (d8 (f6 rfl (d8 (a1Z e le rfl (i8 (draw (n:=n+5) e V (by exact c5v (c6x Y) (c5o rfl)) pos λA F y g U=>i8 (b1q (.inl rfl) ?_))))))))))))))))))))))))))
 refine f9 (J7 (F6 (t0 (f6 rfl (m3 (lt_int ⟨λt=>F6 (t0 (a1Z U le rfl (m3 (lt_int ⟨λt2=>V1 ⟨λ_=>?_,(λz=>nomatch z)⟩,λt2=>⟨(λz=>nomatch z),λ_=>?_⟩⟩)))),λt=>⟨(λz=>nomatch z),λ_=>?_⟩⟩))))))
 ·have t:=c5y t;have t2:=c5y t2;refine p9 (c0H (i:=b) (by exact Int.ofNat_le.mp t)) λc p m o=>?_
  refine f9 (A4 (M7 (d8 (f6 rfl (d8 (f6 rfl (d8 (B7 (m3 (f6 rfl (b1e p (by decide) (by decide) (d8 (D2 (d8 (f6 rfl (i8 (i8 ?_)))))))))))))))))
  exact added (n:=n) (c:=c) (ks:=[x]) U (by exact c6i (Int.ofNat_lt.mp t2) (c5o rfl)) m o (Nat.le_succ 1) (λz r=>by rw[(c6I r)];exact Z) λO j J a l ly u G s=>q O j J a lf l ly u (by exact c5r s (Int.ofNat_lt.mp t2)) (Nat.le_succ _)
 ·exact b3R (n:=n) (B:=λJ=>Q .none J) U ⟨rfl,rfl,rfl,rfl,rfl,rfl⟩ pos le h Z g q
 ·exact b3R (n:=n) (B:=λJ=>Q .none J) U ⟨rfl,rfl,rfl,rfl,rfl,rfl⟩ pos le h Z g q
structure LV (lay:Slot->Nat) (r:En):Prop where
 feed:r D4=some (.ref (lay (.ow 0)))
 heap:r w5=some (.ref (lay (.eg 0)))
 rows:r t6=some (.ref (lay (.ow 2)))
 pairs:r B3=some (.ref (lay (.ow 3)))
theorem LV.ly {lay q:Slot->Nat} (v:LV lay r) (y:Ly lay q):LV q r:=⟨by rw[(y.ow ..)];exact v.feed,by rw[(y.eg ..)];exact v.heap,by rw[(y.ow ..)];exact v.rows,by rw[(y.ow ..)];exact v.pairs⟩
end
theorem b91 {ks:List String} {es:Lv} (h:es K r H λvs q=>vs.length=ks.length/\a7D (A9 ((ks.map f7.str).zip vs)) q Q):a8q ks es K r H Q:=h
theorem c1e {e i:Ev} (h:e K r H λv q=>i K r q λw B=>b8t v w B Q):b30 e i K r H Q:=h
theorem a7c {b:Bv} {Q:A2} (Y:m<=n8) (I:Nat->En->Hp->Prop) (h0:I 0 r H) (e:∀ r H,I m r H->Q .next r H)
  (h:∀ (i:Nat) (r:En) (H:Hp),i < m->I i r H->∀ W:A2,(∀ B q,I (i+1) B q->W .next B q)->(∀ v B q,Q (.ret v) B q->W (.ret v) B q)->b K (r.set x (.int (i:Nat))) H W):itR [.int (m:Nat)] H λsrc c=>∃ n,a5T [x] true (b K) src n 0 r c Q :=
 .inl ⟨m,rfl,by have:=Y;exact c25,by have:=Y;exact c6Q Y,_,a0g (src:=.seq (C7 0 (m:Nat))) (C7 0 (m:Nat)) I (λ_ _ _ _=>rfl) (λr H O=>e r H (by rwa [a2b,n0,c6b] at O)) (λi v r H J O W U V=>by
  rw [a2b] at J;unfold iL at J;rw [List.getElem?_map] at J;refine i9 (c6G J) λj d f=>?_;subst f;refine eE (c6C d) λZ a=>?_;rw [List.length_range] at Z;rw [List.getElem_range] at a;clear J d;subst a;exact ⟨_,D6,h i r H Z O W U V⟩) _ 0 r H (c5J _) (c5B _) h0⟩
theorem b17:A9 (["cells","spot"].map f7.str |>.zip [u,v])=[(.str "cells",u),(.str "spot",v)]:=by
 show J2 (J2 [] (.str "cells") u) (.str "spot") v=_;have e:J2 [] (.str "cells") u=[(.str "cells",u)]:=rfl;rw[e];unfold J2;have n:B4 [(.str "cells",u)] (.str "spot")=none:=by unfold B4;simp
 rw[n];rw[(c57 (by simp))];rfl
noncomputable def a1M (sl:List Int):List Int:=(sl.take 50).map (· % 1000003)
section
variable {A:Around}{Q:A2}{n:Nat}{cells:List Int}{b:Bv}
theorem b4A {B:List Int} (X:r a3m=some (.fz B)) (W:B.length<=63) (q:∀ lay C O w,LH (a1M B) lay C O st0 [] 0->LV lay w->b (j3 FT (n+2)) w O Q) :
  (d9 (p7 (l5 D4) (a8q ["cells","spot"] (d7 (t8 (A6 .mod (O3 .int (d7 (d6 a7x) h9)) (j7 (.int 1000003))) [a7x] true (w7 (b30 (d6 a3m) (j7 (.int 50)))) y9) (d7 (j7 (.int 0)) h9))))
 (d9 (p7 (K1 [(l5 w5),(l5 t6),(l5 B3)]) (z0 (d7 (a8s w4 h9) (d7 (G9 h9) (d7 (G9 h9) h9))))) b)) (j3 FT (n+2)) r H Q:=by
 have j:(B.take 50).length<=50:=List.length_take_le _ _;have e:((B.take 50).flatMap λi=>[f7.int (i % 1000003)])=(a1M B).map f7.int:=by unfold a1M;rw[(B1 ..)];rw[c55];rfl
 have U:((a1M B).map f7.int).length<=n8:=by unfold a1M;rw[(c5q ..)];rw[(c5q ..)];unfold n8;exact c5r j (c6g _ _)
 refine f9 (t7 (b91 (d8 (X5 (l:=B.take 50) (f:=f7.int) (g:=λi=>[f7.int (i % 1000003)]) (by rw[e];exact U) (b4p λR T=>c1e (f6 X (m3 ⟨B,50,rfl,rfl,by exact c5N _,by unfold n8;exact c5N _,by unfold n8;exact c5r W (c5o rfl),by rw[(c5q ..)];exact c5r j (by unfold n8;exact c6g _ _),λx Z=>T x _ (.new Z) l0⟩))) (λi hi O k P S=>G4 (C5 (M0 (d8 (f6 rfl (i8 ⟨i,rfl,m3 (a7v (by exact c5N _) (S _ (.refl _)))⟩)))))) λE N k1 Y=>d8 (m3 (i8 ⟨rfl,λV d m=>y0 ?_⟩))))))
 rw[b17];rw [e] at m ⊢;have F:J1 (λ_=>0) (λ_=>none) E:=⟨λs o h=>(by cases h),λs t o p h=>(by cases h)⟩
 have G:=F.take (s:=.ow 1) (o:=.list ((a1M B).map f7.int)) Y;have I:=G.take (s:=.ow 0) (o:=.dict [(.str "cells",.ref N),(.str "spot",.int 0)] V) m;refine f9 (t7 (D2 (d8 (b1Q (i8 (b42 (n:=n) I λJ c H3 K z v u=>d8 (a0x (i8 λx Z=>d8 (a0x (i8 λy hy=>i8 (b1q (.inl rfl) ?_)))))))))));have L:=K.take (s:=.ow 2) (o:=.list (([]:List G7).map s9)) Z;have A:=z.own (k:=2) (a:=x) (o:=.list (([]:List G7).map s9))
 have M:=L.take (s:=.ow 3) (o:=.list (([]:List (Nat×Nat)).map a1d)) hy;have D:=A.own (k:=3) (a:=y) (o:=.list (([]:List (Nat×Nat)).map a1d));refine q _ _ _ _ ⟨M,D,c3G,c0A,⟨V,?_⟩,?_,rfl,rfl⟩ ⟨?_,rfl,rfl,rfl⟩
 ·show c (.ow 0)=some (.dict [(.str "cells",.ref (J (.ow 1))),_] V);rw[(u ..)];rw[(v ..)];rfl
 ·show c (.ow 1)=_;rw[(u ..)];rfl
 ·show _=some (f7.ref (J (.ow 0)));rw[(v ..)];rfl
theorem b8K (h:i < 3):∃ c,"abc".toList[i]?=some c/\97<=c.toNat/\c.toNat<=122:=by
 cases i with
 | zero=>exact ⟨'a',rfl,by decide,by decide⟩
 | succ i =>
  cases i with
  | zero=>exact ⟨'b',rfl,by decide,by decide⟩
  | succ i =>
   cases i with
   | zero=>exact ⟨'c',rfl,by decide,by decide⟩
   | succ i=>exact c59 h (Nat.not_lt.mpr (c6g 3 i))
theorem b4B (A:cells.length<=50) (X:LH cells lay C H st0 [] 0) (v:LV lay r) (q:∀ J g k s U,LH cells J g k U [] 1->LV J s->0 < U.nd.length->U.nd.length<=8->b (j3 FT (n+6)) s k Q) :
  d9 (Q6 [n_k] true (N4 (d7 (A6 .add (j7 (.int 2)) (D0 w9 (d7 (d6 D4) (d7 (j7 (.int 2)) h9)))) h9))
  (d9 (G6 (a5L (a2C (D0 K3 (d7 (d6 w5) (d7 (d6 t6) (d7 (m9 (j7 (.str "abc")) (d6 n_k)) (d7 (z0 h9) h9)))))))
   (d9 (z5 (j7 (.bool false)))
   j9)
   j9)
  j9)) b (j3 FT (n+6)) r H Q:=by
 refine f9 (a5r (d8 (C5 (m3 (M7 (d8 (f6 v.feed (d8 (m3 (i8 (draw (n:=n+5) (many:=2) X A (by exact c5B _) (by exact Nat.zero_lt_two) λt K j e w=>K7 (i8 ?_))))))))))) )
 rw[(show (2:Int)+((j:Nat):Int)=((2+j:Nat):Int) by exact rfl)]
 refine a7c (by unfold n8;exact c5r (c5I (c6f e) _) (c5o rfl)) (λi Y d=>∃ B a O,LH cells B a d O [] 1/\LV B Y/\O.nd.length<=i/\(0 < i->0 < O.nd.length)) ⟨lay,t,st0,w,v,c5w _,λh=>c59 h (c5U _)⟩ (λY d Z=>by refine Y1 Z λB a O l V f p=>?_;clear Z;exact q B a d Y O l V (p (by exact Nat.add_pos_left (c53 _) _)) (by exact c5r f (c5r (c5I (c6f e) 2) (c5o rfl)))) λi Y d o Z W D _=>?_
 refine Y1 Z λB a O l V f p=>?_;clear Z;refine p9 (b8K (i:=i) (by exact c5G o (c5I (c5L e) 2))) λc E x y=>?_
 have m:LV B (Y.set n_k (.int (i:Nat))):=⟨V.feed,V.heap,V.rows,V.pairs⟩;refine f9 (J7 (b1R (a2W (M7 (d8 (f6 m.heap (d8 (f6 m.rows (d8 (B7 (m3 (f6 rfl (b1e E (by decide) (by decide) (d8 (D2 (i8 (i8 ?_)))))))))))))))))
 refine added (n:=n) (c:=c) (ks:=[]) l (by exact c5v f (c5G (c6i o (Nat.add_lt_add_left e 2)) (c5o rfl))) x y (c5B _) (λz F=>nomatch F) λJ g k U u ly I L G=>⟨true,rfl,(λz=>nomatch z),λ_=>?_⟩
 exact D _ _ ⟨J,g,U,u,m.ly ly,by exact c5r G (c5R f _),λ_=>I⟩
variable {pos:Pos}
structure LP (cells:List Int) (t k:Nat) (r:En) (H:Hp) (lay:Slot->Nat) (C:A0) (st:St) (lf:List (Nat×Nat)) (j:Nat):Prop where
 X:LH cells lay C H st lf j
 v:LV lay r
 pos:0 < st.nd.length
 le:st.nd.length<=8
 tl:lf.length<=t
 jk:j<=k
theorem b6Y (s:cells.length<=50) {t:Nat} (P:LP cells t (3 * t+t+2) r H lay C st lf k) (c:t<=7) (q:∀ V m o x Z U F,LP cells (t+7) (3 * (t+7)+(t+7)+2) x o V m Z U F->b (j3 FT (n+9)) x o Q) :
  d9 (Q6 [b1s] true (N4 (d7 (A6 .add (j7 (.int 3)) (D0 w9 (d7 (d6 D4) (d7 (j7 (.int 5)) h9)))) h9))
   (d9 (G6 (a5L (a2C (D0 W0 (d7 (d6 D4) (d7 (d6 w5) (d7 (d6 t6) (d7 (d6 B3) h9)))))))
    (d9 (z5 (j7 (.bool false)))
    j9)
    j9)
   j9)) b (j3 FT (n+9)) r H Q:=by
 have v:=P.v;have w:=P.jk;refine f9 (a5r (d8 (C5 (m3 (M7 (d8 (f6 v.feed (d8 (m3 (i8 (draw (n:=n+8) (many:=5) P.X s (by exact c5r w (c5r (c5R (c6q (c6p 3 c) c) 2) (c5o rfl))) (by exact c53 _) λy L j a D=>K7 (i8 ?_))))))))))))
 rw[(show (3:Int)+((j:Nat):Int)=((3+j:Nat):Int) by exact rfl)]
 refine a7c (by unfold n8;exact c5r (c5I (c6f a) _) (c5o rfl)) (λi e h=>∃ J g Y B l,LP cells (t+i) (3 * (t+i)+t+3) e h J g Y B l) ⟨lay,y,st,lf,k+1,D,v,P.pos,P.le,P.tl,by exact c6x w⟩ (λe h p=>by obtain ⟨J,g,Y,B,l,O⟩:=p;exact q J g h e Y B l ⟨O.X,O.v,O.pos,O.le,by have:=O.tl;exact c5r this (c5I (c5I (c5L a) 3) _),by have:=O.jk;exact c5r this (c5R (c6q (c6p 3 (c5I (c5I (c5L a) 3) _)) (c5M _ 6)) 3)⟩) λi e h u p W E _=>?_
 obtain ⟨J,g,Y,B,l,O⟩:=p;have f:LV J (e.set b1s (.int (i:Nat))):=⟨O.v.feed,O.v.heap,O.v.rows,O.v.pairs⟩;have t2:=O.tl;have d:=O.jk;refine f9 (J7 (b1R (a2W (M7 (d8 (f6 f.feed (d8 (f6 f.heap (d8 (f6 f.rows (d8 (f6 f.pairs (i8 ?_)))))))))))) );refine c3y (n:=n+2) O.X s (by exact c5r d (c5r (c5R (c6q (c6p 3 (c6q c (c6f (c6i u (Nat.add_lt_add_left a 3))))) c) 3) (c5o rfl))) O.pos O.le (by exact c5v t2 (c5G (Nat.add_lt_add_of_le_of_lt c (c6i u (Nat.add_lt_add_left a 3))) (c5o rfl))) λV m o Z U A ly K G I=>⟨true,rfl,(λz=>nomatch z),λ_=>?_⟩
 exact E _ _ ⟨V,m,Z,U,_,A,f.ly ly,K,G,by exact c2N t2 I,by exact c5r (c5R d 3) (c5K (c5z (·+3) (Nat.add_right_comm _ _ _)))⟩
theorem b2w (u:cells.length<=50) (X:LH cells lay C H st [] 1) (v:LV lay r) (p:0 < st.nd.length) (l:st.nd.length<=8) (q:∀ V m o y Y c w,LH cells V m o Y c w->LV V y->0 < Y.nd.length->Y.nd.length<=8->w<=900->Y.wt=[]->b (j3 FT (n+9)) y o Q) :
  d9 (Q6 [a3W] true (N4 (d7 (A6 .add (j7 (.int 1)) (D0 w9 (d7 (d6 D4) (d7 (j7 (.int 2)) h9)))) h9))
  (d9 (Q6 [b1s] true (N4 (d7 (A6 .add (j7 (.int 3)) (D0 w9 (d7 (d6 D4) (d7 (j7 (.int 5)) h9)))) h9))
   (d9 (G6 (a5L (a2C (D0 W0 (d7 (d6 D4) (d7 (d6 w5) (d7 (d6 t6) (d7 (d6 B3) h9)))))))
    (d9 (z5 (j7 (.bool false)))
    j9)
    j9)
   j9))
  (d9 (y8 (l4 (d6 w5) a3n h9))
  j9))) b (j3 FT (n+9)) r H Q:=by
 refine f9 (a5r (d8 (C5 (m3 (M7 (d8 (f6 v.feed (d8 (m3 (i8 (draw (n:=n+8) (many:=2) X u (by exact c53 _) (by exact Nat.zero_lt_two) λF H1 j s P=>K7 (i8 ?_))))))))))))
 rw[(show (1:Int)+((j:Nat):Int)=((1+j:Nat):Int) by exact rfl)]
 refine a7c (by unfold n8;exact c5r (c5I (c6f s) _) (c5o rfl)) (λi e g=>∃ J f Z B k,LP cells (7 * i) (3 * (7 * i)+7 * i+2) e g J f Z B k/\(0 < i->Z.wt=[])) ⟨lay,F,st,[],2,⟨P,v,p,l,c5B _,c5w _⟩,λh=>c59 h (c5U _)⟩ (λe g z3=>by obtain ⟨J,f,Z,B,k,O,A⟩:=z3;exact q J f g e Z B k O.X O.v O.pos O.le (by have:=O.jk;exact c1B s this) (A (by exact c5M _ _))) λi e g S z1 W R _=>?_
 obtain ⟨J,f,Z,B,k,O,A⟩:=z1;have v3:LV J (e.set a3W (.int (i:Nat))):=⟨O.v.feed,O.v.heap,O.v.rows,O.v.pairs⟩;refine b6Y (n:=n) u (t:=7 * i) ⟨O.X,v3,O.pos,O.le,O.tl,O.jk⟩ (by exact c6p 7 (c5L (c5G S (c5I (c5L s) 1)))) λx C4 H4 r4 a0 d T U=>?_
 refine f9 (F0 (C6 rfl (U.X.L.at_ _ _ U.X.E.c0) (U.X.L.at_ _ _ U.X.E.c1) rfl (o9 U.v.heap) (i8 (b6P (n:=n+4) U.X.L U.X.E U.X.I U.X.D λV m o Y N K z M G a w'=>?_))));exact R _ _ ⟨V,m,Y,d,T,⟨U.X.same z a N K M G,U.v.ly z.ly,by rw[a];exact U.pos,by rw[a];exact U.le,U.tl,U.jk⟩,λ_=>w'⟩
variable {Q:l8}
theorem b28 {Q:List f7->Hp->Prop} (X:LH cells lay C H st lf k) (v:LV lay r) (g:cells.length<=50) (O:k<=900) (pos:0 < st.nd.length) (le:st.nd.length<=8) (q:∀ Z a B t,B.length=4->(∀ z∈B,z < st.nd.length)->LH cells lay Z a st lf t->Q (iL B) a) :
  ∃ m,a01 (a3z [a3W] true r (a2g (D0 w9 (d7 (d6 D4) (d7 (O3 .len (d7 (d6 t6) h9)) h9))) y9 (j3 FT (n+1)))) (.seq (C7 0 (4:Nat))) m 0 [] H Q:=by
 have d:(C7 0 (4:Nat)).length=4:=by rw[(a2b ..)];rw[(n0 ..)];rw[c6b];rfl
 refine ⟨_,a6V (src:=.seq (C7 0 (4:Nat))) (C7 0 (4:Nat)) (λi acc V=>∃ U B,LH cells lay U V st lf (k+i)/\acc=iL B/\B.length=i/\∀ z∈B,z < st.nd.length) (λ_ _ _ _=>rfl) (λacc V J=>?_) (λi u acc V p J=>?_) ((C7 0 (4:Nat)).length+1) 0 [] H (b96) (c5B _) ⟨C,[],X,rfl,rfl,λk O=>(by cases O)⟩⟩
 ·refine G2 J λU B Y w e O=>?_;clear J;subst w;rw [d] at e;exact q U V B _ e O Y
 ·refine G2 J λU B Y x e s=>?_;clear J;subst x;have b:=(c6C p).1;rw [d] at b;refine ⟨by rw[(n0 ..)];rw[e];unfold n8;exact c5r (c6f b) (c5o rfl),λW l=>⟨_,D6,G4 (M7 (d8 (f6 v.feed (d8 (a1Z Y le v.rows (i8 ?_)))))) ⟩⟩
  refine draw (n:=n) Y g (by exact c5r (c6q O (c6f b)) (c5o rfl)) pos λZ a j o f=>l _ _ ⟨Z,B++[j],f,?_,by rw[c50];rw[e];rfl,λz c=>?_⟩
  ·refine u7 a1o ?_;rfl
  ·rcases c6H c with h | h
   ·exact s z h
   ·rw[(c6I h)];exact o
theorem b6K {q:List Nat} (e:q.length=4):∃ a b c d,q=[a,b,c,d]:=by
 cases q with
 | nil=>cases e
 | cons a q =>
  cases q with
  | nil=>cases e
  | cons b q =>
   cases q with
   | nil=>cases e
   | cons c q =>
    cases q with
    | nil=>cases e
    | cons d q =>
     cases q with
     | nil=>exact ⟨a,b,c,d,rfl⟩
     | cons _ _=>cases e
theorem b6X {B:Hp->Prop} (X:LH cells lay C H st lf k) (v:LV lay r) (Z:cells.length<=50) (g:k<=900) (pos:0 < st.nd.length) (le:st.nd.length<=8) (w:st.wt=[]) (q:∀ O,Q (.bool true) O) :
  (d9 (z5 (D0 P9 (d7 (d6 w5) (d7 (d6 t6) (d7 (d6 B3) (d7 (t8 (D0 w9 (d7 (d6 D4) (d7 (O3 .len (d7 (d6 t6) h9)) h9))) [a3W] true (N4 (d7 (j7 (.int 4)) h9)) y9) h9))))))
 j9) (j3 FT (n+9)) r H (λf _ O=>a2D f (B O) λv=>Q v O):=by
 refine f9 (A4 (M7 (d8 (f6 v.heap (d8 (f6 v.rows (d8 (f6 v.pairs (d8 ?_)))))))));refine b7W (d8 (m3 (i8 ?_)));refine .inl ⟨(4:Nat),rfl,by unfold n8;exact c5N _,by unfold n8;exact c5N _,b28 (n:=n+8) X v Z g pos le λh O i j e U Y l V=>i8 ?_⟩
 have eqn:=X.I.eqn;obtain ⟨a,b,c,d,rfl⟩:=b6K e;have J:=Y.keep (.new (o:=.list [iV a,iV b,iV c,iV d]) V);have U:∀ z∈[a,b,c,d],z < st.up.length:=by refine u7 eqn ?_;exact U
 exact b0z (n:=n) ⟨J.L,J.E,J.I⟩ J.D w (J.L.at_ _ _ J.c2) (J.L.at_ _ _ J.c3) l0 (U a (List.Mem.head _)) (U b (.tail _ (List.Mem.head _))) (U c (.tail _ (.tail _ (List.Mem.head _)))) (U d (.tail _ (.tail _ (.tail _ (List.Mem.head _))))) (by exact c5v (c5r (c5K eqn.symm) le) (c5o rfl)) λO _=>q O
end
theorem b6W {n:Nat} {J:List Int} (a:J.length<=63):(j3 FT (n+10)).call 0 3879159 [.fz J] (λ_=>none) λv _=>v=.bool true:=by
 have q:(a1M J).length<=50:=by unfold a1M;rw[(c5q ..)];exact List.length_take_le _ _
 refine o8 rfl rfl (b4A (n:=n+7) rfl a λlay C H r X v=>?_);exact b4B (n:=n+3) q X v λU l o t g Y i e c=>b2w (n:=n) q Y i e c λV m p u h O s Z j f d b k=>b6X (n:=n) (B:=λ_=>(f7.none=.bool true)) Z j q b f d k λ_=>rfl
end Mine.Internal
namespace Mine.Internal
set_option Elab.async false
open PySem PySem.W PyProof.Rows
theorem c3X:PySem.Challenge.rw_pq0065_03.wellSaid=true:=by
 have h:OpenLaw.wellSaid {prog:=a6M.1,name:=m8 "law",about:=[m8 "Grammar",m8 "is_endless"],foot:=9,most:=some 63,bound:=none,writes:=false}=true:=by
  (rewrite [PySem.W.Fast.te9446332074065402090];try rfl)
  kernel_rfl
 rw [a6M.2,<-a7Q] at h;exact h
theorem b9D:∀ w,(λos=>(a8c boot_heap w).bind λb=>b7e boot_heap PySem.Challenge.pw_pq0065_03 (λs=>(openSeen (view PySem.Challenge.pw_pq0065_03 [24]) a2p (importedModules PySem.Challenge.pw_pq0065_03.main.body) (λ_=>true) true s,a3Y T03 s)) 4000 b w os) =
  λ_=>some (openGood (view PySem.Challenge.pw_pq0065_03 [24]) a2p,(true,b0Q T03 PySem.Challenge.pw_pq0065_03)):=λw=>by
 have h:=seen03 w;rw [<- PySem.W.Fast.te4264726734810522163,<-PySem.W.Fast.te4036098521264024637,<-PySem.W.Fast.te4065217944589469274,a6M.2,b78.2] at h;exact h
theorem c1b:(b0Q T03 PySem.Challenge.pw_pq0065_03).map (λo=>o.bind (a6E T03))=a8D.map some:=by
 have h:=mini03;rw [a6M.2] at h;exact h
theorem b87:LeftO PySem.Challenge.pw_pq0065_03 (view PySem.Challenge.pw_pq0065_03 [24]) a2p (λ_=>true) (a3Y T03) (λ_=>(true,b0Q T03 PySem.Challenge.pw_pq0065_03)) 4000 :=
 b2z (by rfl) rfl (λs=>by rfl) b9D
theorem b7M:b1M T03=true:=by kernel_rfl
theorem b9M:b5O (a4B T03) a8D=FT:=c5z (b5O · a8D) (show a4B T03=b4v by kernel_rfl)
theorem b6T:T03.fns.contains PySem.Challenge.rw_pq0065_03.name=true:=by decide +kernel
theorem b69:nm PySem.Challenge.rw_pq0065_03.name=3879159:=by decide +kernel
theorem b9j (q:List Int) (h:q.length<=63):∃ n,n<=40/\(j3 FT n).call 0 3879159 [.fz q] (λ_=>none) λv _=>v=.bool true:=⟨10,by decide,b6W (n:=0) h⟩
end Mine.Internal
end
section
set_option Elab.async false
set_option maxHeartbeats 8000000 in
theorem PySem.Challenge.cw_pq0065_03_holds : PySem.Challenge.rw_pq0065_03.Holds := by
 refine PySem.W.holds_law Mine.Internal.c3X λ_=>PySem.W.holds_open (q:=PySem.W.view PySem.Challenge.pw_pq0065_03 [24]) (loose:=Mine.Internal.a2p) (Xt:=λ_=>true) (XP:=λ_ _=>True) (Yf:=Mine.Internal.a3Y Mine.Internal.T03) (Ya:=λ_=>(true,Mine.Internal.b0Q Mine.Internal.T03 PySem.Challenge.pw_pq0065_03))
  (YP:=λ_ h=>Mine.Internal.b3s Mine.Internal.T03 (Mine.Internal.b0Q Mine.Internal.T03 PySem.Challenge.pw_pq0065_03) h) (N:=4000) Mine.Internal.b87 (λ_ _ e=>Mine.Internal.b7m e) (λ_ _ _ x k=>Mine.Internal.b0C x k) (λ_ _=>trivial) (λ_ _ _ _ _=>trivial) (by rfl) (by rfl) (by rfl) ?hR (by rfl) (by assumption) (by decide +kernel) ⟨rfl,rfl,rfl,rfl,rfl,by decide +kernel⟩ ?hw ?hc
 case hw=>w_witness2
 case hR=>exact λs _=>PySem.W.recFacts_of (s:=s) rfl
 case hc =>
  intro w s₀ s₁ mg mb G Y a o pm cd doc dV kV ho hd hcd hD hmg hg args vals as hpre hlay hrd hwl hlo;exact Mine.Internal.b4z (l:=PySem.Challenge.rw_pq0065_03) Mine.Internal.b7M Y Mine.Internal.c1b Mine.Internal.b9M G.T.g hmg Mine.Internal.b6T hg hpre hrd rfl rfl λsl hsl=>by
   (rewrite [Mine.Internal.b69];try rfl);exact Mine.Internal.b9j sl hsl
end
end
