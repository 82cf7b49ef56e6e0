import PyProof.Rows.All
import Wide.All
import OpenK.AllK
import Wide.FinOn
import PyProof.DictCompW
import KE.KDictSum
import KE.KSortTup
import KE.KDictLetter
import PySem.Challenge.RW_pq0065_01
noncomputable section
set_option autoImplicit false
set_option maxRecDepth 100000
set_option bootstrap.genMatcherCode false
set_option genSizeOf false
set_option linter.all false
set_option backward.match.sparseCases false
open PySem PySem.W PyProof.Rows PySem.Calls PySem.SeqAt PySem.MeetsSeq
@[elab_as_elim] theorem Mine.Internal.b9 {α:Sort _} {a b:α} {motive:α->Prop} (h:a=b) (x:motive b):motive a:=h▸x
local macro_rules |`(tactic|rw [$e:term])=>`(tactic|refine Mine.Internal.b9 $e ?_)
namespace Mine.Internal
noncomputable def c60:=@PySem.wpAny_bind
noncomputable def c61:=@PySem.wpAny_pure
noncomputable def c62:=@PySem.wpAny_mono
noncomputable def c63:=@PySem.wpAny_holding
noncomputable def c64:=@PySem.wpAny_call_entry
noncomputable def c65:=@PySem.wpAny_standAt
noncomputable def c66:=@PySem.wpAny_newObj_type
noncomputable def c67:=@PySem.Heap.get?_push_of_some
noncomputable def c68:=@PySem.Heap.get?_push_size
noncomputable def c69:=@PySem.Heap.get?_update_other
noncomputable def c7a:=@PySem.Heap.get?_update_self
noncomputable def c7b:=@PySem.Heap.SameBut.update
noncomputable def c7c:=@PySem.Heap.lt_size
noncomputable def c7d:=@Nat.le_of_ble_eq_true
noncomputable def c7e:=@List.mem_of_getElem?
noncomputable def c7f:=@List.length_map
noncomputable def c7g:=@Nat.le_trans
noncomputable def c7h:=@List.getElem?_eq_getElem
noncomputable def c7i:=@List.mem_cons_of_mem
noncomputable def c7j:=@List.mem_cons_self
noncomputable def c7k:=@Nat.lt_of_le_of_lt
noncomputable def c7l:=@Nat.le_refl
noncomputable def c7m:=@List.getElem?_map
noncomputable def c7n:=@of_decide_eq_true
noncomputable def c7o:=@congrArg
noncomputable def c7p:=@Option.some.inj
noncomputable def c7q:=@Nat.zero_le
noncomputable def c7r:=@List.map_congr_left
noncomputable def c7s:=@List.mem_append_left
noncomputable def c7t:=@List.mem_append_right
noncomputable def c7u:=@Bool.false_ne_true
noncomputable def c7v:=@Nat.lt_of_lt_of_le
noncomputable def c7w:=@List.getD_eq_getElem?_getD
noncomputable def c7x:=@Nat.add_le_add_left
noncomputable def c7y:=@Nat.lt_succ_self
noncomputable def c7z:=@Nat.le_of_eq
noncomputable def c7A:=@Nat.le_of_lt_succ
noncomputable def c7B:=@Nat.le_add_right
noncomputable def c7C:=@Int.natCast_nonneg
noncomputable def c7D:=@Classical.byContradiction
noncomputable def c7E:=@List.not_mem_nil
noncomputable def c7F:=@Nat.ne_of_lt
noncomputable def c7G:=@Nat.add_le_add_right
noncomputable def c7H:=@List.eq_nil_of_length_eq_zero
noncomputable def c7I:=@List.getElem?_eq_none
noncomputable def c7J:=@Nat.lt_irrefl
noncomputable def c7K:=@Array.length_toList
noncomputable def c7L:=@List.mem_of_find?_eq_some
noncomputable def c7M:=@Array.getElem?_eq_getElem
noncomputable def c7N:=@decide_eq_false
noncomputable def c7O:=@Nat.le_total
noncomputable def c7P:=@List.length_append
noncomputable def c7Q:=@Nat.lt_succ_of_le
noncomputable def c7S:=@Nat.succ_pos
noncomputable def c7T:=@List.map_append
noncomputable def c7U:=@List.map_map
noncomputable def c7V:=@Array.getElem?_toList
noncomputable def c7W:=@if_neg
noncomputable def c7X:=@if_pos
noncomputable def c7Y:=@absurd
noncomputable def c7Z:=@List.map_cons
noncomputable def c70:=@List.length_range
noncomputable def c71:=@List.lookup_cons
noncomputable def c72:=@List.length_cons
noncomputable def c73:=@Array.getD_eq_getD_getElem?
noncomputable def c74:=@Nat.le_of_lt
noncomputable def c75:=@Nat.le_add_left
noncomputable def c76:=@decide_eq_true
noncomputable def c77:=@Nat.lt_trans
noncomputable def c78:=@of_decide_eq_false
noncomputable def c8a:=@Int.le_trans
noncomputable def c8b:=@beq_self_eq_true
noncomputable def c8c:=@List.take_length
noncomputable def c8d:=@List.append_nil
noncomputable def c8e:=@Nat.mul_le_mul_left
noncomputable def c8f:=@Nat.add_le_add
noncomputable def c8g:=@List.nodup_nil
noncomputable def c8h:=@List.getElem?_append_left
noncomputable def c8j:=@eq_of_beq
noncomputable def c8k:=@Nat.lt_of_le_of_ne
noncomputable def c8l:=@List.size_toArray
noncomputable def c8m:=@Nat.succ_le_succ
noncomputable def c8n:=@Nat.lt_succ_of_lt
noncomputable def c8o:=@List.sum_cons
noncomputable def c8p:=@Nat.not_lt_zero
noncomputable def c8q:=@List.length_set
theorem c8r{α:Type _}{l:List α}{i:Nat}{a:α}(h:l[i]?=some a):∃h,l[i]'h=a:=List.getElem?_eq_some_iff.mp h
theorem c8s{α β:Type _}{f:α->β}{l:List α}{b:β}(h:b∈l.map f):∃a,a∈l/\f a=b:=List.mem_map.mp h
theorem c8t{α β:Type _}{f:α->β}{l:List α}{b:β}(h:∃a,a∈l/\f a=b):b∈l.map f:=List.mem_map.mpr h
theorem c8u{x y:Bool}(h:(x&&y)=true):x=true/\y=true:=Bool.and_eq_true_iff.mp h
theorem c8v{α β:Type _}{x:Option α}{f:α->β}{b:β}(h:x.map f=some b):∃a,x=some a/\f a=b:=Option.map_eq_some_iff.mp h
theorem c8w{α:Type _}{a:α}{s t:List α}(h:a∈s++t):a∈s\/a∈t:=List.mem_append.mp h
theorem c8x{α:Type _}{a b:α}(h:a∈[b]):a=b:=List.mem_singleton.mp h
theorem c8y{α:Type _}{x:Option α}(h:x.isSome=true):∃a,x=some a:=Option.isSome_iff_exists.mp h
theorem c8z{α:Type _}{a b:α}{l:List α}(h:a∈b::l):a=b\/a∈l:=List.mem_cons.mp h
theorem c8A{α:Type _}{a:α}{l:List α}(h:a∈l):∃i:Nat,l[i]?=some a:=List.mem_iff_getElem?.mp h
theorem c8B{α:Type _}{a b:α}(h:a=b):a∈[b]:=List.mem_singleton.mpr h
theorem c8C{m n:Nat}(h:m<n):m∈List.range n:=List.mem_range.mpr h
theorem c8D{m n:Nat}(h:m∈List.range n):m<n:=List.mem_range.mp h
theorem c8E{m n:Nat}(h:m<n):(m:Int)<n:=Int.ofNat_lt.mpr h
theorem c8F{m n:Nat}(h:m<=n):(m:Int)<=n:=Int.ofNat_le.mpr h
theorem c8G{x y:Bool}(h:x=true/\y=true):(x&&y)=true:=Bool.and_eq_true_iff.mpr h
abbrev c8H:=PySem.Expr
variable {P:Prop}{α1 α2 α3 α4 α5 α6:Sort _}
theorem eE {r:α1->Prop} (h:∃ q:α1,r q) (k:∀ q:α1,r q->P):P:=h.elim λq h=>k q h
theorem eA {q r:Prop} (h:q/\r) (k:q->r->P):P:=h.elim λq h=>k q h
theorem j5 {B r:α1->Prop} (h:∃ q:α1,B q/\r q) (k:∀ q:α1,B q->r q->P):P:=h.elim λq h=>h.elim λB h=>k q B h
theorem eAA {q B r:Prop} (h:q/\B/\r) (k:q->B->r->P):P:=h.elim λq h=>h.elim λB h=>k q B h
theorem eEE {r:α1->α2->Prop} (h:∃ q:α1,∃ B:α2,r q B) (k:∀ q:α1,∀ B:α2,r q B->P):P:=h.elim λq h=>h.elim λB h=>k q B h
theorem A6 {F r:α1->α2->Prop} (h:∃ q:α1,∃ B:α2,F q B/\r q B) (k:∀ q:α1,∀ B:α2,F q B->r q B->P):P:=h.elim λq h=>h.elim λB h=>h.elim λF h=>k q B F h
theorem y4 {B F r:α1->Prop} (h:∃ q:α1,B q/\F q/\r q) (k:∀ q:α1,B q->F q->r q->P):P:=h.elim λq h=>h.elim λB h=>h.elim λF h=>k q B F h
theorem b3d {q B F r:Prop} (h:q/\B/\F/\r) (k:q->B->F->r->P):P:=h.elim λq h=>h.elim λB h=>h.elim λF h=>k q B F h
theorem b8n {B:Prop} {F r:α1->Prop} (h:B/\∃ q:α1,F q/\r q) (k:B->∀ q:α1,F q->r q->P):P:=h.elim λB h=>h.elim λq h=>h.elim λF h=>k B q F h
theorem b98 {r:α1->α2->α3->Prop} (h:∃ q:α1,∃ B:α2,∃ F:α3,r q B F) (k:∀ q:α1,∀ B:α2,∀ F:α3,r q B F->P):P:=h.elim λq h=>h.elim λB h=>h.elim λF h=>k q B F h
theorem j9 {F J r:α1->α2->Prop} (h:∃ q:α1,∃ B:α2,F q B/\J q B/\r q B) (k:∀ q:α1,∀ B:α2,F q B->J q B->r q B->P):P:=h.elim λq h=>h.elim λB h=>h.elim λF h=>h.elim λJ h=>k q B F J h
theorem N1 {B F J r:α1->Prop} (h:∃ q:α1,B q/\F q/\J q/\r q) (k:∀ q:α1,B q->F q->J q->r q->P):P:=h.elim λq h=>h.elim λB h=>h.elim λF h=>h.elim λJ h=>k q B F J h
theorem a5M {J r:α1->α2->α3->Prop} (h:∃ q:α1,∃ B:α2,∃ F:α3,J q B F/\r q B F) (k:∀ q:α1,∀ B:α2,∀ F:α3,J q B F->r q B F->P):P:=h.elim λq h=>h.elim λB h=>h.elim λF h=>h.elim λJ h=>k q B F J h
theorem a5L {q B F J r:Prop} (h:q/\B/\F/\J/\r) (k:q->B->F->J->r->P):P:=h.elim λq h=>h.elim λB h=>h.elim λF h=>h.elim λJ h=>k q B F J h
theorem a1x {B F:Prop} {J r:α1->Prop} (h:B/\F/\∃ q:α1,J q/\r q) (k:B->F->∀ q:α1,J q->r q->P):P:=h.elim λB h=>h.elim λF h=>h.elim λq h=>h.elim λJ h=>k B F q J h
theorem P7 {F J:α1->Prop} {r:α1->α2->Prop} (h:∃ q:α1,F q/\J q/\∃ B:α2,r q B) (k:∀ q:α1,F q->J q->∀ B:α2,r q B->P):P:=h.elim λq h=>h.elim λF h=>h.elim λJ h=>h.elim λB h=>k q F J B h
theorem b0p {B F J:Prop} {r:α1->Prop} (h:B/\F/\J/\∃ q:α1,r q) (k:B->F->J->∀ q:α1,r q->P):P:=h.elim λB h=>h.elim λF h=>h.elim λJ h=>h.elim λq h=>k B F J q h
theorem a1y {B:Prop} {F J r:α1->Prop} (h:B/\∃ q:α1,F q/\J q/\r q) (k:B->∀ q:α1,F q->J q->r q->P):P:=h.elim λB h=>h.elim λq h=>h.elim λF h=>h.elim λJ h=>k B q F J h
theorem J6 {F J O r:α1->α2->Prop} (h:∃ q:α1,∃ B:α2,F q B/\J q B/\O q B/\r q B) (k:∀ q:α1,∀ B:α2,F q B->J q B->O q B->r q B->P):P:=h.elim λq h=>h.elim λB h=>h.elim λF h=>h.elim λJ h=>h.elim λO h=>k q B F J O h
theorem a0M {J O r:α1->α2->α3->Prop} (h:∃ q:α1,∃ B:α2,∃ F:α3,J q B F/\O q B F/\r q B F) (k:∀ q:α1,∀ B:α2,∀ F:α3,J q B F->O q B F->r q B F->P):P:=h.elim λq h=>h.elim λB h=>h.elim λF h=>h.elim λJ h=>h.elim λO h=>k q B F J O h
theorem a4E {B F J O r:α1->Prop} (h:∃ q:α1,B q/\F q/\J q/\O q/\r q) (k:∀ q:α1,B q->F q->J q->O q->r q->P):P:=h.elim λq h=>h.elim λB h=>h.elim λF h=>h.elim λJ h=>h.elim λO h=>k q B F J O h
theorem b8o {F:Prop} {J O r:α1->α2->Prop} (h:F/\∃ q:α1,∃ B:α2,J q B/\O q B/\r q B) (k:F->∀ q:α1,∀ B:α2,J q B->O q B->r q B->P):P:=h.elim λF h=>h.elim λq h=>h.elim λB h=>h.elim λJ h=>h.elim λO h=>k F q B J O h
theorem B0 {F J O R r:α1->α2->Prop} (h:∃ q:α1,∃ B:α2,F q B/\J q B/\O q B/\R q B/\r q B) (k:∀ q:α1,∀ B:α2,F q B->J q B->O q B->R q B->r q B->P):P:=h.elim λq h=>h.elim λB h=>h.elim λF h=>h.elim λJ h=>h.elim λO h=>h.elim λR h=>k q B F J O R h
theorem a1i {J O R r:α1->α2->α3->Prop} (h:∃ q:α1,∃ B:α2,∃ F:α3,J q B F/\O q B F/\R q B F/\r q B F) (k:∀ q:α1,∀ B:α2,∀ F:α3,J q B F->O q B F->R q B F->r q B F->P):P:=h.elim λq h=>h.elim λB h=>h.elim λF h=>h.elim λJ h=>h.elim λO h=>h.elim λR h=>k q B F J O R h
theorem a2U {B F J O R r:α1->Prop} (h:∃ q:α1,B q/\F q/\J q/\O q/\R q/\r q) (k:∀ q:α1,B q->F q->J q->O q->R q->r q->P):P:=h.elim λq h=>h.elim λB h=>h.elim λF h=>h.elim λJ h=>h.elim λO h=>h.elim λR h=>k q B F J O R h
theorem T5 {F J O:Prop} {R r:α1->α2->Prop} (h:F/\J/\O/\∃ q:α1,∃ B:α2,R q B/\r q B) (k:F->J->O->∀ q:α1,∀ B:α2,R q B->r q B->P):P:=h.elim λF h=>h.elim λJ h=>h.elim λO h=>h.elim λq h=>h.elim λB h=>h.elim λR h=>k F J O q B R h
theorem a4l {O R r:α1->α2->α3->α4->Prop} (h:∃ q:α1,∃ B:α2,∃ F:α3,∃ J:α4,O q B F J/\R q B F J/\r q B F J) (k:∀ q:α1,∀ B:α2,∀ F:α3,∀ J:α4,O q B F J->R q B F J->r q B F J->P):P:=h.elim λq h=>h.elim λB h=>h.elim λF h=>h.elim λJ h=>h.elim λO h=>h.elim λR h=>k q B F J O R h
theorem a7Q {F J O R U r:α1->α2->Prop} (h:∃ q:α1,∃ B:α2,F q B/\J q B/\O q B/\R q B/\U q B/\r q B) (k:∀ q:α1,∀ B:α2,F q B->J q B->O q B->R q B->U q B->r q B->P):P:=h.elim λq h=>h.elim λB h=>h.elim λF h=>h.elim λJ h=>h.elim λO h=>h.elim λR h=>h.elim λU h=>k q B F J O R U h
theorem a7R {J O R U r:α1->α2->α3->Prop} (h:∃ q:α1,∃ B:α2,∃ F:α3,J q B F/\O q B F/\R q B F/\U q B F/\r q B F) (k:∀ q:α1,∀ B:α2,∀ F:α3,J q B F->O q B F->R q B F->U q B F->r q B F->P):P:=h.elim λq h=>h.elim λB h=>h.elim λF h=>h.elim λJ h=>h.elim λO h=>h.elim λR h=>h.elim λU h=>k q B F J O R U h
theorem a7P {B F J O R U r:α1->Prop} (h:∃ q:α1,B q/\F q/\J q/\O q/\R q/\U q/\r q) (k:∀ q:α1,B q->F q->J q->O q->R q->U q->r q->P):P:=h.elim λq h=>h.elim λB h=>h.elim λF h=>h.elim λJ h=>h.elim λO h=>h.elim λR h=>h.elim λU h=>k q B F J O R U h
theorem a3y {O R:α1->α2->Prop} {U V r:α1->α2->α3->α4->Prop} (h:∃ q:α1,∃ B:α2,O q B/\R q B/\∃ F:α3,∃ J:α4,U q B F J/\V q B F J/\r q B F J) (k:∀ q:α1,∀ B:α2,O q B->R q B->∀ F:α3,∀ J:α4,U q B F J->V q B F J->r q B F J->P):P:=h.elim λq h=>h.elim λB h=>h.elim λO h=>h.elim λR h=>h.elim λF h=>h.elim λJ h=>h.elim λU h=>h.elim λV h=>k q B O R F J U V h
theorem a1j {U V W Y Z:α1->α2->α3->α4->α5->Prop} {r:α1->α2->α3->α4->α5->α6->Prop} (h:∃ q:α1,∃ B:α2,∃ F:α3,∃ J:α4,∃ O:α5,U q B F J O/\V q B F J O/\W q B F J O/\Y q B F J O/\Z q B F J O/\∃ R:α6,r q B F J O R) (k:∀ q:α1,∀ B:α2,∀ F:α3,∀ J:α4,∀ O:α5,U q B F J O->V q B F J O->W q B F J O->Y q B F J O->Z q B F J O->∀ R:α6,r q B F J O R->P):P:=h.elim λq h=>h.elim λB h=>h.elim λF h=>h.elim λJ h=>h.elim λO h=>h.elim λU h=>h.elim λV h=>h.elim λW h=>h.elim λY h=>h.elim λZ h=>h.elim λR h=>k q B F J O U V W Y Z R h
@[elab_as_elim] theorem w3 {α:Sort _} {a b:α} {motive:α->Prop} (h:b=a) (x:motive b):motive a:=h▸x
@[elab_as_elim] theorem O0 {a b:Prop} {motive:Prop->Prop} (h:a↔b) (x:motive b):motive a:=propext h▸x
theorem E0 {α:Type _} {a x:α} (h:some a=some x):a=x:=c7p h
variable {x0 x1 x2 x3 x4 x5:Nat}
theorem zo0:x0 < x1->x0+1 < x1+1:=λq=>Nat.add_lt_add_right q 1
theorem zo1:x0 < x1->x0 < x1+1:=λq=>Nat.lt_add_right 1 q
theorem zo2:x0+1 < x1+1->x0 < x1:=λq=>Nat.succ_lt_succ_iff.mp q
theorem zo3:x0+1 < x1->x0 < x1:=by lia
theorem zo4:x0<=6->x0+1<=17:=by lia
theorem zo5:x0<=2->x0+1<=1000000:=by lia
theorem zo6:x0<=2->x0<=1000000:=by lia
theorem zo7:0 < x0+1:=by lia
theorem zo8:x0 < 17->x0<=1000000:=λq=>c74 (c7v q (c7d rfl))
theorem zo9:x0 < 64->x0<=16777216:=λq=>c74 (c7v q (c7d rfl))
theorem b2B:(↑x0:Int)=(↑x1:Int)->x0=x1:=λq=>Int.ofNat_inj.mp q
theorem c6U:0<=16777216:=c7q 16777216
theorem b5m:x0<=2->x0<=17:=λq=>c7g q (c75 _ _)
theorem b5n:x0+200 < x1->x0+65 < x1:=λq=>c7k (c7x (c7d rfl) _) q
theorem b5o:x0+64 < x1->x0+7 < x1:=λq=>c7k (c7x (c7d rfl) _) q
theorem b5p:¬x1 < x0->x0<=x1:=λq=>Nat.le_of_not_lt q
theorem b5q:x0 < x1+1->x0 < x1+1+x2:=by lia
theorem b69:x0 < 64->x0<=1000000:=by lia
theorem b7a:¬x0 < x1+1->x0=x1+1+(x0 - (x1+1)):=λa=>(Nat.add_sub_of_le (Nat.le_of_not_lt a)).symm
theorem b7b:x1=x2+1->x0 < x2+1->x0 < x1:=by lia
theorem b7c:x2+1+x0 < x2+1+x1->x0 < x1:=by lia
theorem b7d:x3=x0+1+x1+x4->x2 < x4->x0+1+x1+x2 < x3:=by lia
theorem b9u:x0 < x0+1:=Nat.lt_add_one x0
theorem b9v:x0<=100->x0 < 1000:=by lia
theorem b9w:x0<=2->1+x0<=1000000:=by lia
theorem b9x:-(↑x0:Int)<=(↑x1:Int):=Int.neg_natCast_le_natCast x0 x1
theorem b9y:max (↑x0:Int) (↑x1:Int)=(↑(max x0 x1):Int):=(Lean.Omega.Int.ofNat_max x0 x1).symm
theorem b9z:x0+(x1+1)=x0+1+x1:=Eq.symm (Nat.succ_add_eq_add_succ x0 x1)
theorem b9A:x0 < x1+1->¬x0=x1->x0 < x1:=by lia
theorem b9B:x0 < x1->x0=x1->False:=λq B=>c7F q B
theorem b9C:x0 < x1->¬x0+1 < x1->x0+1=x1:=by lia
theorem b9D:x0<=x0+x1:=c7B x0 x1
theorem b9E:x1<=6->x0<=x1+1->x0<=17:=by lia
theorem b9F:¬x0=x1+1->x0<=x1+1->x0<=x1:=by lia
theorem b9G:x0+1+x1<=x0+1+x1+x2:=by lia
theorem b7e:x1<=x2->x0 < x1->(x0+x1) / 2 < x2:=λq B=>Nat.div_lt_of_lt_mul (Nat.lt_of_lt_of_eq (Nat.add_lt_add_of_lt_of_le (c7v B q) q) (Nat.two_mul x2).symm)
theorem b9H:¬x0 < x1+1+x2->x0=x1+1+x2+(x0 - (x1+1+x2)):=λa=>(Nat.add_sub_of_le (Nat.le_of_not_lt a)).symm
theorem b9I:x1<=6->x2<=2->x3<=2->x0=x1+1+x3+x2+1->x0<=17:=λa b c d=>c7g (c7z d) (c7g (c7G (c8f (c8f (c7G a 1) c) b) 1) (by decide))
theorem c6V:0+1+1+1+1+1<=16777216+2:=c75 (0+1+1+1+1+1) 16777213
theorem c5d:1<=1000000:=by lia
theorem c5e {q:Int}:q+(↑(x1+(1:Nat)):Int)=q+(↑x1:Int)+(1:Int):=(Int.add_assoc q (x1:Int) 1).symm
theorem c6W:x0+1<=x0+1:=c7l (x0+1)
theorem c5f:x0 - 0 < x0+1:=Nat.sub_lt_succ x0 0
theorem c5g:x0<=6->x0+1<=1000000:=by lia
theorem c5h:x0<=6->x0<=1000000:=by lia
theorem c5i:(↑((1:Nat)+max x0 x1):Int)=(1:Int)+(↑(max x0 x1):Int):=by lia
theorem c5j:(↑x0:Int) - (↑(x1+(1:Nat)):Int)=(↑x0:Int) - (↑x1:Int) - (1:Int):=(Int.sub_sub _ (x1:Int) 1).symm
theorem c5k:min (↑x0:Int) (↑x1:Int)=(↑(min x0 x1):Int):=(Lean.Omega.Int.ofNat_min x0 x1).symm
theorem c6q:x0+100 < x1->x0+1+64 < x1:=by lia
theorem c5l:x0 < x1->x0 - 1 < x1:=λa=>c7k (Nat.sub_le _ _) a
theorem c5m:x0=0\/x1=0->x0=x1->x0=0:=by lia
theorem c5n:x0=1+x1->0 < x0:=by lia
theorem c5o:x0=x1->x0 < x1+1:=by lia
theorem c5p:x0≠0->x0 * 128+x1≠0:=λh e=>h ((Nat.mul_eq_zero.mp (Nat.eq_zero_of_add_eq_zero_right e)).resolve_right (Nat.succ_ne_zero 127))
theorem b5r:x0≠x1->min x0 x1≠max x0 x1:=λq e=>q (Nat.le_antisymm (c7g (Nat.le_max_left x0 x1) (c7g (c7z e.symm) (Nat.min_le_right x0 x1))) (c7g (Nat.le_max_right x0 x1) (c7g (c7z e.symm) (Nat.min_le_left x0 x1))))
theorem c5q:x0≠x1->min x0 x1 < max x0 x1:=λq=>c8k (c7g (Nat.min_le_left _ _) (Nat.le_max_left _ _)) (b5r q)
theorem c5r:x1 < 3->x0 < x1->x0 < 2:=by lia
theorem c5s:x1 < 3->x0 < x1->x0<=20:=by lia
theorem c5t:x1 < x0->x0 - 1 < x0:=λa=>Nat.sub_lt (c7k (c7q _) a) Nat.one_pos
theorem c5u:x1=0->¬x0 < x1:=by lia
theorem c5v:x1=7/\x0=4->x0+1<=16777216:=by lia
theorem c5w:x1<=6->x0 < x1->x0<=1000000:=by lia
theorem c5x:x0+(x1+1) < x2->x0+x1 < x2:=by lia
theorem c5y:x0+(x1+1)<=x2->x0+1+x1<=x2:=by lia
theorem c5z:x0+(x2+1)=x1->x0 < x1:=by lia
theorem c5A:x0<=6->x2 < 3->x1 < x2->x0+1+x1<=17:=λa b c=>c7g (c8f (c7G a 1) (c74 (c77 c b))) (by decide)
theorem c6r:x1 - x0=x2+1->x0 < x1:=λq=>Nat.lt_of_sub_ne_zero λe=>Nat.succ_ne_zero x2 (q.symm.trans e)
theorem c5B:x1 < x2->x0+1+x1 < x0+1+x2:=by lia
theorem c5C:x2+1+x0 < x2+1+x1+0->x0 < x1:=by lia
theorem c5D:x2+1 < x1->x0<=x2->x0+1 < x1:=by lia
theorem c5E:x2+1<=x1->x0 < x2+1->x0 < x1:=by lia
theorem c5F:x2 < x1->x0 < x2->x0+1 < x1+1:=by lia
theorem c5G:¬x0+1+x1+x2 < x0+1:=by lia
theorem c5H:¬x0+1+x1+x2 < x0+1+x1:=by lia
theorem c5I:x0+65 < x3->x1<=20->x0+1+min x1 x2 < x3:=λq B=>c7k (show x0+1+min x1 x2<=x0+1+64 from c7x (c7g (Nat.min_le_left _ _) (c7g B (c7d rfl))) _) q
theorem c5J:x0 < x1+1->x0 < x1+1+x2+x3:=λa=>c7v a (c7g (c7B _ _) (c7B _ _))
theorem c5K:x0<=x2->x1<=x3->1+max x0 x1<=1+max x2 x3:=λa b=>c7x (Nat.max_le.mpr ⟨c7g a (Nat.le_max_left _ _),c7g b (Nat.le_max_right _ _)⟩) 1
theorem c5L:x0<=x3+x2->x3<=x1+1->x0<=x1+(x2+1):=by lia
theorem c5M:x2 < x3->x0+1+x1+x2 < x0+1+x1+x3:=by lia
theorem c5N:¬x0+1 < x1->x2+(x3+1) < x1->x0=x2+x3->False:=λa b c=>a (c7k (c7z (c7o (·+1) c)) b)
theorem c5O:x0=x1+1+x2+x4->¬x3 < x4->x0<=x1+1+x2+x3:=λa b=>c7g (c7z a) (c7x (Nat.le_of_not_lt b) _)
theorem c5P:x1=x2+1+x3+x4+1->x0+1 < x2+1->x0 < x1:=λa b=>c7v (Nat.lt_of_succ_lt b) (c7g (c7B _ x3) (c7g (c7B _ (x4+1)) (c7z a.symm)))
theorem c5Q:x1=x2+1+x3+x4+1->x0 < x2+1+x3->x0 < x1:=by lia
theorem c5R:x1=x2+1+x3+x4+1->x0 < x2+1->x0 < x1:=by lia
theorem c5S:x1=x2+1+x3+x4->x0 < x2+1+x3->x0 < x1:=by lia
theorem c5T:x1=x2+1+x3+x4->x0 < x2+1->x0 < x1:=by lia
theorem c5U:x1<=6->x2<=2->x3 < 2->x4=1+x3->x0=x1+1+x2+x4->x0<=17:=λa b c d e=>c7g (c7z e) (c7g (c8f (c8f (c7G a 1) b) (c7g (c7z d) (c7x (c74 c) 1))) (by decide))
theorem c5V:x4 < x2 - x3+1->x0 < x1+x4->x0 - x1<=x2 - x3:=λh g=>c7g (Nat.sub_le_iff_le_add'.mpr (c74 g)) (c7A h)
theorem c5W:x1=x2+1+x3+x4+1->x5 < x4->x0=x2+1+x3+x5->x0 < x1:=λa b c=>c7k (c7z c) (c7v (Nat.add_lt_add_left b _) (c7g (Nat.le_succ _) (c7z a.symm)))
theorem c6s:(0:Int) < (4:Int):=by lia
theorem c6t:(0:Int) < (89:Int):=by lia
theorem c6u:(0:Int) < (997:Int):=by lia
theorem c6v:(0:Int)<=(11:Int):=by lia
theorem c6w:0 < 1000:=by lia
theorem c6x:0 < 17:=by lia
theorem c6y:1<=100:=by lia
theorem c6z:(11:Int)<=(1000000:Int):=by lia
theorem c6A:(4:Int) < (1073741824:Int):=by lia
theorem c6B:40<=1000000:=by lia
theorem c6C:40<=50:=by lia
theorem c6D {q:Int}:(0:Int)<=q/\q < (↑x1:Int)->-(2:Int) ^ (63:Nat)<=q:=λB=>c8a (by decide) B.1
theorem c0H {q:Int}:q < (0:Int)/\-(↑x1:Int)<=q->(0:Int)<=q+(↑x1:Int)/\q+(↑x1:Int) < (↑x1:Int):=λh=>⟨c8a (Int.le_of_eq (Int.add_left_neg (↑x1:Int)).symm) (Int.add_le_add_right h.2 _),Int.lt_of_lt_of_le (Int.add_lt_add_right h.1 _) (Int.le_of_eq (Int.zero_add _))⟩
theorem c0I {q:Int}:q < (0:Int)/\-(↑x1:Int)<=q->(q+(↑x1:Int)).toNat < x1:=λh=>(Int.toNat_lt (c8a (Int.le_of_eq (Int.add_left_neg (↑x1:Int)).symm) (Int.add_le_add_right h.2 _))).mpr (Int.lt_of_lt_of_le (Int.add_lt_add_right h.1 _) (Int.le_of_eq (Int.zero_add _)))
theorem c0J {q:Int}:q < (0:Int)/\-(↑x1:Int)<=q->q < (2:Int) ^ (63:Nat):=λB=>Int.lt_trans B.1 (by decide)
theorem c0K {q:Int}:q < (↑x1:Int)->x1<=(1000000:Nat)->q < (2:Int) ^ (63:Nat):=λh a=>Int.lt_of_lt_of_le h (c8a (c8F a) (by decide))
theorem c0L {q:Int}:x1<=(1000000:Nat)->(0:Int)<=q/\q < (↑x1:Int)->q < (2:Int) ^ (63:Nat):=λa h=>Int.lt_of_lt_of_le h.2 (c8a (c8F a) (by decide))
theorem c0M {q:Int}:x1<=(1000000:Nat)->q < (0:Int)/\-(↑x1:Int)<=q->-(2:Int) ^ (63:Nat)<=q:=λa h=>c8a (c8a (by decide) (Int.neg_le_neg (c8F a))) h.2
theorem c0N {q:Int}:(0:Int)<=q->q<=(1000000:Int)->-(2:Int) ^ (60:Nat) < q/\q < (2:Int) ^ (60:Nat):=λa b=>⟨Int.lt_of_lt_of_le (by decide) a,Int.lt_of_le_of_lt b (by decide)⟩
theorem c0O {q:Int}:(q - (0:Int)).toNat=((↑q.toNat:Int) - (0:Int)).toNat:=(c7o Int.toNat (Int.sub_zero q)).trans (c7o Int.toNat (Int.sub_zero (↑q.toNat:Int))).symm
theorem c0P {q:Int}:-(2:Int) ^ (60:Nat) < q/\q < (2:Int) ^ (60:Nat)->-(2:Int) ^ (64:Nat) < q:=λB=>c8a (by decide) B.1
theorem c0Q {q:Int}:-(2:Int) ^ (60:Nat) < q/\q < (2:Int) ^ (60:Nat)->q < (2:Int) ^ (64:Nat):=λB=>c8a B.2 (by decide)
theorem c0R {x0:Int}:-(2:Int) ^ (63:Nat)<=x0->x0 < (2:Int) ^ (63:Nat)->(-9223372036854775808:Int)<=x0/\x0 < (9223372036854775808:Int):=λa b=>⟨a,b⟩
theorem c0S {q:Int}:q+(1:Int)=q->False:=λB=>Int.ne_of_gt (Int.lt_add_one_of_le (Int.le_refl _)) B
theorem c0T {q:Int}:q<=(↑(1000000:Nat):Int)->q.toNat<=(2:Nat) ^ (24:Nat):=λh=>Int.toNat_le.mpr (c8a h (by decide))
theorem c0U {q:Int}:x2=x0->q < (0:Int)/\-(↑x2:Int)<=q->-(↑x0:Int)<=q:=λa h=>a▸h.2
theorem c0V:((↑x0:Int) - (0:Int)).toNat=x0:=Nat.add_zero x0
theorem c0W:(0:Int)+(↑x0:Int) * (1:Int)=(↑((0:Nat)+x0):Int):=Int.zero_add (↑x0 * 1)
theorem c0X:(0:Int)<=(5:Int) * (↑(x0+(1:Nat)):Int):=by lia
theorem c0Y:(↑x0:Int)+(2:Int)=(↑(x0+(1:Nat)+(1:Nat)):Int):=by lia
theorem c0Z:(↑x0:Int) < (2:Int) ^ (63:Nat)->¬(↑x0:Int) < -(2:Int) ^ (63:Nat)/\¬(↑x0:Int)>=(2:Int) ^ (63:Nat):=λq=>⟨Int.not_lt.mpr (c8a (by decide) (c7C x0)),Int.not_le.mpr q⟩
theorem c00:-(2:Int) ^ (63:Nat)<=(↑x0:Int):=by lia
theorem c01:-(↑(1000000:Nat):Int)<=(↑(x0+(1:Nat)):Int):=Int.neg_natCast_le_natCast 1000000 (x0+1)
theorem c02:x0+1≠x0:=Ne.symm (Nat.ne_add_one x0)
theorem c03:x0+1<=6->x0<=6:=by lia
theorem c04:x0 - 0<=x0:=Nat.sub_le x0 0
theorem c05:x0 < (1000:Nat)->(5:Int) * (↑(x0+(1:Nat)):Int)<=(1000000:Int):=by lia
theorem c06:x0 < (1000:Nat)->(↑(x0+(1:Nat)):Int)<=(1000000:Int):=by lia
theorem zx1:x2=x0->x2<=x1->x0<=x1:=λq B=>le_of_eq_of_le (id (Eq.symm q)) B
theorem c07:x0 < 17->x0+1<=17:=λq=>zx1 rfl q
theorem c08:x0 < 3->x0<=2:=by lia
theorem c09:x0 < 4->3+x0<=6:=by lia
theorem c1a:x0 < 900->x0+1 < 1000:=by lia
theorem c1b:x0 < 900->x0 < 1000:=by lia
theorem c1c:x0=1->x0<=20:=by lia
theorem c1d:x0=1->x0<=3:=by lia
theorem c1e:x0=5->x0<=18:=by lia
theorem c1f:x0<=1+5->x0<=100:=by lia
theorem c1g:x0<=10->x0+1<=17:=by lia
theorem c1h:x0<=10->x0<=17:=by lia
theorem c1i:x0<=(100:Nat)->(1:Nat) * (↑x0:Int).toNat<=(2:Nat) ^ (24:Nat):=λa=>c7g (c7z (Nat.one_mul _)) (c7g a (by decide))
theorem c1j:x0<=(100:Nat)->(↑x0:Int) < (2:Int) ^ (63:Nat):=λa=>Int.lt_of_le_of_lt (c8F a) (by decide)
theorem c1k:x0<=(1000000:Nat)->(↑x0:Int) < (2:Int) ^ (63:Nat):=λq=>Int.lt_of_le_of_lt (c8F q) (by decide)
theorem c1l:x0<=2 ^ 24->x0<=16777216:=by lia
theorem c1m:x0<=2 ^ 24->¬x0 > (2 ^ 63 - 1) / 8:=by lia
theorem c1n:x0<=2->x0+1<=17:=by lia
theorem c1o:x0<=2->x0+1<=3:=by lia
theorem c1p:x0<=(20:Nat)->(↑x0:Int)<=(1000000:Int):=by lia
theorem c1q:x0<=200->x0+1+1 < 900:=λa=>c7k (c7G a 2) (by decide)
theorem c1r:x0<=200->x0+1 < 1000:=by lia
theorem c1s:x0<=200->x0 < 1000:=by lia
theorem c1t:x0<=4->x0<=10:=by lia
theorem c1u:x0<=4->x0<=5:=by lia
theorem c1v:x0<=40->1+300+6 * x0+5<=990:=by lia
theorem c1w:x0<=40->4+200 * x0+200<=9900:=by lia
theorem c1x:x0<=40->x0<=50:=by lia
theorem c1y:x0<=5->x0<=1000000:=by lia
theorem c1z:x0<=(6:Nat)->(↑(x0+(1:Nat)):Int)<=(↑(1000000:Nat):Int):=by lia
theorem c1A:x0<=8->x0 < 20:=by lia
theorem c1B:x0<=900->x0+1 < 1000:=by lia
theorem c1C:x0<=900->x0 < 1000:=by lia
theorem c1D:x0<=x0+1:=c7B x0 1
theorem c1E:¬(0:Int)<=(↑x0:Int)->False:=λq=>q (c7C _)
theorem c1F:(-(↑x0:Int)+(↑x1:Int)).toNat=x1 - x0:=(c7o Int.toNat (Int.add_comm _ _)).trans (Int.toNat_sub x1 x0)
theorem c1G:(0:Nat) < x0->x0<=x1->-(↑x0:Int) < (0:Int)/\-(↑x1:Int)<=-(↑x0:Int):=λa b=>⟨Int.neg_neg_of_pos (c8E a),Int.neg_le_neg (c8F b)⟩
theorem c1H:(0:Nat) < x0->¬((0:Int)<=-(↑x0:Int)/\-(↑x0:Int) < (↑x1:Int)):=λa b=>c7Y b.1 (Int.not_le.mpr (Int.neg_neg_of_pos (c8E a)))
theorem c1I:(1:Int)+max (↑x0:Int) (↑x1:Int)=(↑((1:Nat)+max x0 x1):Int):=by lia
theorem c1J:(x0=min x0 x1\/x0=max x0 x1)/\(x1=min x0 x1\/x1=max x0 x1):=(c7O x0 x1).elim (λh=>⟨.inl (Nat.min_eq_left h).symm,.inr (Nat.max_eq_right h).symm⟩) (λh=>⟨.inr (Nat.max_eq_left h).symm,.inl (Nat.min_eq_right h).symm⟩)
theorem c1K:(↑(min x0 x1):Int)=(↑(max x0 x1):Int)->x0=x1:=λq=>Decidable.byContradiction λh=>b5r h (Int.ofNat_inj.mp q)
theorem c1L:(↑x0:Int)+(1:Int) < (↑x1:Int)->x0+(1:Nat) < x1:=by lia
theorem c1M:(↑x0:Int)+(1:Int)=(↑x1:Int)->x0+(1:Nat)=x1:=by lia
theorem c1N:(↑x0:Int) < (↑x1:Int)->x0=x1->False:=λq B=>c7F (Int.ofNat_lt.mp q) B
theorem c1O:min x0 x1+(x1 - x0+1)=x1+1:=c7o Nat.succ ((Nat.add_comm _ _).trans ((c7o (x1 - x0+·) (Nat.min_comm x0 x1)).trans (Nat.sub_add_min_cancel x1 x0)))
theorem c1P:x0+1+2 * x1+2=x0+1+2 * (x1+1):=by lia
theorem c1Q:x0+1+x1 - x0=x1+1:=(c7o (· - x0) (Nat.add_assoc x0 1 x1)).trans ((Nat.add_sub_cancel_left ..).trans (Nat.add_comm 1 x1))
theorem c1R:x0+1 < x1+1->x0 < x1+1:=by lia
theorem c1S:x0+1 < x1+1->x0=x1->False:=by lia
theorem c1T:x0+1<=x0+1+x1:=by lia
theorem c1U:x0+100 < x1->x0+1+7 < x1:=by lia
theorem c1V:x0+110 < x1->x0+1+1+100 < x1:=λh=>c7k (c7x (c7d rfl:102<=110) x0) h
theorem c1W:x0+200 * (x1+1)+200<=9900->x0+3+2 * 40+200 * x1+300<=9900:=by lia
theorem c1X:x0+200 < x1->x0+1+64 < x1:=by lia
theorem c1Y:x0+4 * x1+4=x0+4 * (x1+1):=by lia
theorem c1Z:x0+6 * (x1+1)+5<=990->x0+1+6 * x1+10<=990:=by lia
theorem c18:x0+6 * (x1+1)+5<=990->x0 < 1000:=by lia
theorem c19:x0+x1=x1+x0:=Nat.add_comm x0 x1
theorem c2a:x0 < x1+1->13+x0 < 0+(x1+15):=by lia
theorem c2b:x0 < x1->(x0+x1) / 2+1<=x1:=λh=>(Nat.div_lt_iff_lt_mul Nat.zero_lt_two).mpr (c7v (Nat.add_lt_add_right h x1) (c7z (Nat.mul_two x1).symm))
theorem c2c:x0 < x1->x0<=(x0+x1) / 2:=λq=>(Nat.le_div_iff_mul_le (c7S 1)).mpr (Nat.mul_two x0▸c7x (c74 q) x0)
theorem c2d:x0 < x1->x1<=(17:Nat)->(↑x0:Int) < (17:Int):=λq B=>Int.lt_of_lt_of_le (c8E q) (c8F B)
theorem c2e:x0 < x1->¬(↑x0:Int)+(1:Int)=(↑x1:Int)->x0+(1:Nat) < x1:=by lia
theorem c2f:x0 < x1->¬(↑x0:Int) < (↑x1:Int)->False:=λq B=>B (c8E q)
theorem c2g:x0=0->x1=0->x0=x1:=by lia
theorem c2h:x0=x1+1->x0<=x1->False:=by lia
theorem c2i:x0=x1+1->x1<=6->x0<=17:=by lia
theorem zx2:x2=x1->x0 < x2->x0 < x1:=λq B=>Nat.lt_of_lt_of_eq B q
theorem c2j:x0=x1->0 < x1->0 < x0:=λq B=>zx2 (id (Eq.symm q)) B
theorem c2k:x0=x1->x0 < x1->False:=λq B=>c7F B q
theorem c2l:x0=x1->x0<=0+x1:=by lia
theorem c2m:x0=x1->x1 < x0->False:=λq B=>c7F B q.symm
theorem c2n:x0<=0+x1->x0<=2 * x1:=by lia
theorem c2o:x0<=0+x1->x0<=x1:=by lia
theorem c2p:x0<=10->x1<=10->x0+x1<=1000000:=by lia
theorem c2q:x0<=100000->x1<=100000->x0+x1<=1000000:=λq B=>c7g (c8f q B) (c7d rfl)
theorem c2r:x0<=x1+1->x0+1<=x1+1+1:=by lia
theorem c2s:x0<=x1+x0:=by lia
theorem c2t:x0<=x1 - 1->0 < x1->x0+1<=x1:=λq B=>Nat.add_le_of_le_sub B q
theorem c2u:x0<=x1->x1+1=x0->False:=λq B=>c7J _ (B▸q)
theorem c2v:x0<=x1->x1+1<=x0->False:=by lia
theorem c2w:x0<=x1->x1≠x0->x0+1<=x1:=by lia
theorem c2x:x0<=x1->¬x1=x0->x0<=x1 - 1:=λa b=>Nat.le_sub_one_of_lt (c8k a λq=>b q.symm)
theorem c2y:x1 < 128->x0 * 128+x1+1<=(x0+1) * 128:=by lia
theorem c2z:x1 < (17:Nat)->x0 < x1->(↑x0:Int) < (17:Int):=λa b=>c8E (c77 b a)
theorem c2A:x1 < 17->x0<=x1->x0<=1000000:=by lia
theorem c2B:x1 < 2->x0+1+2 * (1+x1)<=x0+5:=by lia
theorem c2C:x1 < 2->x0 < x1->x0=0:=by lia
theorem c2D:x1 < 2->x0=1+x1->x0<=17:=by lia
theorem c2E:x1 < 2->x0=1+x1->x0<=2:=by lia
theorem c2F:x1 < 3->x0+1+2 * x1<=x0+5:=by lia
theorem c2G:x1 < 3->x0+1+x1<=x0+3:=by lia
theorem c2H:x1 < 3->x0 < x1->x0+1+1<=17:=by lia
theorem c2I:x1 < 3->x0=x1->x0<=2:=by lia
theorem c2J:x1 < x0->x0 - 1+1=x0:=by lia
theorem c2K:x1 < x0->¬x0=0:=by lia
theorem c2L:x1=0\/x0=0->x1=x0->x0=0:=by lia
theorem c2M:x1=x0+1->x0 < x1:=by lia
theorem c2N:x1=x0->0+x0<=x1:=by lia
theorem c2O:x1=x0->x0 < x1+1:=by lia
theorem c2P:x1<=1+5->x0<=x1+3->x0<=100:=by lia
theorem c2Q:x1<=100000->x0<=100000->x0+x1<=1000000:=by lia
theorem c2R:x1<=1000000->x1=x0->x0<=16777216:=by lia
theorem c2S:x1<=15->x0=x1->x0 < 30:=by lia
theorem c2T:x1<=17->x0=x1->x0<=100000:=by lia
theorem c2U:x1<=17->x0<=34 * x1->x0<=100000:=by lia
theorem c2V:x1<=2->x0<=16->x0+x1<=1000000:=by lia
theorem c2W:x1<=(6:Nat)->x0 < x1+(1:Nat)->(↑x0:Int) < (↑(1000000:Nat):Int):=λa b=>c8E (c7k (c7A b) (c7k a (by decide)))
theorem c2X:x1<=(6:Nat)->x0 < x1+(1:Nat)->(↑x0:Int).toNat<=(1000000:Nat):=λa b=>c7g (c7A b) (c7g a (by decide))
theorem c2Y:x1<=6->x0 < x1->x0+1<=1000000:=by lia
theorem c2Z:x1<=6->x0 < x1->x0<=6:=by lia
theorem c20:x1<=6->x0<=x1+1->x0<=100:=by lia
theorem c21:x1<=x0->¬x0=x1->x0 - 1+1=x0:=λa b=>Nat.sub_add_cancel (c7k (c7q _) (c8k a λq=>b q.symm))
theorem c22:¬((↑x0:Int)=(-1:Int)\/(↑x1:Int)=(-1:Int)):=by lia
theorem c23:¬(↑(min x0 x1):Int)=(↑(max x0 x1):Int)->min x0 x1 < max x0 x1:=λh=>c8k (c7g (Nat.min_le_left x0 x1) (Nat.le_max_left x0 x1)) (λe=>h (c7o Nat.cast e))
theorem c24:¬(↑(min x0 x1):Int)=(↑(max x0 x1):Int)->x0≠x1:=λh e=>h (e▸c7o Nat.cast ((Nat.min_self x0).trans (Nat.max_self x0).symm))
theorem c25:¬(↑x0:Int)+(1:Int) < (↑x1:Int)->x0+(1:Nat) < x1->False:=by lia
theorem c26:¬(↑x0:Int)+(1:Int) < (↑x1:Int)->¬x0+(1:Nat) < x1:=by lia
theorem c27:¬x0+1+x1 < x0+1:=by lia
theorem c28:¬x0 - x1 - (x0 - x1) > 0:=by lia
theorem c29:¬x0 < x1->x0 - x1 < 1->x0=x1:=λh g=>Nat.le_antisymm (Nat.le_of_sub_eq_zero (Nat.lt_one_iff.mp g)) (Nat.le_of_not_lt h)
theorem c3a:¬x0 < x1->x0 < x1+1->x0=x1:=by lia
theorem c3b:0 < x0+1+x1+x2:=by lia
theorem c3c:x0+1 < x2->x2=x1+1->x0 < x1:=by lia
theorem c3d:x0+1 < x2->x2<=x1->x0+1 < x1:=by lia
theorem c3e:x0+2 * x1+200 * x2+300<=9900->x0+200 < 9900:=λh=>c7v (Nat.add_lt_add_of_le_of_lt (c7g (c7B x0 _) (c7B _ _)) (c7d rfl)) h
theorem c3f:x0+2 * x2+200 * x1+300<=9900->x0+200 * x1+200<=9900:=λh=>c7g (c8f (c7G (c7B x0 _) _) (c7d rfl)) h
theorem c3g:x0+(x1+1) < x2->x0+1+x1 < x2:=λq=>c7k (c7z (Nat.add_right_comm x0 1 x1)) q
theorem c3h:x0+(x1+1)=x2->x0+1+x1=x2:=by lia
theorem c3i:x0+(x1+1)<=x2->x0+(0+1)+x1<=x2:=by lia
theorem c3j:x0+(x1+x2)=x0+x1+x2:=Eq.symm (Nat.add_assoc x0 x1 x2)
theorem c3k:x0+x1+x2=x0+x2+x1:=Nat.add_right_comm x0 x1 x2
theorem c3l:x0+x1=x2->x2<=17->x0<=17:=by lia
theorem c3m:x0+x1<=1+17 * x2->x2<=17->x0+x1<=1000000:=λa b=>c7g a (c7g (c7x (c8e 17 b) 1) (by decide))
theorem c3n:x0 - x1<=x2+1->x0 - ((x1+x0) / 2+1)<=x2:=λh=>(c7O x1 x0).elim (λa=>c7g (Nat.sub_le_sub_left (c8m ((Nat.le_div_iff_mul_le Nat.zero_lt_two).mpr (c7g (c7z (Nat.mul_two x1)) (c7x a x1)))) x0) (Nat.pred_le_pred h)) (λa=>c7g (c7z (Nat.sub_eq_zero_of_le (Nat.le_succ_of_le ((Nat.le_div_iff_mul_le Nat.zero_lt_two).mpr (c7g (c7z (Nat.mul_two x0)) (c7G a x0)))))) (c7q _))
theorem c3o:x0 < x1+(x2+1)->x0 < x1+1+x2:=by lia
theorem c3p:x0 < x1->x0 < x1+x2:=λq=>Nat.lt_add_right x2 q
theorem c3q:x0 < x1->x2 < x0->x0 - 1+1 < x1:=λa b=>c7k (c7z (Nat.sub_add_cancel (c7k (c7q _) b))) a
theorem c3r:x0 < x1/\x2 < x1->x0 < x1+1/\x2 < x1+1:=λh=>⟨c8n h.1,c8n h.2⟩
theorem c3s:x0 < x2+1->x1 < x2+1->¬x0 < x2->¬x1 < x2->x0=x1:=λa b c d=>(Nat.eq_of_lt_succ_of_not_lt a c).trans (Nat.eq_of_lt_succ_of_not_lt b d).symm
theorem c3t:x0 < x2->x1 < x2->x2<=2->¬x0=0->¬x1=0->x0=x1:=λa b c d e=>(Nat.le_antisymm (c7A (c7v a c)) (Nat.pos_of_ne_zero d)).trans (Nat.le_antisymm (c7A (c7v b c)) (Nat.pos_of_ne_zero e)).symm
theorem c3u:x0=x1+1->x0<=x1+1+x2:=λa=>c7g (c7z a) (c7B _ _)
theorem c3v:x0=x1->x1=x2->x0 < x2->False:=λq B F=>c7F F (q.trans B)
theorem c3w:x0=x2+1->x2<=6->x1<=2->x0+x1<=1000000:=λa b c=>c7g (c8f (c7g (c7z a) (c7G b 1)) c) (by decide)
theorem c3x:x0=x2+1->x2<=6->x1<=2->x0+x1<=16:=λa b c=>c7g (c8f (c7g (c7z a) (c7G b 1)) c) (by decide)
theorem c3y:x0<=100->x2 < 2->x1 < 1+x2->x0+1+2 * x1<=900:=λa b c=>c7g (c8f (c7G a 1) (c8e 2 (c74 (c7v c (c7x (c74 b) 1))))) (by decide)
theorem c3z:x0<=100->x2 < 3->x1 < x2->x0+1+2 * x1 < 900:=λa b c=>c7k (c8f (c7G a 1) (c8e 2 (c74 (c77 c b)))) (by decide)
theorem c3A:x0<=100->x2 < 3->x1 < x2->x0+1+x1 < 1000:=λa b c=>c7k (c8f (c7G a 1) (c74 (c77 c b))) (by decide)
theorem c3B:x0<=6->x1<=2->x2<=2->x0+1+x1+x2<=17:=λa b c=>c7g (c8f (c8f (c7G a 1) b) c) (by decide)
theorem c3C:x0<=x1->x0<=1+max x1 x2:=λa=>c7g a (c7g (Nat.le_max_left _ _) (c75 _ _))
theorem c3D:x0<=x1->x1<=2 * x2->x2<=17->x0<=100000:=by lia
theorem c3E:x0<=x1->x2<=x0->x2+1=x1+1->x0=x1:=by lia
theorem c3F:x0<=x2->x0<=1+max x1 x2:=λa=>c7g a (c7g (Nat.le_max_right _ _) (c75 _ _))
theorem c3G:x0<=x2->x2<=x1->x0+1<=1+x1:=by lia
theorem c3H:x1 - x0=x2+1->x0+1<=x1:=λq=>Nat.lt_of_sub_ne_zero λe=>Nat.succ_ne_zero x2 (q.symm.trans e)
theorem c3I:x1 - x0<=x2+1->(x0+x1) / 2 - x0<=x2:=λh=>Nat.sub_le_iff_le_add.mpr (c7A ((Nat.div_lt_iff_lt_mul Nat.zero_lt_two).mpr (c7v (Nat.add_lt_add_of_lt_of_le (c7Q (c75 x0 x2)) (c7g (Nat.sub_le_iff_le_add.mp h) (c7z (Nat.add_right_comm x2 1 x0)))) (c7z (Nat.mul_two _).symm))))
theorem c3J:x1 < 2->x2 < 1+x1->x0=x2->x0<=2:=λa b c=>c7g (c7z c) (c7g (c7A (c7v b (c7x (c74 a) 1))) (c7l 2))
theorem c3K:x1 < 3->x2 < x1->x0=x2+1->x0<=17:=by lia
theorem c3L:x1 < 3->x2 < x1->x0=x2->x0 < 20:=λa b c=>c7k (c7z c) (c7v (c77 b a) (by decide))
theorem c3M:x1 < 3->x2 < x1->x0=x2->x0<=10:=by lia
theorem c3N:x1=1+x2->x0=x1->0 < x0:=by lia
theorem c3O:x1=1+x2->x0=x1->x0 - 1 < x0:=λa b=>Nat.sub_lt (c7v (c7v Nat.one_pos (c7B 1 x2)) (c7z (b.trans a).symm)) Nat.one_pos
theorem c3P:x1=x2->x0 < x2+1->¬x0=x2->x0 < x1:=by lia
theorem c3Q:x1=x2->x1 < x2->x0+1<=x1+1:=by lia
theorem c3R:x1=x2->x1<=(1000000:Nat)->x0 < x2->(↑x0:Int) < (2:Int) ^ (63:Nat) - (1:Int):=λa b c=>Int.lt_of_lt_of_le (c8E (c7v c (a▸b))) (by decide)
theorem c3S:x1<=17->x0+1<=1+17 * x2->x0+x1<=1+17 * (x2+1):=λa b=>show x0+x1<=(1+17 * x2)+17 from c8f (c7g (Nat.le_succ _) b) a
theorem c3T:x1<=17->x0<=x1+x2->x2<=20->x0<=100000:=λq B F=>c7g B (c7g (c8f q F) (c7d rfl))
theorem c3U:x1<=2->x2 < 2->x0=x1+x2->x0<=4:=by lia
theorem c3V:x1<=2->x2 < 3->x0=x1+x2->x0<=4:=by lia
theorem c3W:x1<=3->x0+6 * x2+10<=990->x0+x1+6 * x2+5<=990:=by lia
theorem c3X:x1<=4->x2 < 2->x0=x1+x2->x0<=8:=λa b c=>c7g (c7z c) (c7g (c8f a (c74 b)) (by decide))
theorem c3Y:x1<=6->x2 < x1+1->x0=x2->x0<=17:=by lia
theorem c3Z:x1<=6->x2 < x1->x0=x2+1->x0 < 17:=λa b c=>c7k (c7g (c7z c) (c7g b a)) (by decide)
theorem c30:x1<=6->x2 < x1->x0=x2+1->x0<=17:=by lia
theorem c31:x1<=x2->x0 < x1->(x0+x1) / 2<=x2:=λq B=>c74 (b7e q B)
theorem c32:x2+1<=6->x0<=7 * x2->x1<=x2->x0+x1<=7 * (x2+1):=λa b c=>c8f b (c7g c (c7g (Nat.le_of_succ_le_succ a) (by decide)))
theorem c33:x2+1<=x1+1->x0<=x2->x0<=x1:=by lia
theorem c34:x2+1<=x1+1->¬x0=x2+1->x0<=x2+1->x0<=x1:=by lia
theorem c35:x2 < x1+1->x0<=10 * (13+x2)->x0 < 10 * (x1+15):=λa b=>c7k b (Nat.mul_lt_mul_of_pos_left (c7k (c7z (Nat.add_comm 13 x2)) (Nat.add_lt_add_of_le_of_lt (c7A a) (c7d rfl))) (Nat.zero_lt_succ 9))
theorem c36:x2 < x1->x0 < x2->x0 - 1+1 < x1:=λa b=>c7k (Nat.succ_le_of_lt (c7k (Nat.sub_le x0 1) b)) a
theorem c37:x2 < x1->x0 < x2->x0 < x1+1:=by lia
theorem c38:x2 < x1->x0=x2->¬x0=x1:=λq B F=>c7F q (B.symm.trans F)
theorem c39:x2 < x1->x2=x0->x0<=x1 - 1:=λa b=>Nat.le_sub_one_of_lt (c7k (c7z b.symm) a)
theorem c4a:x2=x0+1+x1+1->x0+1+x1 < x2:=λa=>c7v (c7y _) (c7z a.symm)
theorem c4b:x2=x0->x2 < x1->x0 < x1+1:=by lia
theorem c4c:x2=x1+1->(17 - x0) * 1000+x1 < (17 - x0) * 1000+x2:=by lia
theorem c4d:x2=x1->0 < x1->x0<=x2 - 1->x0 < x1:=λa b c=>by subst a;exact c7k c (Nat.sub_lt b Nat.one_pos)
theorem c4e:x2<=17->x0+1<=17->(17 - (x0+1)) * 20+(x1+x2) < (17 - x0) * 20+(x1+1):=λa b=>c7v (Nat.add_lt_add_left (c7k (c7x a x1) (c7v (Nat.add_lt_add_left (c7d rfl:17 < 21) x1) (c7z (Nat.add_left_comm x1 20 1)))) _) (c7z ((Nat.add_assoc _ _ _).symm.trans (c7o (·+(x1+1)) ((Nat.succ_mul _ _).symm.trans (c7o (· * 20) ((c7o Nat.succ (Nat.succ_sub_succ 16 x0)).trans (Nat.succ_sub (Nat.le_of_succ_le_succ b)).symm))))))
theorem c4f:x2<=x1->x0 < x2->x0 < x1:=by lia
theorem c4g:x2<=x1->x0<=0+x2->x0<=x1:=by lia
theorem c4h:x2<=x1->x0<=x2+x1->x0<=2 * x1:=by lia
theorem c4i:x2<=x1->x0<=x2->x0+1<=x1+1:=by lia
theorem c4j:¬x2 < x0->min x0 x1<=x2:=λa=>c7g (Nat.min_le_left _ _) (Nat.le_of_not_lt a)
theorem c4k:x0+1+x1 < x0+1+x2->x0+1+x1 < x0+1+x2+x3:=by lia
theorem c4l:x0+1 < x1->x2<=x0->¬x2+1 < x3->x3=x1->False:=λa b c d=>c (c7k (c8m b) (c7v a (c7z d.symm)))
theorem c4m:x0+(x2 - x3)+1<=x1->x0<=x1:=by lia
theorem c4n:x0+x1+1<=x2+34 * x3->x0+1+x1<=x2+34 * x3:=by lia
theorem c4o:x0+x1<=x2+34 * x3->x0+x1+1<=x2+1+34 * x3:=by lia
theorem c4p:x0+x1<=x2+34 * x3->x0+x1<=x2+1+34 * x3:=by lia
theorem c4q:x0+x2<=1+17 * x3->x3<=17->x1<=17->x0+x1<=1000000:=λa b c=>c7g (c8f (c7g (c7B _ _) (c7g a (c7x (c8e 17 b) 1))) c) (by decide)
theorem c4r:x0 < x1->x0+1 < x1+1+x2+x3:=λa=>c7v (Nat.succ_lt_succ a) (c7g (c7B _ _) (c7B _ _))
theorem c4s:x0 < x2+1->x1=x2+1+x3+1->x0 < x1:=λa b=>c7v a (c7g (c7B _ (x3+1)) (c7z b.symm))
theorem c4t:x0=x1+1+x2+x3+1->0 < x0:=by lia
theorem c4u:x0=x3+1->x3<=6->x2<=2->x1<=2->x0+x1+x2<=17:=λa b c d=>c7g (c8f (c8f (c7g (c7z a) (c7G b 1)) d) c) (by decide)
theorem c4v:x0<=10 * x3->x1 - x2<=9->x0+(x1 - x2)+1<=10 * (x3+1):=λa b=>c8m (c8f a b)
theorem c4w:x0<=x3->x1<=x2->x0+x1<=x2+x3:=λq B=>c7g (c8f q B) (c7z (Nat.add_comm _ _))
theorem c4x:x1+1=x3->x0+x3=x2->x0+1+x1=x2:=λa b=>by subst a;exact (Nat.add_right_comm x0 1 x1).trans b
theorem c4y:x1 < x2->x0+1+x1 < x0+1+x2+x3:=by lia
theorem c4z:x1=x0+1+x2+x3+1->x0+1<=x1:=λa=>c7g (c7B _ x2) (c7g (c7B _ (x3+1)) (c7z a.symm))
theorem c4A:x1=x2+1+x3+x0->x0<=x1:=λa=>c7g (c75 _ _) (c7z a.symm)
theorem c4B:x1=x2+1->x3+1+x0 < x3+1+x2->x0+1 < x1:=λa b=>c7v (Nat.succ_lt_succ (Nat.lt_of_add_lt_add_left b)) (c7z a.symm)
theorem c4C:x1<=2->x2 < 3->x3 < x2->x0=x1+x3->x0 < 20:=λa b c d=>c7k (c7g (c7z d) (c8f a (c74 (c77 c b)))) (by decide)
theorem c4D:x1<=20->x0+2 * x3+200 * x2+300<=9900->x0+x1+200 * x2+200<=9900:=λa h=>c7g (c7G (c7g (c7z (Nat.add_right_comm x0 x1 _)) (c8f (c7G (c7B x0 (2 * x3)) _) a)) 200) (c7g (c7z (Nat.add_assoc _ 20 200)) (c7g (c7x (c7d rfl) _) h))
theorem c4E:x1<=6->x2 < 3->x3 < x2->x0=x1+1+x3->x0 < 17:=λa b c d=>c7k (c7g (c7z d) (c8f (c7G a 1) (c74 (c77 c b)))) (by decide)
theorem c4F:x2 * 128+x0=x3 * 128+x1->x2=x3->x0=x1:=λa b=>by subst b;exact Nat.add_left_cancel a
theorem c4G:x2+1+x3+x0 < x2+1+x3+x1+1->¬x0 < x1->x0=x1:=λa b=>Nat.le_antisymm (Nat.le_of_add_le_add_left (c7A a)) (Nat.le_of_not_lt b)
theorem c4H:x2+x3<=1000000->x2=x0->x3=x1->x0+x1<=16777216:=by lia
theorem c4I:x2 < 128->x3 < 128->x0 * 128+x2=x1 * 128+x3->x0=x1:=λa b h=>(have e:∀ u v:Nat,v < 128->u * 128+v=x1 * 128+x3->(x1 * 128+x3) / 128=u:=λu v q w=>(Nat.div_eq_of_lt_le (c7g (c7B _ v) (c7z w)) (c7k (c7z w.symm) (c7v (Nat.add_lt_add_left q _) (c7z (Nat.succ_mul u 128).symm))));(e _ _ a h).symm.trans (e _ _ b rfl))
theorem c4J:x2 < x3->x0<=x2+1->x3<=x1->¬x0=x1+1:=by lia
theorem c4K:x2=x0->x3=x1->x2+x3<=1000000->x0+x1<=16777216:=by lia
theorem c4L:x2=x0->x3=x1->x2=0\/x3=0->x0=0\/x1=0:=by lia
theorem c4M:x2=x3->x3+1<=x2->x0=x1+1:=by lia
theorem c4N:x2<=1+5->x3<=x2+3->x0<=x3+5->x1 < 2->x0+4 * x1<=200:=λa b c d=>c7g (c8f (c7g c (c7G (c7g b (c7G a 3)) 5)) (c8e 4 (c74 d))) (by decide)
theorem zx3:x0 - x1 < x2+1->x1 < x0->x0 - (x1+1) < x2:=λq B=>c7v (Nat.sub_succ_lt_self _ _ B) (c7A q)
theorem b7V:x3+x2=x0->x3<=x1->x1 < x0->x0 - (x1+1) < x2:=λq B F=>zx3 (c7Q (Nat.sub_le_iff_le_add'.mpr (q▸c7G B _))) F
theorem c4O:x3=x0+1+x1+x2+1->x0+1+x1+x2 < x3:=λa=>c7v (c7y _) (c7z a.symm)
theorem c4P:x3=x0+x1->x3+1 < x2->x0+(x1+1) < x2/\x3+1=x0+(x1+1):=λa b=>⟨c7k (c7z (c7o (·+1) a.symm)) b,c7o (·+1) a⟩
theorem c4Q:x3<=x2->x0<=x1+x3->x0+1<=x1+1+x2:=by lia
theorem c4R:x3<=x2/\x0+x1<=x2->x1 > 0->x0+1+(x1 - 1)<=x2:=λh g=>c7g (c7z ((Nat.add_assoc x0 1 _).trans (c7o (x0+·) (Nat.add_sub_cancel' g)))) h.2
theorem c4S:¬x0 < x1->x2+1+x3+x0 - (x2+1+x3+x1) < 1->x0=x1:=λa b=>Nat.le_antisymm (Nat.le_of_sub_eq_zero ((Nat.add_sub_add_left _ _ _).symm.trans (Nat.lt_one_iff.mp b))) (Nat.le_of_not_lt a)
theorem c4T:¬x3<=x0+(x1 - x2)->x0+(x1 - x2)+1<=x3:=by lia
theorem c4U:x0<=x4->x1<=x3->x0≠x4->x4=x2->x0+x1 < x2+x3:=λa b c d=>Nat.add_lt_add_of_lt_of_le (c7v (c8k a c) (c7z d)) b
theorem c4V:x1+x2=x3->x3<=17->x0+x4<=x3+34 * x1->x0<=100000:=λa b c=>c7g (c7B x0 x4) (c7g c (c7g (c8f b (c8e 34 (c7g (Nat.le.intro a) b))) (c7d rfl)))
theorem c4W:x1<=6->x2<=2->x3<=2->x0=x1+1+x2+x4->x4<=x3->x0 < 17:=λa b c d e=>c7k (c7g (c7z d) (c8f (c8f (c7G a 1) b) (c7g e c))) (by decide)
theorem c4X:x1<=x3->x3<=2 * x4->x4<=17->x1=x1->x0<=34 * x2->x0+x1<=34 * (x2+1):=λa b c _ d=>c8f d (c7g a (c7g b (c8e 2 c)))
theorem c4Y:x2+1 < x3->¬x4+1 < x1->x1=x3->x4<=x2->x0 < x1:=λa b c d=>c7Y (c7k (c8m d) (c7v a (c7z c.symm))) b
theorem c4Z:x2+1=x3->x2=x4+x1->x4+x0 < x3->x0<=x1:=λa b c=>Nat.le_of_add_le_add_left (c7g (c7A (c7v c (c7z a.symm))) (c7z b))
theorem c40:x2 < x3->x0<=x2+1->x1=x4+1->¬x4 < x3->x0<=x1:=λa b c d=>c7g b (c7g a (c7g (Nat.le_of_not_lt d) (c7g (Nat.le_succ _) (c7z c.symm))))
theorem c41:x2=x0+1+x3+x4+1->x0+1+x1 < x0+1+x3->x0+1+x1 < x2:=λa b=>c7v b (c7g (c7B _ (x4+1)) (c7z a.symm))
theorem c42:x2<=2->x0<=x3+x4+x2->x3<=2 * x1->x4=0->x0<=2 * (x1+1):=λa b c d=>by subst d;exact c7g b (c8f c a)
theorem c43:x3+x4=x0->x4 < x2+1->x3<=x1->x1 < x0->x0 - (x1+1) < x2:=λq B F J=>c7v (b7V q F J) (c7A B)
theorem c44:x3=x0+1+x1+x4+1->x2 < x4->x0+1+x1+x2 < x3:=by lia
theorem c45:x3<=6->x0<=5->x4 < x3->x1<=7 * x4->x2<=x4->x0+x1+x2<=1000000:=λa b c d e=>(λw:x4<=6=>c7g (c8f (c8f b (c7g d (c8e 7 w))) (c7g e w)) (by decide)) (c74 (c7v c a))
theorem c46:x4=x1+1->x0+x4<=x2+34 * x3->x0+x1+1<=x2+34 * x3:=λa b=>by subst a;exact b
theorem c47:x1 < 17->x2<=x3+x4+x5->x4=0->x3<=2 * x1->x5<=2->x0<=x2->x0<=1000:=λa b c d e f=>c7g f (c7g b (c7g (c8f (c8f (c7g d (c8e 2 (c74 a))) (c7z c)) e) (c7d rfl)))
theorem c48:x1=x2+1+x3+x4+1->x0 < x2+1/\x5 < x2+1->x0 < x1:=λa b=>c7v b.1 (c7g (c7B _ x3) (c7g (c7B _ (x4+1)) (c7z a.symm)))
theorem c49:x1=x2+1+x3+x4+1->x5 < x2+1/\x0 < x2+1->x0 < x1:=λa b=>c7v b.2 (c7g (c7B _ x3) (c7g (c7B _ (x4+1)) (c7z a.symm)))
theorem c5a:x1<=34 * x0->x0+x4=x5->x5<=17->x0=x2+1->(17 - x0) * 1000+x1 < (17 - x2) * 1000+x3:=λq B F J=>by subst J;exact (have a:x2+1<=17:=c7g (Nat.le.intro B) F;have e:(17 - x2) * 1000=(17 - (x2+1)) * 1000+1000:=(c7o (· * 1000) ((Nat.succ_sub (Nat.le_of_succ_le_succ a)).trans (c7o Nat.succ (Nat.succ_sub_succ 16 x2).symm))).trans (Nat.succ_mul _ _);c7v (Nat.add_lt_add_left (c7k (c7g q (c8e 34 a)) (c7d rfl)) _) (c7g (c7z e.symm) (c7B _ _)))
theorem c5b:x1<=6->x2<=2->x3 < 2->x4=1+x3->x5<=x4->x0=x1+1+x2+x5->x0 < 17:=λa b c d e f=>c7k (c7g (c7z f) (c8f (c8f (c7G a 1) b) (c7g e (c7g (c7z d) (c7x (c74 c) 1))))) (by decide)
theorem c5c:x2<=x5->x5<=2 * x3->x3<=17->x2=x2->x0+x1<=x3+34 * x4->x0+(x1+x2)<=x3+34 * (x4+1):=λa b c _ d=>c7g (c7z (Nat.add_assoc x0 x1 x2).symm) (c7g (c8f d (c7g a (c7g b (c8e 2 c)))) (c7z (Nat.add_assoc x3 (34 * x4) 34)))
variable {k t:Nat}
noncomputable abbrev Nm:=Nat
noncomputable def nm (s:Str):Nm:=s.cps.toList.foldl (λa c=>a * 128+c) 1
noncomputable def B1 (s:Str):Bool:=s.cps.toList.all λn=>Nat.blt n 128
noncomputable def nmS (s:Str):String:=String.ofList (s.cps.toList.map Char.ofNat)
inductive f5 where
 | none | bool (b:Bool) | int (i:Int) | str (s:String) | tup (l:List f5) | ref (a:Nat) | fn (f:Nm) | fz (l:List Int)
inductive a0z where
 | list (xs:List f5)
 | dict (es:List (f5×f5)) (ep:Nat)
 | inst (c:Nm) (d:Nat)
 | ns (fs:List (Nm×f5))
noncomputable abbrev Hp:=Nat->Option a0z
noncomputable abbrev En:=Nm->Option f5
noncomputable def Hp.set (H:Hp) (a:Nat) (o:a0z):Hp:=λb=>if b=a then some o else H b
noncomputable def En.set (r:En) (x:Nm) (v:f5):En:=λy=>bif Nat.beq y x then some v else r y
noncomputable def En.nil:En:=λ_=>Option.none
inductive BOp where
 | add | sub | mul | mod | fdiv
inductive COp where
 | eq | ne | lt | le | gt | ge | isin | notin | is | isnot
inductive BI where
 | len | sum | max | min | sorted | list | tuple | int | abs | str
mutual
noncomputable def G6:Nat->f5->Bool
 | _,.int _=>true
 | _,.str _=>true
 | n+1,.tup l=>Y8 n l
 | 0,.tup _=>false
 | _,.none=>false
 | _,.bool _=>false
 | _,.ref _=>false
 | _,.fn _=>false
 | _,.fz _=>false
noncomputable def Y8:Nat->List f5->Bool
 | _,[]=>true
 | n,v :: r=>G6 n v&&Y8 n r
end
noncomputable def a1A (v:f5):Bool:=G6 20 v
noncomputable def a33 (l:List f5):Bool:=Y8 20 l
noncomputable def a14 (H:Hp) (v:f5) (xs:List f5):Prop:=v=.tup xs\/∃ a,v=.ref a/\H a=some (.list xs)
noncomputable def b0n (H:Hp) (a:Nat) (l:List Int):Prop:=∃ es ep,H a=some (.dict es ep)/\es.map (·.1)=l.map f5.int
noncomputable def a51 (p:f5×f5):f5:=.tup [p.1,p.2]
open Classical in
noncomputable def eq0 (H:Hp) (v w:f5) (b:Bool):Prop :=
 (a1A v=true/\a1A w=true/\b=decide (v=w)) \/
 (∃ x y xs ys,v=.ref x/\w=.ref y/\H x=some (.list xs)/\H y=some (.list ys)/\((a33 xs=true/\a33 ys=true)\/xs=[]\/ys=[])/\b=decide (xs=ys))
inductive a5D (H:Hp):List f5->List f5->Bool->Prop
 | nil:a5D H [] [] true
 | cons {v w:f5} {vs ws:List f5} {a c:Bool}:eq0 H v w a->a5D H vs ws c->a5D H (v :: vs) (w :: ws) (a&&c)
noncomputable def eq1 (H:Hp) (v w:f5) (b:Bool):Prop:=eq0 H v w b\/∃ l m,v=.tup l/\w=.tup m/\a5D H l m b
open Classical in
noncomputable def C0 (es:List (f5×f5)) (k:f5):Option f5:=(es.find? λp=>decide (p.1=k)).map (·.2)
open Classical in
noncomputable def K2 (es:List (f5×f5)) (k v:f5):List (f5×f5) :=
 if (C0 es k).isSome then es.map λp=>if p.1=k then (p.1,v) else p else es++[(k,v)]
open Classical in
noncomputable def a39 (es:List (f5×f5)) (k:f5):List (f5×f5):=es.filter λp=>decide (p.1≠k)
noncomputable def I7:f5->Nat
 | .int _=>0
 | .str _=>1
 | .tup _=>2
 | .none=>3
 | .bool _=>3
 | .ref _=>3
 | .fn _=>3
 | .fz _=>3
noncomputable def M2 (es:List (f5×f5)) (k:f5):Prop:=G6 7 k=true/\∀ p∈es,I7 p.1=I7 k
noncomputable def a0R (l:List (f5×f5)):Prop:=(∀ p∈l,G6 7 p.1=true)/\∀ p∈l,∀ q∈l,I7 p.1=I7 q.1
open Classical in
noncomputable def dep (es:List (f5×f5)) (k:f5) (ep:Nat):Nat:=if (C0 es k).isSome then ep else ep+1
noncomputable def I0 (l:List (f5×f5)):List (f5×f5):=l.foldl (λes p=>K2 es p.1 p.2) []
noncomputable def o9:Nat:=1000000
noncomputable abbrev l7:=f5->Hp->Prop
noncomputable abbrev N4:=Bool->Hp->Prop
noncomputable def alloc (o:a0z) (H:Hp) (Q:l7):Prop:=∀ a,H a=Option.none->Q (.ref a) (H.set a o)
noncomputable def newList (xs:List f5) (H:Hp) (Q:l7):Prop:=xs.length<=o9/\alloc (.list xs) H Q
noncomputable def b0H (es:List (f5×f5)) (H:Hp) (Q:l7):Prop:=∀ ep,alloc (.dict es ep) H Q
noncomputable def small (i:Int):Prop:=-(2 ^ 60) < i/\i < 2 ^ 60
noncomputable def c54 (v w:f5) (H:Hp) (Q:l7):Prop :=
 (∃ i j,v=.int i/\w=.int j/\Q (.int (i+j)) H) \/
 (∃ a b,v=.str a/\w=.str b/\a.length+b.length<=o9/\Q (.str (a++b)) H) \/
 (∃ l m,v=.tup l/\w=.tup m/\l.length+m.length<=o9/\Q (.tup (l++m)) H) \/
 (∃ a b xs ys,v=.ref a/\w=.ref b/\H a=some (.list xs)/\H b=some (.list ys)/\newList (xs++ys) H Q)
noncomputable def a3q (o:BOp) (v w:f5) (H:Hp) (Q:l7):Prop :=
 match o with
 | .add=>c54 v w H Q
 | .sub=>∃ i j,v=.int i/\w=.int j/\Q (.int (i - j)) H
 | .mul=>(∃ i j,v=.int i/\w=.int j/\small i/\small j/\Q (.int (i * j)) H)\/∃ a x,∃ k:Nat,v=.ref a/\w=.int k/\H a=some (.list [x])/\k<=100/\newList (List.replicate k x) H Q
 | .fdiv=>∃ i j,v=.int i/\w=.int j/\0 < j/\j < 1073741824/\Q (.int (i / j)) H
 | .mod=>∃ i j,v=.int i/\w=.int j/\0 < j/\Q (.int (i % j)) H
open Classical in
noncomputable def inW (v w:f5) (H:Hp) (Q:N4):Prop :=
 (∃ b c,w=.str b/\97<=c.toNat/\c.toNat<=122/\v=.str (String.singleton c)/\Q (b.toList.contains c) H) \/
 (∃ l,w=.tup l/\a1A v=true/\a33 l=true/\Q (decide (v∈l)) H) \/
 (∃ a xs,w=.ref a/\H a=some (.list xs)/\a1A v=true/\a33 xs=true/\Q (decide (v∈xs)) H) \/
 (∃ a es ep,w=.ref a/\H a=some (.dict es ep)/\M2 es v/\Q (C0 es v).isSome H)
open Classical in
noncomputable def isW (v w:f5) (H:Hp) (Q:N4):Prop :=
 w=.none/\Q (decide (v=.none)) H
noncomputable def b4o (v w:f5) (H:Hp) (f:Int->Int->Bool) (Q:N4):Prop:=∃ i j,v=.int i/\w=.int j/\Q (f i j) H
noncomputable def Y7 (o:COp) (v w:f5) (H:Hp) (Q:N4):Prop :=
 match o with
 | .eq=>∃ b,eq1 H v w b/\Q b H
 | .ne=>∃ b,eq1 H v w b/\Q (!b) H
 | .lt=>b4o v w H (λi j=>decide (i < j)) Q
 | .le=>b4o v w H (λi j=>decide (i<=j)) Q
 | .gt=>b4o v w H (λi j=>decide (i > j)) Q
 | .ge=>b4o v w H (λi j=>decide (i>=j)) Q
 | .isin=>inW v w H Q
 | .notin=>inW v w H λb=>Q (!b)
 | .is=>isW v w H Q
 | .isnot=>isW v w H λb=>Q (!b)
noncomputable def a1q (n:Nat) (i:Int):Option Nat:=if n<=o9 then (if 0<=i/\i < n then some i.toNat else if i < 0/\-(n:Int)<=i then some (i+n).toNat else Option.none) else Option.none
noncomputable def a6F (v i:f5) (H:Hp) (Q:l7):Prop :=
 (∃ (s:String) (k:Nat) (c:Char),v=.str s/\i=.int k/\s.toList[k]?=some c/\s.toList.length<=o9/\(∀ c∈s.toList,c.toNat < 128)/\Q (.str (String.singleton c)) H) \/
 (∃ xs k j x,a14 H v xs/\i=.int k/\a1q xs.length k=some j/\xs[j]?=some x/\Q x H) \/
 (∃ a es ep x,v=.ref a/\H a=some (.dict es ep)/\M2 es i/\C0 es i=some x/\Q x H)
noncomputable def c0u (v i x:f5) (H:Hp) (Q:Hp->Prop):Prop :=
 (∃ a xs k,v=.ref a/\H a=some (.list xs)/\i=.int k/\0<=k/\k < xs.length/\xs.length<=o9/\Q (H.set a (.list (xs.set k.toNat x)))) \/
 (∃ a es ep,v=.ref a/\H a=some (.dict es ep)/\M2 es i/\es.length<=o9/\Q (H.set a (.dict (K2 es i x) (dep es i ep))))
noncomputable def b8L (H:Hp) (v:f5) (c:Nm) (d:Nat) (fs:List (Nm×f5)):Prop:=∃ a,v=.ref a/\H a=some (.inst c d)/\H d=some (.ns fs)
noncomputable def a0l (fs:List (Nm×f5)) (x:Nm):Option f5 :=
 match fs with
 | []=>Option.none
 | p :: r=>bif Nat.beq p.1 x then some p.2 else a0l r x
noncomputable def b0k (v:f5) (x:Nm) (H:Hp) (Q:l7):Prop:=∃ c d fs u,b8L H v c d fs/\a0l fs x=some u/\Q u H
noncomputable def a0H (fs:List (Nm×f5)) (x:Nm) (v:f5):List (Nm×f5) :=
 match fs with
 | []=>[(x,v)]
 | p :: r=>bif Nat.beq p.1 x then (x,v) :: r else p :: a0H r x v
noncomputable def a8G (v:f5) (x:Nm) (u:f5) (H:Hp) (Q:Hp->Prop):Prop:=∃ c d fs,b8L H v c d fs/\fs.length<=1000/\Q (H.set d (.ns (a0H fs x u)))
noncomputable def a68 (v i:f5) (H:Hp) (Q:l7):Prop :=
 ∃ l k,i=.int k/\1<=k/\k<=l.length/\l.length<=o9/\((v=.tup l/\Q (.tup (l.drop k.toNat)) H)\/∃ a,v=.ref a/\H a=some (.list l)/\newList (l.drop k.toNat) H Q)
noncomputable def b7N (v i:f5) (H:Hp) (Q:l7):Prop :=
 ∃ l k,i=.int k/\0<=k/\k < o9/\l.length<=o9/\(v=.fz l\/∃ a,v=.ref a/\H a=some (.list (l.map f5.int)))/\newList ((l.take k.toNat).map f5.int) H Q
noncomputable def a9A:List Int->Int
 | []=>0
 | x :: r=>r.foldl max x
noncomputable def c0j:f5->Bool
 | .tup _=>true
 | _=>false
noncomputable def T0 (l:List Int):List Int:=l.mergeSort (λa b=>decide (a<=b))
noncomputable def biW (b:BI) (vs:List f5) (H:Hp) (Q:l7):Prop :=
 match b with
 | .len=>∃ v xs,vs=[v]/\(a14 H v xs\/∃ a l,v=.ref a/\b0n H a l/\xs=l.map f5.int)/\xs.length<=o9/\Q (.int xs.length) H
 | .sum=>∃ a,∃ l:List Int,vs=[.ref a]/\H a=some (.list (l.map f5.int))/\Q (.int l.sum) H
 | .max=>(∃ a,∃ l:List Int,vs=[.ref a]/\H a=some (.list (l.map f5.int))/\l≠[]/\Q (.int (a9A l)) H)\/∃ i j,vs=[.int i,.int j]/\Q (.int (max i j)) H
 | .min=>∃ i j,vs=[.int i,.int j]/\Q (.int (min i j)) H
 | .sorted=>∃ a,∃ l:List Int,vs=[.ref a]/\(H a=some (.list (l.map f5.int))\/b0n H a l)/\l.length < 64/\newList ((T0 l).map f5.int) H Q
 | .list=>∃ a xs,vs=[.ref a]/\H a=some (.list xs)/\newList xs H Q
 | .tuple=>∃ v xs,vs=[v]/\a14 H v xs/\xs.length<=o9/\Q (.tup xs) H
 | .int=>∃ i,vs=[.int i]/\Q (.int i) H
 | .abs=>∃ i,vs=[.int i]/\0<=i/\Q (.int i) H
 | .str=>∃ i,vs=[.int i]/\small i/\Q (.str (toString i)) H
noncomputable def b5D (l:List f5):Bool:=l.all λv=>I7 v==0
noncomputable def a8I:f5->Bool
 | .tup (.str _ :: l)=>b5D l
 | _=>false
noncomputable def b6I (v:f5) (H:Hp) (Q:List f5->Prop):Prop:=∃ l:List Int,a14 H v (l.map f5.int)/\(∀ i∈l,0<=i/\i < 17)/\∀ ys:List Int,ys.Pairwise (· < ·)->(∀ i,i∈ys↔i∈l)->Q (ys.map f5.int)
noncomputable def b6J (v:f5) (H:Hp) (Q:List f5->Prop):Prop:=∃ a xs,v=.ref a/\H a=some (.list xs)/\xs.length<=17/\(∀ x∈xs,a8I x=true)/\∀ ys:List f5,ys.Nodup->(∀ v,v∈ys↔v∈xs)->Q ys
structure Calls where
 call:Nm->Nm->List f5->Hp->l7->Prop
 has:Nm->Nm->Bool
inductive LM where
 | append | extend | pop | index
inductive DM where
 | get | setdefault | pop
noncomputable def lmN (m:LM):Nm:=match m with
 | .append=>7761242453860
 | .extend=>7900837279588
 | .pop=>3946480
 | .index=>62777799416
noncomputable def dmN (m:DM):Nm:=match m with
 | .get=>3797748
 | .setdefault=>2248622967450708571764
 | .pop=>3946480
noncomputable def b8I:Nm:=1028727313560037
noncomputable def a8t:Nm:=125959291554050015
noncomputable def a8h (a:Nat) (xs:List f5) (m:LM) (vs:List f5) (H:Hp) (Q:l7):Prop :=
 match m with
 | .append=>∃ v,vs=[v]/\xs.length<=o9/\Q .none (H.set a (.list (xs++[v])))
 | .extend=>∃ b ys,vs=[.ref b]/\b≠a/\H b=some (.list ys)/\xs.length+ys.length<=o9/\Q .none (H.set a (.list (xs++ys)))
 | .pop=>∃ v,vs=[]/\xs.length<=o9/\xs.getLast?=some v/\Q v (H.set a (.list xs.dropLast))
 | .index=>∃ (l:List Int) (i:Int) (j:Nat),vs=[.int i]/\xs=l.map f5.int/\l.length<=o9/\l[j]?=some i/\(∀ k,k < j->l[k]?≠some i)/\Q (.int j) H
noncomputable def a7J (a:Nat) (es:List (f5×f5)) (ep:Nat) (m:DM) (vs:List f5) (H:Hp) (Q:l7):Prop :=
 match m with
 | .get=>∃ k d,vs=[k,d]/\M2 es k/\Q ((C0 es k).getD d) H
 | .setdefault=>∃ k d,vs=[k,d]/\M2 es k/\es.length<=o9/\(∀ v,C0 es k=some v->Q v H)/\(C0 es k=Option.none->Q d (H.set a (.dict (es++[(k,d)]) (ep+1))))
 | .pop=>∃ k v,vs=[k]/\M2 es k/\es.length<=o9/\C0 es k=some v/\Q v (H.set a (.dict (a39 es k) (ep+1)))
noncomputable def b6U (s:String) (vs:List f5) (H:Hp) (Q:l7):Prop :=
 vs=[]/\(∃ c:Char,97<=c.toNat/\c.toNat<=122/\s=String.singleton c)/\Q (.bool false) H
inductive RK where
 | inst (c:Nm) | str | lst (m:LM) | dct (m:DM)
noncomputable def b7D (has:Nm->Nm->Bool) (H:Hp) (v:f5) (m:Nm) (k:RK):Prop :=
 match k with
 | .inst c=>∃ d fs,b8L H v c d fs/\a0l fs m=Option.none/\has c m=true
 | .str=>(∃ s,v=.str s)/\m=b8I
 | .lst t=>(∃ a xs,v=.ref a/\H a=some (.list xs))/\m=lmN t
 | .dct t=>(∃ a es ep,v=.ref a/\H a=some (.dict es ep))/\m=dmN t
noncomputable def N5 (K:Calls) (k:RK) (v:f5) (m:Nm) (vs:List f5) (H:Hp) (Q:l7):Prop :=
 match k with
 | .inst c=>K.call c m (v :: vs) H Q
 | .str=>∃ s,v=.str s/\b6U s vs H Q
 | .lst t=>∃ a xs,v=.ref a/\H a=some (.list xs)/\a8h a xs t vs H Q
 | .dct t=>∃ a es ep,v=.ref a/\H a=some (.dict es ep)/\a7J a es ep t vs H Q
noncomputable def b1X (K:Calls) (c:Nm) (vs:List f5) (H:Hp) (Q:l7):Prop :=
 ∀ a d,H a=Option.none->H d=Option.none->a≠d->K.call c a8t (.ref a :: vs) ((H.set d (.ns [])).set a (.inst c d)) λv H'=>v=.none/\Q (.ref a) H'
inductive Src where
 | seq (l:List f5)
 | lst (a:Nat)
noncomputable def Src.next (H:Hp) (s:Src) (i:Nat) (o:Option f5):Prop :=
 match s with
 | .seq l=>o=l[i]?
 | .lst a=>∃ xs,H a=some (.list xs)/\o=xs[i]?
noncomputable def bindL (t:List Nm) (l:List f5) (r:En):En:=(t.zip l).foldl (λr p=>r.set p.1 p.2) r
noncomputable def a0k (t:List Nm) (one:Bool) (v:f5) (r r':En):Prop :=
 (one=true/\∃ x,t=[x]/\r'=r.set x v)\/(one=false/\∃ l,v=.tup l/\l.length=t.length/\r'=bindL t l r)
noncomputable def itV (v:f5) (H:Hp) (Q:Src->Hp->Prop):Prop :=
 (∃ l,v=.tup l/\Q (.seq l) H)\/(∃ s,v=.str s/\Q (.seq (s.toList.map λc=>.str (String.singleton c))) H) \/
 (∃ a xs,v=.ref a/\H a=some (.list xs)/\Q (.lst a) H)
noncomputable def Q3 (m n:Int):List f5:=(List.range (n - m).toNat).map λi=>f5.int (m+(i:Nat))
noncomputable def itR (vs:List f5) (H:Hp) (Q:Src->Hp->Prop):Prop :=
 (∃ n,vs=[.int n]/\-o9<=n/\n<=o9/\Q (.seq (Q3 0 n)) H) \/
 (∃ m n,vs=[.int m,.int n]/\-o9<=m/\m<=o9/\-o9<=n/\n<=o9/\Q (.seq (Q3 m n)) H)
noncomputable abbrev Ev:=Calls->En->Hp->l7->Prop
noncomputable abbrev Cv:=Calls->En->Hp->N4->Prop
noncomputable abbrev Lv:=Calls->En->Hp->(List f5->Hp->Prop)->Prop
noncomputable abbrev Iv:=Calls->En->Hp->(Src->Hp->Prop)->Prop
structure It where
 iv:Iv
 tup:Bool
noncomputable def a1L (turn:f5->Hp->(List f5->Hp->Prop)->Prop) (src:Src):Nat->Nat->List f5->Hp->(List f5->Hp->Prop)->Prop
 | 0,_,_,_,_=>False
 | n+1,i,acc,H,Q=>∃ o,src.next H i o/\(o=Option.none->Q acc H)/\∀ v,o=some v->acc.length<=o9/\turn v H λxs H'=>a1L turn src n (i+1) (acc++xs) H' Q
noncomputable def h9 (v:f5):Ev:=λ_ _ H Q=>Q v H
noncomputable def d6 (x:Nm):Ev:=λ_ r H Q=>∃ v,r x=some v/\Q v H
noncomputable def f4:Lv:=λ_ _ H Q=>Q [] H
noncomputable def d7 (e:Ev) (es:Lv):Lv:=λK r H Q=>e K r H λv H1=>es K r H1 λvs H2=>Q (v :: vs) H2
noncomputable def B6 (es:Lv):Ev:=λK r H Q=>es K r H λvs H1=>Q (.tup vs) H1
noncomputable def G0 (es:Lv):Ev:=λK r H Q=>es K r H λvs H1=>alloc (.list vs) H1 Q
noncomputable def a2x:Ev:=λ_ _ H Q=>alloc (.dict [] 0) H Q
noncomputable def a7O (ks:List String) (es:Lv):Ev:=λK r H Q=>es K r H λvs H1=>vs.length=ks.length/\b0H (I0 ((ks.map f5.str).zip vs)) H1 Q
noncomputable def p7 (o:BOp) (a b:Ev):Ev:=λK r H Q=>a K r H λv H1=>b K r H1 λw H2=>a3q o v w H2 Q
noncomputable def K3 (a:Ev):Ev:=λK r H Q=>a K r H λv H1=>∃ i,v=.int i/\Q (.int (-i)) H1
noncomputable def a7N (c:Cv):Ev:=λK r H Q=>c K r H λb H1=>Q (.bool b) H1
noncomputable def b5S (a b:Ev):Ev:=λK r H Q=>a K r H λv H1=>∃ t,v=.bool t/\(t=true->b K r H1 Q)/\(t=false->Q v H1)
noncomputable def a1D (c:Cv) (a b:Ev):Ev:=λK r H Q=>c K r H λt H1=>(t=true->a K r H1 Q)/\(t=false->b K r H1 Q)
noncomputable def o6 (e:Ev) (x:Nm):Ev:=λK r H Q=>e K r H λv H1=>b0k v x H1 Q
noncomputable def k8 (e i:Ev):Ev:=λK r H Q=>e K r H λv H1=>i K r H1 λw H2=>a6F v w H2 Q
noncomputable def a0N (e i:Ev):Ev:=λK r H Q=>e K r H λv H1=>i K r H1 λw H2=>a68 v w H2 Q
noncomputable def a9h (e i:Ev):Ev:=λK r H Q=>e K r H λv H1=>i K r H1 λw H2=>b7N v w H2 Q
noncomputable def A4 (f:Nm) (args:Lv):Ev:=λK r H Q=>args K r H λvs H1=>K.call 0 f vs H1 Q
noncomputable def a3w (x:Nm) (args:Lv):Ev:=λK r H Q=>∃ f,r x=some (.fn f)/\args K r H λvs H1=>K.call 0 f vs H1 Q
noncomputable def a6p (c:Nm) (args:Lv):Ev:=λK r H Q=>args K r H λvs H1=>b1X K c vs H1 Q
noncomputable def i8 (e:Ev) (m:Nm) (args:Lv):Ev:=λK r H Q=>e K r H λv H1=>∃ k,b7D K.has H1 v m k/\args K r H1 λvs H2=>N5 K k v m vs H2 Q
noncomputable def P9 (b:BI) (args:Lv):Ev:=λK r H Q=>args K r H λvs H1=>biW b vs H1 Q
noncomputable def a6o (a:Ev):Ev:=λK r H Q=>a K r H λv H1=>∃ n:Int,v=.int n/\-o9<=n/\n<=o9/\alloc (.list (Q3 0 n)) H1 Q
noncomputable def S0 (e:Ev):Ev:=λK r H Q=>e K r H λv H1=>(b6I v H1 λys=>alloc (.list ys) H1 Q)\/b6J v H1 λys=>alloc (.list ys) H1 Q
noncomputable def J4:Cv:=λ_ _ H Q=>Q true H
noncomputable def Q8 (c:Cv) (cs:Cv):Cv:=λK r H Q=>c K r H λb H1=>(b=true->cs K r H1 Q)/\(b=false->Q false H1)
noncomputable def a5x:Cv:=λ_ _ H Q=>Q false H
noncomputable def V0 (c:Cv) (cs:Cv):Cv:=λK r H Q=>c K r H λb H1=>(b=true->Q true H1)/\(b=false->cs K r H1 Q)
noncomputable def a2E (elt:Ev) (ifs:Cv) (K:Calls) (r':En) (H2:Hp) (P:List f5->Hp->Prop):Prop :=
 ifs K r' H2 λb H3=>(b=true->elt K r' H3 λx H4=>P [x] H4)/\(b=false->P [] H3)
noncomputable def a5h (t:List Nm) (one:Bool) (r:En) (body:En->Hp->(List f5->Hp->Prop)->Prop) (v:f5) (H2:Hp) (P:List f5->Hp->Prop):Prop:=∃ r',a0k t one v r r'/\body r' H2 P
noncomputable def b00 (elt:Ev) (t2:List Nm) (one2:Bool) (it2:It) (ifs:Cv) (K:Calls) (r':En) (H2:Hp) (P:List f5->Hp->Prop):Prop :=
 it2.iv K r' H2 λsrc2 H3=>∃ n2,a1L (a5h t2 one2 r' (a2E elt ifs K)) src2 n2 0 [] H3 P
noncomputable def A9 (elt:Ev) (t:List Nm) (one:Bool) (it:It) (ifs:Cv):Ev:=λK r H Q=>it.iv K r H λsrc H1=>∃ n,a1L (a5h t one r (a2E elt ifs K)) src n 0 [] H1 λxs H5=>alloc (.list xs) H5 Q
noncomputable def a3x (elt:Ev) (t:List Nm) (one:Bool) (it:It) (t2:List Nm) (one2:Bool) (it2:It) (ifs:Cv):Ev:=λK r H Q=>it.iv K r H λsrc H1 =>
 ∃ n,a1L (a5h t one r (b00 elt t2 one2 it2 ifs K)) src n 0 [] H1 λxs H5=>alloc (.list xs) H5 Q
noncomputable def y8 (o:COp) (a b:Ev):Cv:=λK r H Q=>a K r H λv H1=>b K r H1 λw H2=>Y7 o v w H2 Q
noncomputable def a6l (o1 o2:COp) (a b c:Ev):Cv:=λK r H Q=>a K r H λv H1=>b K r H1 λw H2=>Y7 o1 v w H2 λt H3 =>
   (t=true->c K r H3 λu H4=>Y7 o2 w u H4 Q)/\(t=false->Q false H3)
noncomputable def b2V (c:Cv):Cv:=λK r H Q=>c K r H λb H1=>Q (!b) H1
noncomputable def b92 (c a b:Cv):Cv:=λK r H Q=>c K r H λt H1=>(t=true->a K r H1 Q)/\(t=false->b K r H1 Q)
noncomputable def a7z (e:Ev):Cv:=λK r H Q=>e K r H λv H1=>∃ b,v=.bool b/\Q b H1
noncomputable def D8 (e:Ev):It:=⟨λK r H Q=>e K r H λv H1=>itV v H1 Q,false⟩
noncomputable def K8 (es:Lv):It:=⟨λK r H Q=>es K r H λvs H1=>itR vs H1 Q,false⟩
noncomputable abbrev a2Q:=En->Hp->Prop
noncomputable abbrev Tv:=Calls->f5->En->Hp->a2Q->Prop
noncomputable def m5 (x:Nm):Tv:=λ_ v r H Q=>Q (r.set x v) H
noncomputable def a0B (e i:Ev):Tv:=λK v r H Q=>e K r H λo H1=>i K r H1 λk H2=>c0u o k v H2 (Q r)
noncomputable def T1 (e:Ev) (x:Nm):Tv:=λK v r H Q=>e K r H λo H1=>a8G o x v H1 (Q r)
noncomputable def b6W (K:Calls):List Tv->List f5->En->Hp->a2Q->Prop
 | [],vs,r,H,Q=>vs=[]/\Q r H
 | t :: ts,vs,r,H,Q=>∃ v ws,vs=v :: ws/\t K v r H λr1 H1=>b6W K ts ws r1 H1 Q
noncomputable def R4 (ts:List Tv):Tv:=λK v r H Q=>∃ vs,a14 H v vs/\vs.length=ts.length/\b6W K ts vs r H Q
inductive Fl where
 | next | ret (v:f5) | brk
noncomputable def a3P (f:Fl) (n:Prop) (rt:f5->Prop) (bk:Prop:=False):Prop :=
 match f with
 | .next=>n
 | .ret v=>rt v
 | .brk=>bk
noncomputable abbrev v9:=Fl->En->Hp->Prop
noncomputable abbrev Bv:=Calls->En->Hp->v9->Prop
noncomputable def b5j (c:En->Hp->N4->Prop) (b:En->Hp->v9->Prop):Nat->En->Hp->v9->Prop
 | 0,_,_,_=>False
 | n+1,r,H,Q=>c r H λt H1=>(t=true->b r H1 λf r1 H2=>a3P f (b5j c b n r1 H2 Q) λv=>Q (.ret v) r1 H2)/\(t=false->Q .next r H1)
noncomputable def a4f (t:List Nm) (one:Bool) (b:En->Hp->v9->Prop) (src:Src):Nat->Nat->En->Hp->v9->Prop
 | 0,_,_,_,_=>False
 | n+1,i,r,H,Q=>∃ o,src.next H i o/\(o=Option.none->Q .next r H)/\∀ v,o=some v->∃ r',a0k t one v r r'/\b r' H λf r1 H2 =>
   a3P f (a4f t one b src n (i+1) r1 H2 Q) (λv=>Q (.ret v) r1 H2) (Q .next r1 H2)
noncomputable def r8 (e:Ev):Bv:=λK r H Q=>e K r H λ_ H1=>Q .next r H1
noncomputable def p9 (t:Tv) (e:Ev):Bv:=λK r H Q=>e K r H λv H1=>t K v r H1 λr1 H2=>Q .next r1 H2
noncomputable def I9 (e:Ev):Bv:=λK r H Q=>e K r H λv H1=>Q (.ret v) r H1
noncomputable def U9 (c:Cv) (a b:Bv):Bv:=λK r H Q=>c K r H λt H1=>(t=true->a K r H1 Q)/\(t=false->b K r H1 Q)
noncomputable def a5z (c:Cv) (b:Bv):Bv:=λK r H Q=>∃ n,b5j (c K) (b K) n r H Q
noncomputable def S4 (t:List Nm) (one:Bool) (it:It) (b:Bv):Bv:=λK r H Q=>it.iv K r H λsrc H1=>∃ n,a4f t one (b K) src n 0 r H1 Q
noncomputable def b4y:Bv:=λ_ _ _ _=>False
noncomputable def b6w:Bv:=λ_ r H Q=>Q .brk r H
noncomputable def m6:Bv:=λ_ r H Q=>Q .next r H
noncomputable def d9 (s b:Bv):Bv:=λK r H Q=>s K r H λf r1 H1=>a3P f (b K r1 H1 Q) (λv=>Q (.ret v) r1 H1) (Q .brk r1 H1)
structure Fn where
 params:List Nm
 body:Bv
noncomputable abbrev b08:=Nm->Nm->Option Fn
noncomputable def j3 (F:b08):Nat->Calls
 | 0=>⟨λ_ _ _ _ _=>False,λc f=>(F c f).isSome⟩
 | n+1=>⟨λc f vs H Q=>∃ fd,F c f=some fd/\vs.length=fd.params.length/\fd.body (j3 F n) (bindL fd.params vs En.nil) H λfl _ H'=>a3P fl (Q .none H') λv=>Q v H',λc f=>(F c f).isSome⟩
theorem a5I (F:b08) (n:Nat) (c f:Nm):(j3 F n).has c f=(F c f).isSome:=by cases n <;> rfl
noncomputable def b4T (ks:List (Nm×Nm)) (fds:List Fn):b08:=λc n=>((ks.zip fds).find? λe=>Nat.beq e.1.1 c&&Nat.beq e.1.2 n).map (·.2)
structure Cx where
 names:List (Str×NameKind)
 fns:List Str
 clss:List Str
 attrs:List Str
 dom:List Str
inductive VK where
 | var | glob | no
noncomputable def Cx.kind (c:Cx) (x:Str):VK:=match c.names.lookup x with
 | some .local=>.var
 | some .cell=>.var
 | some .globalImplicit=>.glob
 | _=>.no
theorem A3 {α:Type} {a:α} {C:Prop} (h:(none:Option α)=some a):C:=nomatch h
noncomputable def gd {α:Type} (b:Bool) (x:Option α):Option α:=bif b then x else none
theorem r9 {α:Type} {b:Bool} {x:Option α} {a:α} (h:gd b x=some a):b=true/\x=some a:=by
 cases b with
 | true=>exact ⟨rfl,h⟩
 | false=>exact A3 h
theorem f8 {α β:Type} {x:Option α} {f:α->Option β} {b:β} (h:x.bind f=some b):∃ a,x=some a/\f a=some b:=Option.bind_eq_some_iff.mp h
theorem n9 {α β:Type} {x:Option α} {f:α->β} {b:β} (h:x.map f=some b):∃ a,x=some a/\f a=b:=c8v h
noncomputable def one? {α:Type} (l:List α):Option α:=match l with
 | []=>none
 | a :: r=>bif r.isEmpty then some a else none
theorem one?_some {α:Type} {l:List α} {a:α} (h:one? l=some a):l=[a]:=by
 cases l with
 | nil=>exact A3 h
 | cons b r =>
  cases r with
  | nil=>exact c7o (λx=>[x]) (c7p h)
  | cons _ _=>exact A3 h
noncomputable def two? {α:Type} (l:List α):Option (α×α):=match l with
 | []=>none
 | a :: r=>(one? r).map λb=>(a,b)
theorem two?_some {α:Type} {l:List α} {a b:α} (h:two? l=some (a,b)):l=[a,b]:=by
 cases l with
 | nil=>exact A3 h
 | cons c r =>
  refine j5 (n9 h) λd q B=>?_;cases B;refine b9 (one?_some q) ?_;rfl
noncomputable def sN (l:List Nat):Str:=⟨l.toArray⟩
noncomputable def b7H:Str:=sN [108,101,110]
noncomputable def b7L:Str:=sN [115,117,109]
noncomputable def b7I:Str:=sN [109,97,120]
noncomputable def b7J:Str:=sN [109,105,110]
noncomputable def a06:Str:=sN [115,111,114,116,101,100]
noncomputable def a2N:Str:=sN [108,105,115,116]
noncomputable def b0R:Str:=sN [116,117,112,108,101]
noncomputable def b7G:Str:=sN [105,110,116]
noncomputable def b7K:Str:=sN [115,116,114]
noncomputable def V8:Str:=sN [114,97,110,103,101]
noncomputable def a5b:Str:=sN [115,101,116]
noncomputable def b7E:Str:=sN [97,98,115]
noncomputable def a3g:Str:=sN [95,95,100,101,98,117,103,95,95]
noncomputable def a3h:Str:=sN [46,48]
noncomputable def b5G:List (Str×BI):=[(b7H,.len),(b7L,.sum),(b7I,.max),(b7J,.min),(a06,.sorted),(a2N,.list),(b0R,.tuple),(b7G,.int),(b7E,.abs),(b7K,.str)]
noncomputable def b4Z (o:Operator):Option BOp:=match o with
 | .Add=>some .add | .Sub=>some .sub | .Mult=>some .mul | .FloorDiv=>some .fdiv | .Mod=>some .mod | _=>none
noncomputable def a19 (o:CmpOp):Option COp:=match o with
 | .Eq=>some .eq | .NotEq=>some .ne | .Lt=>some .lt | .LtE=>some .le | .Gt=>some .gt | .GtE=>some .ge | .In=>some .isin | .NotIn=>some .notin | .Is=>some .is | .IsNot=>some .isnot
noncomputable def a08 (x:Str):Option Nm:=gd (B1 x) (some (nm x))
noncomputable def a8R (x:Str):Option String:=gd (B1 x) (some (nmS x))
noncomputable def Y1 (e:Expr):Option Str:=swappedStores.match_8 (λ_=>Option Str) e (λx _=>some x) λ_=>none
noncomputable def a4x (e:Expr):Option (List Expr):=PySem.W.isTupleDisplay.match_1 (λ_=>Option (List Expr)) e (λes _ _=>some es) λ_=>none
theorem a0C {e:Expr} {x:Str} (h:Y1 e=some x):∃ p,e=.Name x p:=by
 cases e <;> first | exact A3 h | exact ⟨_,c7o (Expr.Name · _) (c7p h)⟩
noncomputable def G2 {α β:Type} (f:α->Option β):List α->Option (List β)
 | []=>some []
 | a :: r=>(f a).bind λb=>(G2 f r).bind λl=>some (b :: l)
theorem A2 {α β:Type} {f:α->Option β} {a:α} {r:List α} {l:List β} (h:G2 f (a :: r)=some l):∃ b q,f a=some b/\G2 f r=some q/\l=b :: q:=by
 exact j5 (f8 h) λb B h=>j5 (f8 h) λq F h=>⟨b,q,B,F,(c7p h).symm⟩
noncomputable def a3m (es:List Expr):Option (List Nm):=G2 (λe=>(Y1 e).bind a08) es
noncomputable def a0T (e:Expr):Option (List Nm×Bool):=match Y1 e with
 | some x=>(a08 x).map λa=>([a],true)
 | none=>(a4x e).bind λes=>(a3m es).map λl=>(l,false)
noncomputable def Cx.glob (c:Cx) (x:Str):Bool:=match c.kind x with
 | .glob=>true
 | _=>false
noncomputable def Cx.var (c:Cx) (x:Str):Bool:=match c.kind x with
 | .var=>true
 | _=>false
theorem a3D {c:Cx} {x:Str} (h:c.glob x=true):c.kind x=.glob:=by
 unfold Cx.glob at h;cases e:c.kind x <;> rw [e] at h <;> first | rfl | exact nomatch h
theorem a5i {c:Cx} {x:Str} (h:c.var x=true):c.kind x=.var:=by
 unfold Cx.var at h;cases e:c.kind x <;> rw [e] at h <;> first | rfl | exact nomatch h
noncomputable def C8 (c:Cx) (x:Str) (s:Str):Bool:=x==s&&(c.glob x&&(!(c.fns.contains x)&&!(c.clss.contains x)))
noncomputable def a1u:List Ev->Lv
 | []=>f4
 | e :: r=>d7 e (a1u r)
noncomputable def a1E:List Cv->Cv
 | []=>J4
 | e :: r=>Q8 e (a1E r)
noncomputable def b6Z:List Cv->Cv
 | []=>a5x
 | e :: r=>V0 e (b6Z r)
noncomputable def toB:List Bv->Bv
 | []=>m6
 | e :: r=>d9 e (toB r)
noncomputable def a4T (e:Option Expr):Option String:=e.bind λe=>foldedSetIterable.match_1 (λ_=>Option String) e (λk _ _=>match k with
  | .str s=>a8R s
  | _=>none) λ_=>none
theorem a31 {e:Option Expr} {s:String} (h:a4T e=some s):∃ x k p,e=some (.Constant (.str x) k p)/\a8R x=some s:=by
 refine j5 (f8 h) λe q h=>?_;subst q;cases e with
 | Constant v n p=>cases v <;> first | exact A3 h | exact ⟨_,_,_,rfl,h⟩
 | _=>exact A3 h
noncomputable def a3r (e:Expr):Option (Str×List Expr):=Builtin.PlaceNodes.isACallBy.match_3 (λ_=>Option (Str×List Expr)) e (λf args kws _=>(Y1 f).bind λg=>gd kws.isEmpty (some (g,args))) λ_=>none
theorem a3X {e:Expr} {g:Str} {as:List Expr} (h:a3r e=some (g,as)):∃ p q,e=.Call (.Name g p) as [] q:=by
 cases e with
 | Call f args B pos =>
  refine j5 (f8 h) λR F h=>eE (a0C F) λp O=>?_;subst O;refine eA (r9 h) λJ h=>?_;cases h;cases B with
  | nil=>exact ⟨_,_,rfl⟩
  | cons _ _=>exact nomatch J
 | _=>exact A3 h
noncomputable def a5P (e:Expr):Bool:=Nat.beq e.ctorIdx 7
noncomputable def b43 (rec:Expr->Option Ev) (c:Cx) (e:Expr) (f:Str) (args:List Expr):Option It :=
 bif C8 c f V8 then (G2 rec args).map λl=>K8 (a1u l)
 else (rec e).map D8
noncomputable def a5g (rec:Expr->Option Ev) (c:Cx) (e:Expr):Option It :=
 bif a5P e then none else
 match a3r e with
 | some p=>b43 rec c e p.1 p.2
 | none=>(rec e).map D8
noncomputable def b9j (rec:Expr->Option Ev) (l:Expr) (op:CmpOp) (rs:List Expr):Option Cv:=(one? rs).bind λr=>gd (!a5P r) <| (rec l).bind λa=>(rec r).bind λb=>(a19 op).map λo=>y8 o a b
noncomputable def c0f (o:BoolOp):Bool:=match o with
 | .And=>true
 | .Or=>false
noncomputable def b42 (rec:Expr->Option Ev) (l:Expr) (ops:List CmpOp) (rs:List Expr):Option Cv :=
 match one? ops with
 | some op=>b9j rec l op rs
 | none=>(two? ops).bind λo=>(two? rs).bind λr=>gd (!a5P r.2) <| (rec l).bind λa=>(rec r.1).bind λb=>(rec r.2).bind λz=>(a19 o.1).bind λo1=>(a19 o.2).map λo2=>a6l o1 o2 a b z
noncomputable def c0i (o:UnaryOp):Bool:=match o with
 | .Not=>true
 | _=>false
noncomputable def c0h (o:UnaryOp):Bool:=match o with
 | .USub=>true
 | _=>false
noncomputable def b9i (recC:Expr->Option Cv) (o:BoolOp) (vs:List Expr):Option Cv:=gd (!vs.isEmpty) <| (G2 recC vs).map λl=>match o with
 | .And=>a1E l
 | .Or=>b6Z l
noncomputable def c0A (rec:Expr->Option Ev) (recC:Expr->Option Cv) (e:Expr):Option Cv :=
 match e with
 | .UnaryOp o x _=>bif c0i o then (recC x).map b2V else (rec e).map a7z
 | .BoolOp o vs _=>b9i recC o vs
 | .Compare l ops rs _=>b42 rec l ops rs
 | .IfExp t a b _=>(recC t).bind λt=>(recC a).bind λa=>(recC b).bind λb=>some (b92 t a b)
 | e=>(rec e).map a7z
noncomputable def U6 (c:Cx) (l:List (Str×NameKind)):List (Str×NameKind):=l.map λp=>if p.2==.free&&c.names.lookup p.1==some .cell then (p.1,.cell) else p
noncomputable def a0u (e:Expr):List Str:=match Y1 e with
 | some x=>[x]
 | none=>((a4x e).map (·.filterMap Y1)).getD []
noncomputable def a46 (sc:Scope):List (Str×NameKind):=sc.names.filter λp=>p.1 != a3h
noncomputable def a1e (c:Cx) (sc:Scope) (must:List Str):Bool:=sc.kind==.function &&
 (sc.names.all λp=>p.2 != .cell&&(p.2 != .free||c.names.lookup p.1==some .cell)&&(p.2 != .local||sc.names.lookup p.1==some .local)) &&
 (a46 sc).all λp=>p.2 != .local||must.contains p.1||!(c.dom.contains p.1)
noncomputable def a2O (l:List (Str×NameKind)):List Str:=(l.filter λp=>p.2==.local||p.2==.cell).map (·.1)
noncomputable def sub (c:Cx) (sc:Scope):Cx:={c with names:=U6 c (a46 sc),dom:=c.dom++a2O (U6 c (a46 sc))}
noncomputable def X9 (f:Str->Bool) (t:Expr):Bool:=match Y1 t with
 | some x=>f x
 | none=>((a4x t).map λes=>es.all λe=>((Y1 e).map f).getD false).getD false
noncomputable def Y5 (c:Cx) (x:Str):Bool:=c.names.lookup x==some .local
noncomputable def a2J (it:It) (one:Bool):Bool:=!it.tup||!one
noncomputable def a5X (e:Expr):Bool:=match a3r e with
 | some p=>!p.2.isEmpty
 | none=>true
noncomputable def b60 (k:Const):Option f5:=match k with
 | .none=>some .none
 | .bool b=>some (.bool b)
 | .int i=>some (.int i)
 | .str s=>(a8R s).map .str
 | _=>none
noncomputable def b9m (c:Cx) (x:Str):Option Ev:=gd (!(x==a3g)) <| bif c.var x then (a08 x).map d6 else gd (c.glob x&&c.fns.contains x) ((a08 x).map λy=>h9 (.fn y))
noncomputable def b7P (rec:Expr->Option Ev) (v i:Expr):Option Ev:=match i with
 | .Slice lo hi st _=>gd st.isNone <| (match lo with
  | some lo=>gd hi.isNone <| (rec v).bind λa=>(rec lo).bind λb=>some (a0N a b)
  | none=>hi.bind λhi=>(rec v).bind λa=>(rec hi).bind λb=>some (a9h a b))
 | i=>(rec v).bind λa=>(rec i).bind λb=>some (k8 a b)
noncomputable def b44 (rec:Expr->Option Ev) (ob:Expr) (m:Str) (apos:Pos) (args:List Expr) (pos:Pos):Option Ev :=
 gd (decide (args.length<=15)&&a5X ob&&(apos.endLine==pos.line)) <| (rec ob).bind λo=>(a08 m).bind λm=>(G2 rec args).bind λl=>some (i8 o m (a1u l))
noncomputable def b9h (rec:Expr->Option Ev) (c:Cx) (f:Str) (args:List Expr):Option Ev :=
 gd (C8 c f f&&decide (args.length<=2)) <| (b5G.lookup f).bind λb=>(G2 rec args).bind λl=>some (P9 b (a1u l))
noncomputable def b40 (rec:Expr->Option Ev) (c:Cx) (f:Str) (args:List Expr):Option Ev :=
 match (one? args).bind a3r with
 | some p =>
  bif C8 c p.1 a5b then (one? p.2).bind λa=>(rec a).bind λa=>gd (C8 c f a06) (some (S0 a))
  else bif C8 c p.1 V8&&C8 c f a2N then (one? p.2).bind λa=>(rec a).map a6o
  else b9h rec c f args
 | none=>b9h rec c f args
noncomputable def b0Y (rec:Expr->Option Ev) (c:Cx) (f:Str) (args:List Expr):Option Ev:=gd (decide (args.length<=15)&&!(f==a3g)) <| bif c.var f then (a08 f).bind λf=>(G2 rec args).map λl=>a3w f (a1u l) else gd (c.glob f) <|
   bif c.fns.contains f then (a08 f).bind λf=>(G2 rec args).map λl=>A4 f (a1u l)
   else bif c.clss.contains f then (a08 f).bind λf=>(G2 rec args).map λl=>a6p f (a1u l)
   else b40 rec c f args
noncomputable def b41 (rec:Expr->Option Ev) (c:Cx) (f:Expr) (args:List Expr) (kws:List Keyword) (pos:Pos):Option Ev:=gd kws.isEmpty <| PySem.W.holdsPat.match_1 (λ_=>Option Ev) f (λob m apos=>b44 rec ob m apos args pos) λf=>(Y1 f).bind λf=>b0Y rec c f args
noncomputable def b4m (g:Comprehension):Bool:=g.is_async==0
noncomputable def b9k (rec:Cx->Expr->Option Ev) (recC:Cx->Expr->Option Cv) (c:Cx) (elt:Expr) (g:Comprehension) (sc:Scope):Option Ev :=
 gd (b4m g&&a1e c sc (a0u g.target)&&X9 (Y5 (sub c sc)) g.target) <|
 (a0T g.target).bind λt=>(a5g (rec c) c g.iter).bind λit=>(G2 (recC (sub c sc)) g.ifs).bind λifs=>(rec (sub c sc) elt).bind λe=>gd (a2J it t.2) (some (A9 e t.1 t.2 it (a1E ifs)))
noncomputable def b9l (rec:Cx->Expr->Option Ev) (recC:Cx->Expr->Option Cv) (c:Cx) (elt:Expr) (g g2:Comprehension) (sc:Scope):Option Ev :=
 gd (b4m g&&b4m g2&&g.ifs.isEmpty&&a1e c sc (a0u g.target)&&X9 (Y5 (sub c sc)) g.target&&X9 (Y5 (sub c sc)) g2.target) <|
 (a0T g.target).bind λt=>(a5g (rec c) c g.iter).bind λit=>(a0T g2.target).bind λt2=>(a5g (rec (sub c sc)) (sub c sc) g2.iter).bind λit2=>(G2 (recC (sub c sc)) g2.ifs).bind λifs=>(rec (sub c sc) elt).bind λe =>
  gd (a2J it t.2&&a2J it2 t2.2) (some (a3x e t.1 t.2 it t2.1 t2.2 it2 (a1E ifs)))
noncomputable def a91 (rec:Expr->Option Ev) (ks:List (Option Expr)) (vs:List Expr):Option Ev :=
 bif ks.isEmpty&&vs.isEmpty then some a2x else
 gd (decide (ks.length<=15)&&ks.length==vs.length) <| (G2 a4T ks).bind λks=>(G2 rec vs).bind λvs=>some (a7O ks (a1u vs))
noncomputable def c0B (c:Cx) (rec:Cx->Expr->Option Ev) (recC:Cx->Expr->Option Cv) (e:Expr):Option Ev :=
 match e with
 | .Constant k _ _=>(b60 k).map h9
 | .Name x _=>b9m c x
 | .Tuple es _ _=>gd (decide (es.length<=100)) <| (G2 (rec c) es).map λl=>B6 (a1u l)
 | .List es _=>gd (decide (es.length<=100)) <| (G2 (rec c) es).map λl=>G0 (a1u l)
 | .Dict ks vs _=>a91 (rec c) ks vs
 | .BinOp a op b _=>(b4Z op).bind λo=>(rec c a).bind λx=>(rec c b).bind λy=>some (p7 o x y)
 | .UnaryOp o x _=>bif c0h o then (rec c x).map K3 else none
 | .BoolOp o vs _=>gd (c0f o) <| (two? vs).bind λp=>(rec c p.1).bind λa=>(rec c p.2).map λb=>b5S a b
 | .Compare l ops rs _=>(one? ops).bind λop=>(b9j (rec c) l op rs).map a7N
 | .IfExp t a b _=>(recC c t).bind λt=>(rec c a).bind λa=>(rec c b).bind λb=>some (a1D t a b)
 | .Attribute v a _=>gd (c.attrs.contains a&&a5X v) <| (rec c v).bind λe=>(a08 a).bind λx=>some (o6 e x)
 | .Subscript v i _=>b7P (rec c) v i
 | .Call f args kws pos=>b41 (rec c) c f args kws pos
 | .ListComp elt gs sc _=>(match one? gs with
  | some g=>b9k rec recC c elt g sc
  | none=>(two? gs).bind λg=>b9l rec recC c elt g.1 g.2 sc)
 | _=>none
mutual
noncomputable def T3:Nat->Cx->Expr->Option Ev
 | 0,_,_=>none
 | n+1,c,e=>c0B c (T3 n) (trC n) e
noncomputable def trC:Nat->Cx->Expr->Option Cv
 | 0,_,_=>none
 | n+1,c,e=>c0A (T3 n c) (trC n c) e
end
noncomputable def a23 (e:Expr):Bool:=Nat.beq e.ctorIdx 26
noncomputable def a8S (n:Nat) (c:Cx) (e:Expr):Option Tv :=
 match e with
 | .Name x _=>gd (c.var x) <| (a08 x).map m5
 | .Subscript v i _=>gd (!a23 i) <| (T3 n c v).bind λa=>(T3 n c i).bind λb=>some (a0B a b)
 | .Attribute v a _=>gd (c.attrs.contains a) <| (T3 n c v).bind λe=>(a08 a).bind λx=>some (T1 e x)
 | .Tuple ..=>none
 | .Call ..=>none
 | .Constant ..=>none
 | .Slice ..=>none
 | _=>none
noncomputable def trT (n:Nat) (c:Cx) (e:Expr):Option Tv :=
 match a4x e with
 | some es=>(G2 (a8S n c) es).map R4
 | none=>a8S n c e
noncomputable def a2e (t e:Expr):Bool :=
 match a4x t with
 | some _=>((a4x e).map λvs=>vs.all (constantsAlone 8)).getD false
 | none=>Nat.beq t.ctorIdx 24
noncomputable def a0F (e:Expr):Bool:=Nat.ble 8 e.ctorIdx&&Nat.ble e.ctorIdx 10
noncomputable def a5C (recS:Cx->Stmt->Option Bv) (c:Cx) (l:List Stmt):Option Bv:=(G2 (recS c) l).map toB
noncomputable def trS:Nat->Cx->Stmt->Option Bv
 | 0,_,_=>none
 | n+1,c,s=>match s with
  | .Expr e _=>gd (!a0F e) <| (T3 n c e).map r8
  | .Assign ts e _=>(one? ts).bind λt=>gd (!a2e t e) <| (trT n c t).bind λt=>(T3 n c e).bind λe=>some (p9 t e)
  | .Return e _=>e.bind λe=>(T3 n c e).map I9
  | .If t a b _=>(trC n c t).bind λt=>(a5C (trS n) c a).bind λa=>(a5C (trS n) c b).bind λb=>some (U9 t a b)
  | .While t b els _=>gd els.isEmpty <| (trC n c t).bind λt=>(a5C (trS n) c b).bind λb=>some (a5z t b)
  | .For t it b els _=>gd (els.isEmpty&&X9 c.var t) <| (a0T t).bind λt=>(a5g (T3 n c) c it).bind λit=>(a5C (trS n) c b).bind λb=>gd (a2J it t.2) (some (S4 t.1 t.2 it b))
  | .Raise _ _ _=>some b4y
  | .Break _=>some b6w
  | _=>none
noncomputable def a8Q (p:Arguments):Option (List Nm) :=
 gd (p.posonlyargs.isEmpty&&p.vararg.isNone&&p.kwonlyargs.isEmpty&&p.kwarg.isNone&&p.defaults.isEmpty) <| G2 (λa=>a08 a.arg) p.args
noncomputable def trF (fns clss attrs:List Str) (p:Arguments) (body:List Stmt) (sc:Scope):Option Fn :=
 (a8Q p).bind λps=>(a5C (trS 60) ⟨sc.names,fns,clss,attrs,a2O sc.names⟩ body).bind λb=>some ⟨ps,b⟩
structure Gi where
 base:Addr->Option Obj
 K:Frag
 fa:Nm->Nm->Option Addr
 ca:Nm->Option Addr
 sa:Addr
 sl:List Int
 os:OsState
 F:b08
section
variable {x:Str}(G:Gi)
mutual
noncomputable def j7 (h:Heap):f5->Value->Prop
 | .none,v=>v=.none
 | .bool b,v=>v=.bool b
 | .int i,v=>∃ t,v=.int i t
 | .str s,v=>∃ t,v=.str (Str.ofString s) t
 | .tup l,v=>∃ a vs,v=.ref a/\IsTup h a vs.toArray/\m4 h l vs
 | .ref a,v=>v=.ref a
 | .fn f,v=>∃ a,v=.ref a/\G.fa 0 f=some a
 | .fz l,v=>v=.ref G.sa/\l=G.sl
noncomputable def m4 (h:Heap):List f5->List Value->Prop
 | [],vs=>vs=[]
 | x :: r,vs=>∃ u us,vs=u :: us/\j7 h x u/\m4 h r us
end
variable {G:Gi}{h:Heap}{v:Value}
theorem b5e (r:j7 G h .none v):v=.none:=r
theorem b01 {b:Bool} (r:j7 G h (.bool b) v):v=.bool b:=r
theorem J0 {i:Int} (r:j7 G h (.int i) v):∃ t,v=.int i t:=r
theorem a1w {s:String} (r:j7 G h (.str s) v):∃ t,v=.str (Str.ofString s) t:=r
theorem Y0 {l:List f5} (r:j7 G h (.tup l) v):∃ a vs,v=.ref a/\IsTup h a vs.toArray/\m4 G h l vs:=r
theorem U8 {a:Nat} (r:j7 G h (.ref a) v):v=.ref a:=r
theorem vfn {f:Nm} (r:j7 G h (.fn f) v):∃ a,v=.ref a/\G.fa 0 f=some a:=r
theorem vfz {l:List Int} (r:j7 G h (.fz l) v):v=.ref G.sa/\l=G.sl:=r
theorem a1a {vs:List Value} (r:m4 G h [] vs):vs=[]:=r
theorem F9 {x:f5} {l:List f5} {vs:List Value} (r:m4 G h (x :: l) vs):∃ u us,vs=u :: us/\j7 G h x u/\m4 G h l us:=r
theorem j7.ref {a:Nat}:j7 G h (.ref a) (.ref a):=(rfl:Value.ref a=.ref a)
theorem j7.int {i:Int} {t:Tok}:j7 G h (.int i) (.int i t):=(⟨t,rfl⟩:∃ q,Value.int i t=.int i q)
theorem j7.none:j7 G h .none .none:=(rfl:Value.none=.none)
theorem j7.bool {b:Bool}:j7 G h (.bool b) (.bool b):=(rfl:Value.bool b=.bool b)
theorem j7.str {s:String} {t:Tok}:j7 G h (.str s) (.str (Str.ofString s) t):=(⟨t,rfl⟩:∃ q,Value.str (Str.ofString s) t=.str (Str.ofString s) q)
theorem j7.tup {l:List f5} {a:Addr} {vs:List Value} (t:IsTup h a vs.toArray) (r:m4 G h l vs):j7 G h (.tup l) (.ref a):=(⟨a,vs,rfl,t,r⟩:∃ b us,Value.ref a=.ref b/\IsTup h b us.toArray/\m4 G h l us)
theorem m4.nil:m4 G h [] []:=(rfl:([]:List Value)=[])
theorem m4.cons {x:f5} {u:Value} {l:List f5} {vs:List Value} (a:j7 G h x u) (b:m4 G h l vs):m4 G h (x :: l) (u :: vs):=(⟨u,vs,rfl,a,b⟩:∃ q us,u :: vs=q :: us/\j7 G h x q/\m4 G h l us)
end
variable {x:Str}
theorem m4.length {G:Gi} {h:Heap}:∀ {l:List f5} {vs:List Value},m4 G h l vs->l.length=vs.length:=by
 intro r;induction r with
 | nil=>intro _ e;cases a1a e;rfl
 | cons _ r B =>
  intro _ e;replace e:=F9 e;revert e;intro q;refine j9 q λu us F _ e=>?_;clear q;subst F;simp [B e]
theorem m4.append {G:Gi} {h:Heap}:∀ {l m:List f5} {vs ws:List Value},m4 G h l vs->m4 G h m ws->m4 G h (l++m) (vs++ws):=by
 intro r;induction r with
 | nil=>intro _ _ _ e f;cases a1a e;exact f
 | cons _ r B =>
  intro _ _ _ e f;replace e:=F9 e;revert e;intro q;refine j9 q λu us F a e=>?_;clear q;subst F;exact .cons a (B e f)
theorem m4.get {G:Gi} {h:Heap}:∀ {l:List f5} {vs:List Value} (i:Nat) {x:f5},m4 G h l vs->l[i]?=some x->∃ u,vs[i]?=some u/\j7 G h x u:=by
 intro r;induction r with
 | nil=>intro _ i _ _ f;simp at f
 | cons y r F =>
  intro _ i x e f;replace e:=F9 e;revert e;intro q;refine j9 q λu us B a e=>?_;clear q;subst B;cases i with
  | zero=>simp at f;subst f;exact ⟨u,rfl,a⟩
  | succ i=>simp at f ⊢;exact F i e f
theorem m4.get_none {G:Gi} {h:Heap} {l:List f5} {vs:List Value} (i:Nat) (e:m4 G h l vs) (f:l[i]?=none):vs[i]?=none:=by
 rw [List.getElem?_eq_none_iff] at f ⊢;refine w3 e.length ?_;exact f
theorem m4.drop {G:Gi} {h:Heap}:∀ {l:List f5} {vs:List Value} (n:Nat),m4 G h l vs->m4 G h (l.drop n) (vs.drop n):=by
 intro l;induction l with
 | nil=>intro _ n e;cases a1a e;rw[List.drop_nil];rw[List.drop_nil];exact .nil
 | cons x r B =>
  intro _ n e;refine j9 (F9 e) λu us q a b=>?_;subst q;cases n with
  | zero=>exact e
  | succ n=>exact B n b
theorem m4.take {G:Gi} {h:Heap}:∀ {l:List f5} {vs:List Value} (n:Nat),m4 G h l vs->m4 G h (l.take n) (vs.take n):=by
 intro l;induction l with
 | nil=>intro _ n e;cases a1a e;rw[List.take_nil];rw[List.take_nil];exact .nil
 | cons x r B =>
  intro _ n e;refine j9 (F9 e) λu us q a b=>?_;subst q;cases n with
  | zero=>exact .nil
  | succ n=>exact .cons a (B n b)
theorem m4.set {G:Gi} {h:Heap}:∀ {l:List f5} {vs:List Value} (i:Nat) {x:f5} {u:Value},m4 G h l vs->j7 G h x u->m4 G h (l.set i x) (vs.set i u):=by
 intro r;induction r with
 | nil=>intro _ i _ _ e _;cases a1a e;simpa using .nil
 | cons y r F =>
  intro _ i x u e f;replace e:=F9 e;revert e;intro q;refine j9 q λJ us B a e=>?_;clear q;subst B;cases i with
  | zero=>simpa using .cons f e
  | succ i=>simpa using .cons a (F i e f)
theorem m4.toInts {G:Gi} {h:Heap}:∀ {l:List Int} {vs:List Value},m4 G h (l.map f5.int) vs->IntsAre vs l:=by
 intro r;induction r with
 | nil=>intro _ e;cases a1a e;exact .nil
 | cons i r J =>
  intro _ e;replace e:=F9 e;revert e;intro q;refine j9 q λu us B F e=>?_;clear q;subst B;refine eE (J0 F) λt O=>?_;subst O;exact .cons i t (J e)
theorem m4.of_ints {G:Gi} {h:Heap} {l:List Int} {vs:List Value} (e:IntsAre vs l):m4 G h (l.map f5.int) vs:=by
 induction e with
 | nil=>exact .nil
 | cons _ _ _ q=>exact .cons .int q
structure Ext (X:Addr->Prop) (H:Hp) (h:Heap) (H':Hp) (h':Heap):Prop where
 keep:∀ a o,h.get? a=some o->H a=none->¬ X a->h'.get? a=some o
 fresh:∀ a,(H' a).isSome->(H a).isSome\/h.get? a=none\/X a
 grow:∀ a,(H a).isSome->(H' a).isSome
 there:∀ a,(h.get? a).isSome->¬ X a->(h'.get? a).isSome
noncomputable abbrev S5:Addr->Prop:=λ_=>False
theorem Ext.refl (X:Addr->Prop) (H:Hp) (h:Heap):Ext X H h H h:=⟨λ_ _ e _ _=>e,λ_ e=>.inl e,λ_ e=>e,λ_ e _=>e⟩
theorem Ext.trans {X:Addr->Prop} {H B F:Hp} {h J O:Heap} (x:Ext X H h B J) (y:Ext X B J F O):Ext X H h F O:=by
 refine ⟨λa o e f g=>?_,λa e=>?_,λa e=>y.grow a (x.grow a e),λa e g=>y.there a (x.there a e g) g⟩
 ·refine y.keep a o (x.keep a o e f g) ?_ g;cases q:B a with
  | none=>rfl
  | some _ =>
   rcases x.fresh a (by rw[q];rfl) with z | z | z
   ·rw [f] at z;cases z
   ·rw [e] at z;cases z
   ·exact c7Y z g
 ·rcases y.fresh a e with z | z | z
  ·exact x.fresh a z
  ·cases q:h.get? a with
   | none=>exact .inr (.inl rfl)
   | some o =>
    by_cases g:X a
    ·exact .inr (.inr g)
    ·have:=x.there a (by rw[q];rfl) g;rw [z] at this;cases this
  ·exact .inr (.inr z)
theorem Ext.weaken {X Y:Addr->Prop} {H q:Hp} {h h':Heap} (x:Ext X H h q h') (i:∀ a,X a->Y a):Ext Y H h q h' :=
 ⟨λa o e f g=>x.keep a o e f λz=>g (i a z),λa e=>by
  rcases x.fresh a e with z | z | z
  ·exact .inl z
  ·exact .inr (.inl z)
  ·exact .inr (.inr (i a z)),x.grow,λa e g=>x.there a e λz=>g (i a z)⟩
theorem Ext.compress {X Y:Addr->Prop} {H q:Hp} {h h':Heap} (x:Ext X H h q h') (i:∀ a,X a->Y a\/h.get? a=none):Ext Y H h q h':=by
 have no:∀ a o,h.get? a=some o->¬ Y a->¬ X a:=λa o e g z=>by
  rcases i a z with z | z
  ·exact g z
  ·rw [e] at z;exact nomatch z
 refine ⟨λa o e f g=>x.keep a o e f (no a o e g),λa e=>?_,x.grow,λa e g=>?_⟩
 ·rcases x.fresh a e with z | z | z
  ·exact .inl z
  ·exact .inr (.inl z)
  ·rcases i a z with z | z
   ·exact .inr (.inr z)
   ·exact .inr (.inl z)
 ·exact eE (c8y e) λo B=>x.there a e (no a o B g)
noncomputable def W3 (X:Addr->Prop) (h:Heap):Prop:=∀ a o vs n,X a->h.get? a=some o->o.cls=.type "tuple"->o.data=.seq vs n->False
theorem W3.no {h:Heap}:W3 S5 h:=λ_ _ _ _ x=>x.elim
mutual
noncomputable def o7 (w:World):f5->Int
 | .int i=>hashInt i
 | .str s=>hashStr w (Str.ofString s)
 | .tup l=>reduceHash (Builtin.Tuple.tupleHashOf (U0 w l))
 | .none=>0
 | .bool _=>0
 | .ref _=>0
 | .fn _=>0
 | .fz _=>0
noncomputable def U0 (w:World):List f5->List Int
 | []=>[]
 | v :: r=>o7 w v :: U0 w r
end
noncomputable def M8 (G:Gi) (w:World) (h:Heap):List (f5×f5)->List DictEntry->Prop
 | [],es=>es=[]
 | p :: r,es=>∃ e t,es=e :: t/\j7 G h p.1 e.key/\j7 G h p.2 e.val/\e.hash=o7 w p.1/\M8 G w h r t
noncomputable def a2t (G:Gi) (w:World) (h:Heap) (a:Addr):a0z->Prop
 | .list xs=>∃ vs n,h.get? a=some {cls:=.type "list",data:=.seq vs n}/\m4 G h xs vs.toList
 | .dict es ep=>(es.map (·.1)).Nodup/\a0R es/\∃ ents,h.get? a=some {cls:=.type "dict",data:=.dict ents ep}/\M8 G w h es ents.toList
 | .inst c d=>∃ C,G.ca c=some C/\h.get? a=some (instObj C d)
 | .ns fs=>∃ es n,h.get? a=some {cls:=.type "dict",data:=.dict es n}/\StrKeys es/\es.size=fs.length /\
   ∀ x,B1 x=true->(∀ v,a0l fs (nm x)=some v->∃ u,nsFind es x=some u/\j7 G h v u)/\(a0l fs (nm x)=none->nsFind es x=none)
noncomputable def K6 (o:Obj):Prop:=∀ vs n,o.data≠.seq vs n
structure A7 (G:Gi) (w:World) (H:Hp) (h:Heap):Prop where
 base:∀ a o,G.base a=some o->h.get? a=some o/\H a=none
 objs:∀ a mo,H a=some mo->a2t G w h a mo
theorem j7.mono {G:Gi} {h h':Heap} (k:∀ a vs,IsTup h a vs->IsTup h' a vs) {x:f5} {v:Value} (e:j7 G h x v):j7 G h' x v :=
 f5.rec (motive_1:=λx=>∀ v,j7 G h x v->j7 G h' x v) (motive_2:=λl=>∀ vs,m4 G h l vs->m4 G h' l vs) (λ_ e=>e) (λ_ _ e=>e) (λ_ _ e=>e) (λ_ _ e=>e)
  (λl V v e=>by replace e:=Y0 e;revert e;intro q;refine j9 q λa vs B ht e=>?_;clear q;subst B;exact .tup (k _ _ ht) (V _ e)) (λ_ _ e=>e) (λ_ _ e=>e) (λ_ _ e=>e) (λ_ e=>e)
  (λx r R U vs e=>by refine j9 (F9 e) λu us F J O=>?_;subst F;exact .cons (R _ J) (U _ O)) x v e
theorem m4.mono {G:Gi} {h h':Heap} (k:∀ a vs,IsTup h a vs->IsTup h' a vs):∀ {l:List f5} {vs:List Value},m4 G h l vs->m4 G h' l vs:=by
 intro O;induction O with
 | nil=>exact λe=>e
 | cons _ _ J =>
  intro _ e;refine j9 (F9 e) λu us q B F=>?_;subst q;exact .cons (B.mono k) (J F)
theorem b3f {G:Gi} {w:World} {h:Heap} {es:List DictEntry} (r:M8 G w h [] es):es=[]:=r
theorem a2V {G:Gi} {w:World} {h:Heap} {p:f5×f5} {l:List (f5×f5)} {es:List DictEntry} (r:M8 G w h (p :: l) es):∃ e t,es=e :: t/\j7 G h p.1 e.key/\j7 G h p.2 e.val/\e.hash=o7 w p.1/\M8 G w h l t:=r
theorem M8.cons {G:Gi} {w:World} {h:Heap} {p:f5×f5} {l:List (f5×f5)} {e:DictEntry} {t:List DictEntry} (a:j7 G h p.1 e.key) (b:j7 G h p.2 e.val) (c:e.hash=o7 w p.1) (d:M8 G w h l t):M8 G w h (p :: l) (e :: t) :=
 (⟨e,t,rfl,a,b,c,d⟩:∃ q B,e :: t=q :: B/\j7 G h p.1 q.key/\j7 G h p.2 q.val/\q.hash=o7 w p.1/\M8 G w h l B)
theorem M8.mono {G:Gi} {w:World} {h h':Heap} (k:∀ a vs,IsTup h a vs->IsTup h' a vs):∀ {l:List (f5×f5)} {es:List DictEntry},M8 G w h l es->M8 G w h' l es:=by
 intro U;induction U with
 | nil=>exact λe=>e
 | cons _ _ R =>
  intro _ e;refine B0 (a2V e) λu us q B F J O=>?_;subst q;exact .cons (B.mono k) (F.mono k) J (R O)
theorem a2t.mono {G:Gi} {w:World} {h h':Heap} {a:Addr} {mo:a0z} (k:∀ a vs,IsTup h a vs->IsTup h' a vs) (same:∀ o,h.get? a=some o->h'.get? a=some o) (x:a2t G w h a mo):a2t G w h' a mo:=by
 cases mo with
 | list Z=>refine A6 x λvs n e r=>?_;clear x;exact ⟨vs,n,same _ e,r.mono k⟩
 | dict F W=>refine a1x x λR U q e r=>?_;clear x;exact ⟨R,U,q,same _ e,r.mono k⟩
 | inst c d=>refine j5 x λC e f=>?_;clear x;exact ⟨C,e,same _ f⟩
 | ns Y =>
  refine J6 x λF n e ns V f=>?_;clear x;refine ⟨F,n,same _ e,ns,V,λx J=>⟨λv B=>?_,(f x J).2⟩⟩;exact j5 ((f x J).1 v B) λu O B=>⟨u,O,B.mono k⟩
theorem a2t.at_ {G:Gi} {w:World} {h:Heap} {a:Addr} {mo:a0z} (x:a2t G w h a mo):∃ o,h.get? a=some o/\o.cls≠.type "tuple":=by
 cases mo with
 | list W=>refine A6 x λV n e r=>?_;clear x;exact ⟨_,e,by simp⟩
 | dict B F=>refine a1x x λO R q e r=>?_;clear x;exact ⟨_,e,by simp⟩
 | inst c d=>refine j5 x λC e f=>?_;clear x;exact ⟨_,f,by simp⟩
 | ns J=>refine J6 x λB n e ns U f=>?_;clear x;exact ⟨_,e,by simp⟩
theorem A7.noTup {G:Gi} {w:World} {H:Hp} {h:Heap} (R:A7 G w H h) {a:Addr} {vs:Array Value} (t:IsTup h a vs):H a=none:=by
 cases q:H a with
 | none=>rfl
 | some F =>
  refine j5 ((R.objs a F q).at_) λo e n=>y4 t λO B c _=>?_;clear t;rw [e] at B;have J:=E0 B;clear B;subst J;exact c7Y c n
theorem Ext.tup {G:Gi} {w:World} {X:Addr->Prop} {H q:Hp} {h h':Heap} (x:Ext X H h q h') (R:A7 G w H h) (J:W3 X h) {a:Addr} {vs:Array Value} (t:IsTup h a vs):IsTup h' a vs:=by
 have B:=R.noTup t;refine P7 t λo e c n d=>?_;clear t;exact ⟨o,x.keep a o e B (λF=>J a o _ _ F e c d),c,n,d⟩
theorem Ext.vrep {G:Gi} {w:World} {X:Addr->Prop} {H q:Hp} {h h':Heap} (x:Ext X H h q h') (R:A7 G w H h) (B:W3 X h) {v:f5} {u:Value} (t:j7 G h v u):j7 G h' v u :=
 t.mono λ_ _=>x.tup R B
theorem Ext.vreps {G:Gi} {w:World} {X:Addr->Prop} {H q:Hp} {h h':Heap} (x:Ext X H h q h') (R:A7 G w H h) (B:W3 X h) {v:List f5} {u:List Value} (t:m4 G h v u):m4 G h' v u :=
 t.mono λ_ _=>x.tup R B
theorem Ext.push {H:Hp} {h:Heap} (o:Obj):Ext S5 H h H (h.push o) :=
 ⟨λ_ _ e _ _=>c67 _ e,λ_ e=>.inl e,λ_ e=>e,λa e _=>by
  refine eE (c8y e) λq e=>?_;rw[(c67 _ e)];rfl⟩
theorem A7.lt {G:Gi} {w:World} {H:Hp} {h:Heap} (R:A7 G w H h) {a:Addr} {mo:a0z} (e:H a=some mo):a < h.objs.size:=by refine j5 ((R.objs a mo e).at_) λ_ e _=>?_;exact c7c e
theorem a3C {h:Heap}:h.get? h.objs.size=none:=by
 cases e:h.get? h.objs.size with
 | none=>rfl
 | some o=>exact c7Y (c7c e) (c7J _)
theorem A7.fresh {G:Gi} {w:World} {H:Hp} {h:Heap} (R:A7 G w H h):H h.objs.size=none:=by
 cases e:H h.objs.size with
 | none=>rfl
 | some q=>exact c7Y (R.lt e) (c7J _)
theorem U5 {h:Heap} {o:Obj} {a:Addr} {vs:Array Value} (t:IsTup h a vs):IsTup (h.push o) a vs:=t.push o
theorem A7.push {G:Gi} {w:World} {H:Hp} {h:Heap} (R:A7 G w H h) (o:Obj):A7 G w H (h.push o) :=
 ⟨λa q e=>⟨c67 _ (R.base a q e).1,(R.base a q e).2⟩,λa B e=>(R.objs a B e).mono (λ_ _=>U5) λ_ e=>c67 _ e⟩
theorem A7.alloc {G:Gi} {w:World} {H:Hp} {h:Heap} (R:A7 G w H h) {o:Obj} {mo:a0z} (r:a2t G w (h.push o) h.objs.size mo) :
  A7 G w (H.set h.objs.size mo) (h.push o)/\Ext S5 H h (H.set h.objs.size mo) (h.push o):=by
 refine ⟨⟨λa O e=>?_,λa B e=>?_⟩,⟨λ_ _ e _ _=>c67 _ e,λa e=>?_,λa e=>?_,(Ext.push (H:=H) o).there⟩⟩
 ·refine eA (R.base a O e) λF J=>⟨c67 _ F,?_⟩;unfold Hp.set;rw[(c7W (c7F (c7c F)))];exact J
 ·unfold Hp.set at e
  split at e
  ·rename_i q;subst q;have U:=E0 e;clear e;subst U;exact r
  ·exact (R.push o).objs a B e
 ·unfold Hp.set at e
  split at e
  ·rename_i q;subst q;exact .inr (.inl a3C)
  ·exact .inl e
 ·unfold Hp.set
  split
  ·rfl
  ·exact e
theorem A7.update {G:Gi} {w:World} {H:Hp} {h h':Heap} (R:A7 G w H h) {a:Addr} {mo mo':a0z} (e:H a=some mo) (s:Heap.SameBut a h h') (r:(∀ b vs,IsTup h b vs->IsTup h' b vs)->a2t G w h' a mo') :
  A7 G w (H.set a mo') h'/\Ext S5 H h (H.set a mo') h':=by
 have tup:∀ b vs,IsTup h b vs->IsTup h' b vs:=λb vs t=>by
  have U:=R.noTup t;refine j5 t λo B r=>?_;clear t;exact ⟨o,(s.2 b (by rintro rfl;rw [e] at U;cases U)).trans B,r⟩
 have r:=r tup;refine ⟨⟨λb o B=>?_,λb F B=>?_⟩,⟨λb o B f _=>?_,λb B=>?_,λb B=>?_,λb B _=>?_⟩⟩
 ·refine eA (R.base b o B) λV J=>?_;have O:b≠a:=by rintro rfl;rw [e] at J;cases J
  exact ⟨(s.2 b O).trans V,by unfold Hp.set;rw[(c7W O)];exact J⟩
 ·unfold Hp.set at B
  split at B
  ·rename_i q;subst q;have W:=E0 B;clear B;subst W;exact r
  ·rename_i q;exact (R.objs b F B).mono tup λo e=>(s.2 b q).trans e
 ·exact (s.2 b (by rintro rfl;rw [e] at f;cases f)).trans B
 ·unfold Hp.set at B
  split at B
  ·rename_i q;subst q;exact .inl (by rw[e];rfl)
  ·exact .inl B
 ·unfold Hp.set
  split
  ·rfl
  ·exact B
 ·by_cases q:b=a
  ·subst q;refine j5 r.at_ λo e _=>?_;rw[e];rfl
  ·rw[(s.2 b q)];exact B
theorem A7.but {G:Gi} {w:World} {H:Hp} {h h':Heap} {X:Addr->Prop} (R:A7 G w H h) {a:Addr} {o:Obj} (e:h.get? a=some o) (U:K6 o) (f:H a=none) (b:G.base a=none) (x:X a) (s:Heap.SameBut a h h') (Y:(h'.get? a).isSome) :
  A7 G w H h'/\Ext X H h H h':=by
 have tup:∀ b B,IsTup h b B->IsTup h' b B:=λb B t=>by
  refine P7 t λV q c n d=>?_;clear t;exact ⟨V,(s.2 b (by rintro rfl;rw [e] at q;have W:=E0 q;clear q;subst W;exact U _ _ d)).trans q,c,n,d⟩
 refine ⟨⟨λc o q=>?_,λc O q=>?_⟩,⟨λc o q g y=>?_,λc q=>.inl q,λc q=>q,λc q y=>?_⟩⟩
 ·exact eA (R.base c o q) λF J=>⟨(s.2 c (by rintro rfl;rw [b] at q;cases q)).trans F,J⟩
 ·exact (R.objs c O q).mono tup λo e=>(s.2 c (by rintro rfl;rw [f] at q;cases q)).trans e
 ·exact (s.2 c (by rintro rfl;exact y x)).trans q
 ·rw[(s.2 c (by rintro rfl;exact y x))];exact q
variable {X:Addr->Prop}{H:Hp}{v u:Value}{h:Heap}{a:Addr}
structure AOk (n m:Nat) (A:Around):Prop where
 h:A.handled=none
 d:A.depth+6 * n+10<=990
 u:A.units+2 * m+200 * n+300<=9900
theorem AOk.units {n m:Nat} {A:Around} (x:AOk n m A):A.units+200 < cLine:=by have:=x.u;unfold cLine;exact c3e this
structure n7 (G:Gi) (w:World) (X:Addr->Prop) (H:Hp) (s:Shared) (H':Hp) (s':Shared):Prop where
 rel:A7 G w H' s'.heap
 ext:Ext X H s.heap H' s'.heap
 gens:s'.gens=s.gens
 os:s'.os=s.os
theorem n7.refl {G:Gi} {w:World} {s:Shared} (R:A7 G w H s.heap):n7 G w X H s H s:=⟨R,.refl ..,rfl,rfl⟩
theorem n7.trans {G:Gi} {w:World} {H q B:Hp} {s F J:Shared} (x:n7 G w X H s q F) (y:n7 G w X q F B J):n7 G w X H s B J :=
 ⟨y.rel,x.ext.trans y.ext,y.gens.trans x.gens,y.os.trans x.os⟩
theorem n7.weaken {G:Gi} {w:World} {X Y:Addr->Prop} {H q:Hp} {s B:Shared} (x:n7 G w X H s q B) (i:∀ a,X a->Y a):n7 G w Y H s q B:=⟨x.rel,x.ext.weaken i,x.gens,x.os⟩
theorem n7.no {G:Gi} {w:World} {Y:Addr->Prop} {H q:Hp} {s B:Shared} (x:n7 G w S5 H s q B):n7 G w Y H s q B:=x.weaken λ_ e=>e.elim
noncomputable def Got {α β:Type} (G:Gi) (w:World) (rep:Heap->α->β->Prop) (H:Hp) (s:Shared) (Q:α->Hp->Prop) (v:β) (s':Shared):Prop :=
 ∃ x H',rep s'.heap x v/\n7 G w S5 H s H' s'/\Q x H'
theorem Got.after {α β:Type} {G:Gi} {w:World} {rep:Heap->α->β->Prop} {H B:Hp} {s J:Shared} {Q:α->Hp->Prop} {v:β} {F:Shared} (t:n7 G w S5 H s B J) (g:Got G w rep B J Q v F):Got G w rep H s Q v F :=
 by refine j9 g λx O r u q=>?_;clear g;exact ⟨x,O,r,t.trans u,q⟩
noncomputable def b8P (_:Heap) (a b:Bool):Prop:=a=b
noncomputable abbrev D7:Value->Shared->Prop:=λ_ _=>False
section
variable {lc:Program}{w:World}{G:Gi}
theorem m3 {α β:Type} {rep:Heap->α->β->Prop} {A:Around} {t:Sem β} {s O:Shared} {J:α->Hp->Prop} {P:β->Shared->Prop} (a:wpAny (model lc w) A t (Got G w rep H s J) D7 O)
  (b:∀ x v F B,rep B.heap x v->n7 G w S5 H s F B->J x F->P v B):wpAny (model lc w) A t P D7 O :=
 c62 a (λv B R=>by refine j9 R λx F r U q=>?_;clear R;exact b x v F B r U q) λ_ _ e=>e
theorem A1 {α β:Type} {rep:Heap->α->β->Prop} {A:Around} {t:Sem β} {H q:Hp} {s B F:Shared} {Q:α->Hp->Prop} (st:n7 G w S5 H s q B) (a:wpAny (model lc w) A t (Got G w rep q B Q) D7 F):wpAny (model lc w) A t (Got G w rep H s Q) D7 F :=
 c62 a (λ_ _ g=>g.after st) λ_ _ e=>e
end
variable {o:Obj}{vs:Array Value}{p:f5}{l:List (f5×f5)}
theorem n7.tok {G:Gi} {w:World} {H q:Hp} {s B:Shared} (x:n7 G w X H s q B):n7 G w X H s q {B with toks:=t}:=⟨x.rel,x.ext,x.gens,x.os⟩
theorem n7.toks {G:Gi} {w:World} {s:Shared} (R:A7 G w H s.heap):n7 G w X H s H {s with toks:=t}:=⟨R,.refl ..,rfl,rfl⟩
theorem n7.push {G:Gi} {w:World} {s:Shared} (R:A7 G w H s.heap):n7 G w S5 H s H {s with heap:=s.heap.push o,toks:=t}:=⟨R.push o,.push o,rfl,rfl⟩
theorem n7.alloc {G:Gi} {w:World} {s:Shared} {mo:a0z} (R:A7 G w H s.heap) (r:a2t G w (s.heap.push o) s.heap.objs.size mo) :
  n7 G w S5 H s (H.set s.heap.objs.size mo) {s with heap:=s.heap.push o,toks:=t}:=⟨(R.alloc r).1,(R.alloc r).2,rfl,rfl⟩
theorem n7.vrep {G:Gi} {w:World} {H B:Hp} {s q:Shared} (x:n7 G w S5 H s B q) (R:A7 G w H s.heap) {v:f5} (t:j7 G s.heap v u):j7 G q.heap v u:=x.ext.vrep R .no t
theorem n7.vreps {G:Gi} {w:World} {H B:Hp} {s q:Shared} (x:n7 G w S5 H s B q) (R:A7 G w H s.heap) {v:List f5} {u:List Value} (t:m4 G s.heap v u):m4 G q.heap v u:=x.ext.vreps R .no t
structure Gk (G:Gi):Prop where
 K:∀ a o,G.K.lookup a=some o->G.base a=some o
 sysm:(G.base sysModules).isSome=true
 script:∃ o vs n,G.base G.sa=some o/\o.cls=.type "list"/\o.data=.seq vs n/\IntsAre vs.toList G.sl
theorem a7F:a3g=("__debug__":Str):=by decide +kernel
noncomputable def a1d:List (Str×Value):=[(b7H,.builtin "len"),(b7L,.builtin "sum"),(b7I,.builtin "max"),(b7J,.builtin "min"),(a06,.builtin "sorted"),
 (a2N,.type "list"),(b0R,.type "tuple"),(b7G,.type "int"),(b7E,.builtin "abs"),(b7K,.type "str"),(V8,.type "range"),(a5b,.type "set")]
structure b2C (K:Frag) (C:Addr):Prop where
 cd:∃ cd,clsIn K C=some cd/\cd.hasDict=true
 ga:findIn K (.ref C) "__getattribute__"=some (some (.builtin "object.__getattribute__"))
 gaa:findIn K (.ref C) "__getattr__"=some none
 sa:findIn K (.ref C) "__setattr__"=some (some (.builtin "object.__setattr__"))
 plain:plainOver K C=true
 makes:makesIn K C=true
noncomputable def a7t (sc:Scope) (x:Str):Bool:=sc.names.lookup x==some .local||sc.names.lookup x==some .cell
inductive b2E (K:Frag) (c:Cx) (f:Addr) (fd:Fn):Prop
 | mk:∀ name qual params body scope kV doc pm an cdv ct oc od osl,
  K.lookup f=some ⟨oc,od,.func (fnOf name qual params body scope .none kV doc pm an cdv ct),osl⟩->codeIn K cdv qual=true->trF c.fns c.clss c.attrs params body scope=some fd ->
  scope.kind=.function->scope.isCoroutine=false->scope.isGenerator=false->(params.args.map (·.arg)).Nodup->(params.args.all λa=>a7t scope a.arg)=true->b2E K c f fd
theorem b2E.cx {K:Frag} {c:Cx} {f:Addr} {fd:Fn} {q:List (Str×NameKind)} {B:List Str}:b2E K c f fd->b2E K ⟨q,c.fns,c.clss,c.attrs,B⟩ f fd
 | ⟨_,_,_,_,_,_,_,_,_,_,_,_,_,_,b1,b2,b3,b4,b5,b6,b7,b8⟩=>⟨_,_,_,_,_,_,_,_,_,_,_,_,_,_,b1,b2,b3,b4,b5,b6,b7,b8⟩
structure Gok (G:Gi) (c:Cx):Prop extends Gk G where
 cl:∀ cn C,G.ca cn=some C->b2C G.K C
 at_:∀ cn C x,G.ca cn=some C->c.attrs.contains x=true->findIn G.K (.ref C) x=some none
 me:∀ cn C x fd,G.ca cn=some C->B1 x=true->G.F cn (nm x)=some fd->∃ f,G.fa cn (nm x)=some f/\findIn G.K (.ref C) x=some (some (.ref f))/\typeIn G.K (.ref f)=some (.type "function")
 fn:∀ x,c.fns.contains x=true->c.clss.contains x=false/\∃ f,G.fa 0 (nm x)=some f/\nsIn G.K mainGlobals x=some (some (.ref f))/\keepIn G.K (.ref f)=true
 cls:∀ x,c.clss.contains x=true->c.fns.contains x=false/\∃ C,G.ca (nm x)=some C/\nsIn G.K mainGlobals x=some (some (.ref C))/\keepIn G.K (.ref C)=true
 fun_:∀ cn name fd,G.F cn name=some fd->∃ f,G.fa cn name=some f/\b2E G.K c f fd/\keepIn G.K (.ref f)=true
 keepf:∀ name f,G.fa 0 name=some f->keepIn G.K (.ref f)=true
 nolim:∀ h:Heap,(∀ a o,G.base a=some o->h.get? a=some o)->h.NoLimit
 blt:∀ x v,a1d.lookup x=some v->c.fns.contains x=false->c.clss.contains x=false->nsIn G.K mainGlobals x=some none/\nsIn G.K builtinsNs x=some (some v)
theorem A7.sysm {G:Gi} {w:World} (R:A7 G w H h) (g:Gk G) {o:a0z} (e:H a=some o):(a==sysModules)=false:=by
 cases q:a==sysModules with
 | false=>rfl
 | true =>
  have:=c8j q;subst this;refine eE (c8y g.sysm) λF B=>?_;rw [(R.base _ _ B).2] at e;cases e
theorem A7.In {G:Gi} {c:Cx} {w:World} (R:A7 G w H h) (g:Gok G c):G.K.In h:=λa o e=>(R.base a o (g.K a o e)).1
structure R7 (G:Gi) (w:World) (lf:Env) (c:Cx) (r:En) (H:Hp) (h:Heap):Prop where
 kind:lf.scope.kind=.function
 glob:lf.globals=mainGlobals
 blt:lf.builtins=builtinsNs
 kinds:∀ x k,c.names.lookup x=some k->lf.kindOf x=some k
 loc:∃ m o,h.get? lf.locals=some o/\K6 o/\h.Ns lf.locals m/\∀ x v,B1 x=true->c.names.lookup x=some .local->r (nm x)=some v->∃ u,m x=some u/\j7 G h v u
 cel:∀ x,c.names.lookup x=some .cell->∃ a u,lf.cells.lookup x=some a/\h.IsCell a u/\(B1 x=true->∀ v,r (nm x)=some v->∃ y,u=some y/\j7 G h v y)
 own:H lf.locals=none/\G.base lf.locals=none/\∀ x a,lf.cells.lookup x=some a->H a=none/\G.base a=none/\a≠lf.locals/\∃ u,h.IsCell a u
 inj:∀ x y a,lf.cells.lookup x=some a->lf.cells.lookup y=some a->x=y
 dom:∀ y,B1 y=true->c.dom.contains y=false->r (nm y)=none
 vars:∀ y,c.kind y=.var->c.dom.contains y=true
noncomputable def FX (lf:Env):Addr->Prop:=λa=>a=lf.locals\/∃ x,lf.cells.lookup x=some a
theorem Ext.none {H B:Hp} {h h':Heap} (x:Ext X H h B h') (e:H a=none) (s:(h.get? a).isSome) (g:¬ X a):B a=none:=by
 cases q:B a with
 | none=>rfl
 | some F =>
  rcases x.fresh a (by rw[q];rfl) with z | z | z
  ·rw [e] at z;cases z
  ·rw [z] at s;exact nomatch s
  ·exact c7Y z g
theorem Heap.IsCell.is {u:Option Value} (x:h.IsCell a u):(h.get? a).isSome=true:=x.elim λ_ z=>by rw[z.1];rfl
theorem R7.ext {G:Gi} {w:World} {lf:Env} {c:Cx} {r:En} {H d:Hp} {h h':Heap} (F:R7 G w lf c r H h) (R:A7 G w H h) (x:Ext S5 H h d h'):R7 G w lf c r d h':=by
 obtain ⟨kind,glob,blt,q,⟨m,o,O,E,f,Y⟩,U,⟨Z,I,g⟩,inj,V,B⟩:=F;refine ⟨kind,glob,blt,q,⟨m,o,x.keep _ _ O Z (λz=>z),E,?_,λy v a k e=>?_⟩,λy k=>?_,⟨x.none Z (by rw[O];rfl) (λz=>z),I,λy a e=>?_⟩,inj,V,B⟩
 ·refine a5M f λP D C e rest=>?_;clear f;rw [O] at e;have N:=E0 e;clear e;subst N;exact ⟨o,D,C,x.keep _ _ O Z λz=>z,rest⟩
 ·exact j5 (Y y v a k e) λu J W=>⟨u,J,x.vrep R .no W⟩
 ·refine j9 (U y k) λa u J l s=>j5 l λb W p=>?_;clear l;refine ⟨a,u,J,⟨b,x.keep _ _ W (g y a J).1 λz=>z,p⟩,λn v e=>?_⟩;exact j5 (s n v e) λz t A=>⟨z,t,x.vrep R .no A⟩
 ·exact T5 (g y a e) λi K L u b j M=>⟨x.none i (by rw[j];rfl) (λz=>z),K,L,u,b,x.keep _ _ j i λz=>z,M⟩
theorem R7.step {G:Gi} {w:World} {lf:Env} {c:Cx} {r:En} {H q:Hp} {s B:Shared} (F:R7 G w lf c r H s.heap) (R:A7 G w H s.heap) (x:n7 G w S5 H s q B):R7 G w lf c r q B.heap:=F.ext R x.ext
variable {A:Around}{lf:Env}{s:Shared}
structure BOk (n:Nat) (A:Around):Prop where
 h:A.handled=none
 d:A.depth+6 * n+5<=990
 u:A.units+200 * n+200<=9900
theorem AOk.b {n m:Nat} (x:AOk n m A):BOk n A:=⟨x.h,by have:=x.d;exact c7k (c7x (c7d rfl) _) this,by have:=x.u;exact c3f this⟩
theorem BOk.deeper {n:Nat} (x:BOk (n+1) A):AOk n 40 (A.deeper lf):=⟨x.h,by have:=x.d;show A.depth+1+_+_<=_;exact c1Z this,by have:=x.u;show A.units+3+_+_+_<=_;exact c1W this⟩
noncomputable def I6 (lc:Program) (w:World) (G:Gi) (n:Nat):Prop:=∀ (A:Around) (s:Shared) (H:Hp) (cn name:Nm) (f:Addr) (vs:List f5) (us:List Value) (Q:f5->Hp->Prop),BOk n A->A7 G w H s.heap->m4 G s.heap vs us ->
 G.fa cn name=some f->(j3 G.F n).call cn name vs H Q->codeAny (model lc w) A (.call (.ref f) ⟨us,[]⟩) (λr s'=>match r with | .ok (.ret v)=>Got G w (j7 G) H s Q v s' | _=>False) s
theorem I6.call {lc:Program} {w:World} {G:Gi} {n:Nat} {cn name:Nm} {f:Addr} {vs:List f5} {us:List Value} {Q:f5->Hp->Prop} (q:I6 lc w G n) (a:BOk n A) (R:A7 G w H s.heap) (r:m4 G s.heap vs us) (e:G.fa cn name=some f)
  (h:(j3 G.F n).call cn name vs H Q):wpAny (model lc w) A (call (.ref f) us) (Got G w (j7 G) H s Q) D7 s:=by
 refine wpAny_call (codeAny_mono (q A s H cn name f vs us Q a R r e h) λr B z=>?_);rcases r with e | (v | _ | _ | _) <;> exact z
structure Pl where
 p:Program
 w:World
 g:Gi
 n:Nat
noncomputable def b09 (x:Pl):Prop:=∀ c,Gok x.g c->I6 x.p x.w x.g x.n->I6 x.p x.w x.g (x.n+1)
open Classical in
noncomputable def a1I:Pl:=if h:∃ x,¬ b09 x then h.choose else ⟨default,⟨λ_ _=>0,⟨λ_=>0,λ_=>0,λt=>t,λ_=>0,λ_ _=>0,λ_=>false,λ_=>0,.refcount,.text,λ_=>0,λ_=>none,λ_=>false,λ_ _ _=>true,λ_ a b=>a>=b,true,λ_=>false,λ_=>none,λ_=>none,λ_ _ _=>0,λ_ _=>none,λ_=>none,λ_=>(0,false,"UTC"),λ_=>none,λd=>d,λ_=>false⟩⟩,⟨λ_=>none,[],λ_ _=>none,λ_=>none,0,[],default,λ_ _=>none⟩,0⟩
theorem b3m (h:b09 a1I) (x:Pl):b09 x:=c7D λq=>by
 have e:∃ x,¬ b09 x:=⟨x,q⟩;unfold a1I at h;rw [dif_pos e] at h;exact e.choose_spec h
theorem a9l (h:b09 a1I) {lc:Program} {w:World} {G:Gi} {c:Cx} (g:Gok G c):∀ n,I6 lc w G n:=by
 intro n;induction n with
 | zero=>exact λA s H B name f O us Q a R J F h=>h.elim
 | succ n q=>exact b3m h ⟨lc,w,G,n⟩ c g q
@[irreducible] noncomputable def lc:Program:=a1I.p
@[irreducible] noncomputable def w:World:=a1I.w
@[irreducible] noncomputable def G:Gi:=a1I.g
@[irreducible] noncomputable def n:Nat:=a1I.n
abbrev c8J:=A7 G w
abbrev c8K:=R7 G w
abbrev c8L:=model lc w
abbrev c8Q:=j3 G.F n
abbrev c8T:=n7 G w
abbrev c8U:=I6 lc w G n
theorem b5V (h:∀ c,Gok G c->I6 lc w G n->I6 lc w G (n+1)):b09 a1I:=by
 unfold lc w G n at h;exact h
section
variable {xs:List f5}{es:List (f5×f5)}{Q:f5->Hp->Prop}(lc:Program)(w:World)(G:Gi)
noncomputable def SE (n m:Nat) (c:Cx) (e:c8H) (x:Ev):Prop :=
 ∀ (A:Around) (s:Shared) (H:Hp) (r:En) (lf:Env) (Q:f5->Hp->Prop),AOk n m A->A7 G w H s.heap->R7 G w lf c r H s.heap ->
  x (j3 G.F n) r H Q->wpAny (model lc w) A (eval e lf) (Got G w (j7 G) H s Q) D7 s
noncomputable def SC (n m:Nat) (c:Cx) (e:c8H) (x:Cv):Prop :=
 ∀ (A:Around) (s:Shared) (H:Hp) (r:En) (lf:Env) (Q:Bool->Hp->Prop),AOk n m A->A7 G w H s.heap->R7 G w lf c r H s.heap ->
  x (j3 G.F n) r H Q->wpAny (model lc w) A (isTrue e lf (eval e lf)) (Got G w b8P H s Q) D7 s
noncomputable def SEs (n m:Nat) (c:Cx) (es:List c8H) (x:Lv):Prop :=
 ∀ (A:Around) (s:Shared) (H:Hp) (r:En) (lf:Env) (pos:Pos) (Q:List f5->Hp->Prop),AOk n m A->A7 G w H s.heap->R7 G w lf c r H s.heap ->
  x (j3 G.F n) r H Q->wpAny (model lc w) A (spliced (backTo pos (starEach es lf))) (Got G w (λh xs vs=>m4 G h xs vs/\vs.length=es.length) H s Q) D7 s
end
variable {xs:List f5}{es:List (f5×f5)}{Q:f5->Hp->Prop}{m:Nat}{c:Cx}
abbrev c8I:=SE lc w G n
theorem b6F {k pos}:c8I m c (.Constant .none k pos) (h9 .none):=λ_ _ H _ _ _ _ R _ q =>
 wpAny_Constant_none ⟨.none,H,.none,.refl R,q⟩
abbrev c8P:=SC lc w G n
theorem b6A {b k pos}:c8I m c (.Constant (.bool b) k pos) (h9 (.bool b)):=λ_ _ H _ _ _ _ R _ q =>
 wpAny_Constant_bool ⟨.bool b,H,.bool,.refl R,q⟩
theorem b82 {i k pos}:c8I m c (.Constant (.int i) k pos) (h9 (.int i)):=λ_ _ H _ _ _ _ R _ q =>
 wpAny_Constant_int ⟨.int i,H,.int,.toks R,q⟩
theorem a02 (l:List Char):Str.ofString (String.ofList l)=⟨(l.map Char.toNat).toArray⟩:=PySem.W.Fast.ofString_ofList l
theorem a88 {n:Nat} (h:n < 128):(Char.ofNat n).toNat=n:=by
 have:n.isValidChar:=Or.inl (by exact c7g h (c7d rfl))
 unfold Char.ofNat;rw[(dif_pos this)];show (Char.ofNatAux n this).val.toNat=n;unfold Char.ofNatAux;simp [UInt32.toNat]
theorem a60 {s:Str} (h:B1 s=true):Str.ofString (nmS s)=s:=by
 unfold nmS;rw[(a02 ..)];rw[c7U];unfold B1 at h;obtain ⟨⟨l⟩⟩:=s;simp only [Str.mk.injEq] at h ⊢
 congr 1
 simp only [List.all_eq_true] at h;induction l with
 | nil=>rfl
 | cons a l B =>
  rw[c7Z];rw[(B λx q=>h x (c7i _ q))];show (Char.ofNat a).toNat :: l=_;(rewrite [a88];try rfl);have:=h a c7j;exact c7d this
theorem b3o (l:List Nat):∀ (k:List Nat),(∀ x∈l,x < 128)->(∀ x∈k,x < 128)->∀ a b,a≠0->b≠0->l.length=k.length->l.foldl (λa c=>a * 128+c) a=k.foldl (λa c=>a * 128+c) b->a=b/\l=k:=by
 induction l with
 | nil=>intro k _ _ a b _ _ q e;cases k <;> first | exact ⟨e,rfl⟩ | exact nomatch q
 | cons x l f =>
  intro k F J a b Z d q e;cases k with
  | nil=>exact nomatch q
  | cons y k =>
   have U:=F x c7j;have V:=J y c7j;refine eA (f k (λz B=>F z (c7i _ B)) (λz B=>J z (c7i _ B)) (a * 128+x) (b * 128+y) (c5p Z) (c5p d) (Nat.succ.inj q) e) λO W=>?_;have R:a=b:=by exact c4I U V O
   have Y:x=y:=by exact c4F O R
   rw[R];rw[Y];rw[W];exact ⟨rfl,rfl⟩
theorem a30 (l:List Nat):∀ a,(∀ x∈l,x < 128)->a * 128 ^ l.length<=l.foldl (λa c=>a * 128+c) a/\l.foldl (λa c=>a * 128+c) a < (a+1) * 128 ^ l.length:=by
 induction l with
 | nil=>intro a _;simp
 | cons x l U =>
  intro a h;have F:=h x c7j;refine eA (U (a * 128+x) λz R=>h z (c7i _ R)) λJ O=>?_;rw[List.foldl_cons];rw[c72];rw[Nat.pow_succ'];have q:a * (128 * 128 ^ l.length)=(a * 128) * 128 ^ l.length:=by rw[(Nat.mul_assoc ..)];rfl
  have B:(a+1) * (128 * 128 ^ l.length)=((a+1) * 128) * 128 ^ l.length:=by rw[(Nat.mul_assoc ..)];rfl
  exact ⟨q▸c7g (Nat.mul_le_mul_right _ (c7B _ _)) J,B▸c7v O (Nat.mul_le_mul_right _ (c2y F))⟩
theorem b0M {p q f g:Nat} (h:p * 128<=q) (B:f < (1+1) * p) (F:1 * q<=g) (e:f=g):False:=by omega
theorem Q2 {x y:Str} (W:B1 x=true) (Y:B1 y=true) (e:nm x=nm y):x=y:=by
 obtain ⟨⟨l⟩⟩:=x;obtain ⟨⟨k⟩⟩:=y;have B:∀ z∈l,z < 128:=λz q=>c7d (List.all_eq_true.mp W z q);have F:∀ z∈k,z < 128:=λz q=>c7d (List.all_eq_true.mp Y z q);have e:l.foldl (λa c=>a * 128+c) 1=k.foldl (λa c=>a * 128+c) 1:=e;refine eA (a30 l 1 B) λJ O=>eA (a30 k 1 F) λR U=>?_;have V:l.length=k.length:=by
  rcases Nat.lt_trichotomy l.length k.length with h | h | h
  ·have:128 ^ (l.length+1)<=128 ^ k.length:=Nat.pow_le_pow_right (by exact Nat.zero_lt_succ 127) h
   rw [Nat.pow_succ] at this;exact (b0M this O R e).elim
  ·exact h
  ·have:128 ^ (k.length+1)<=128 ^ l.length:=Nat.pow_le_pow_right (by exact Nat.zero_lt_succ 127) h
   rw [Nat.pow_succ] at this;exact (b0M this U J e.symm).elim
 rw[((b3o l k B F 1 1 (by exact Nat.one_ne_zero) (by exact Nat.one_ne_zero) V e).2)];rfl
theorem B8 {s:Nm} (h:a08 x=some s):B1 x=true/\nm x=s:=(r9 h).imp_right c7p
theorem a92 {s:String} (h:a8R x=some s):B1 x=true/\nmS x=s:=(r9 h).imp_right c7p
theorem b4B {t:String} {k pos} (h:a8R x=some t):c8I m c (.Constant (.str x) k pos) (h9 (.str t)):=λ_ s H _ _ Q _ R _ q=>by
 refine eA (a92 h) λa B=>?_;subst B;exact wpAny_Constant_str ⟨.str (nmS x),H,(⟨s.toks,c7o (Value.str · s.toks) (a60 a).symm⟩:∃ t,Value.str x s.toks=.str (Str.ofString (nmS x)) t),.toks R,q⟩
theorem a25 (h:c.kind x=.var):c.names.lookup x=some .local\/c.names.lookup x=some .cell:=by
 unfold Cx.kind at h
 split at h <;> first | exact .inl (by assumption) | exact .inr (by assumption) | cases h
theorem a5S (h:c.kind x=.glob):c.names.lookup x=some .globalImplicit:=by
 unfold Cx.kind at h
 split at h <;> first | assumption | cases h
theorem a8l {r:En} {v:f5} (R:c8J H s.heap) (F:c8K lf c r H s.heap) (k:c.kind x=.var) (a:B1 x=true) (e:r (nm x)=some v) (q:Q v H) :
  wpAny c8L A (loadName lf x) (Got G w (j7 G) H s Q) D7 s:=by
 rcases a25 k with k | k
 ·exact J6 F.loc λf o d b Y O=>j5 (O x v a k e) λu B J=>wpAny_loadName_local F.kind (F.kinds _ _ k) Y B ⟨v,H,J,.refl R,q⟩
 ·refine j9 (F.cel x k) λZ u B J V=>j5 (V a v e) λy U W=>?_;subst U;exact wpAny_loadName_cell F.kind (F.kinds _ _ k) B J ⟨v,H,W,.refl R,q⟩
theorem b88 {t:Nm} {pos:Pos} (h:a08 x=some t) (k:c.kind x=.var) (d:(x==("__debug__":Str))=false):c8I m c (.Name x pos) (d6 t):=λA s H r O Q _ R F q=>by
 refine eA (B8 h) λa J=>?_;subst J;revert q;intro B;refine j5 B λv e q=>?_;clear B;exact wpAny_Name (a8l R F k a e q) d
theorem a2z {Q:Value->Shared->Prop} (q:lf.scope.kind=.function) (B:lf.kindOf x=some .globalImplicit) (h:wpAny c8L A (loadGlobal lf x) Q D7 s):wpAny c8L A (loadName lf x) Q D7 s:=by
 unfold loadName;simp only [Env.blockKind,q,B,ScopeKind.isAnnotationScope,Bool.false_and,Bool.false_eq_true,if_false];exact h
theorem a4U {r:En} {Q:Value->Shared->Prop} (g:Gok G c) (R:c8J H s.heap) (F:c8K lf c r H s.heap) (k:c.kind x=.glob) (e:nsIn G.K mainGlobals x=some (some v)) (q:Q v s) :
  wpAny c8L A (loadName lf x) Q D7 s:=by
 refine a2z F.kind (F.kinds _ _ (a5S k)) ?_;unfold loadGlobal;rw[F.glob];exact c60 ((looks_nsIn (R.In g) e).here (c61 q))
theorem a8k {r:En} {Q:Value->Shared->Prop} (g:Gok G c) (R:c8J H s.heap) (F:c8K lf c r H s.heap) (k:c.kind x=.glob) (e:nsIn G.K mainGlobals x=some none)
  (B:nsIn G.K builtinsNs x=some (some v)) (q:Q v s) :
  wpAny c8L A (loadName lf x) Q D7 s:=by
 refine a2z F.kind (F.kinds _ _ (a5S k)) ?_;unfold loadGlobal;rw[F.glob];rw[F.blt];refine c60 ((looks_nsIn (R.In g) e).here ?_);exact c60 ((looks_nsIn (R.In g) B).here (c61 q))
theorem b80 {t:Nm} {pos:Pos} (g:Gok G c) (h:a08 x=some t) (k:c.kind x=.glob) (f:c.fns.contains x=true) (d:(x==("__debug__":Str))=false):c8I m c (.Name x pos) (h9 (.fn t)):=λA s H r V Q _ R F q=>by
 refine eA (B8 h) λa U=>?_;subst U;exact a1y (g.fn x f) λ_ B J O _=>wpAny_Name (a4U g R F k O ⟨.fn (nm x),H,(⟨B,rfl,J⟩:∃ b,Value.ref B=.ref b/\G.fa 0 (nm x)=some b),.refl R,q⟩) d
theorem a2a {e:c8H} {p:Pos} {x:Ev} (h:T3 k c (.Starred e p)=some x):False:=by
 cases k <;> exact A3 h
theorem R3 {e:c8H} {es:List c8H} (h:∀ q p,e≠.Starred q p):starEach (e :: es) lf=(false,eval e lf) :: starEach es lf:=by
 cases e <;> first | rfl | exact c7Y rfl (h _ _)
theorem a15 (f:∀ e x,T3 k c e=some x->c8I m c e x):∀ (es:List c8H) (l:List Ev),G2 (T3 k c) es=some l->SEs lc w G n m c es (a1u l):=by
 intro es;induction es with
 | nil =>
  intro l h;have V:=E0 h;clear h;subst V;intro A s H r U pos Q _ R _ q;exact wpAny_items_nil ⟨[],H,⟨.nil,rfl⟩,.refl R,q⟩
 | cons e es g =>
  intro l h;refine j9 (A2 h) λx i Y O W=>?_;subst W;intro A s H r U pos Q a R F q;refine wpAny_items_cons (m3 (f e x Y A s H r U _ a R F q) λy v Z u o J V=>?_) (R3 λC p d=>by subst d;exact a2a Y)
  exact m3 (g i O A u Z r U pos _ a J.rel (F.step R J) V) λz E b D ⟨t,O⟩ B j =>
   ⟨y :: z,b,⟨.cons (B.vrep J.rel o) t,by rw[c72];rw[c72];rw[O];rfl⟩,J.trans B,j⟩
theorem b87 {es:List c8H} {x:Lv} {pos:Pos} (h:SEs lc w G n m c es x) (hz:es.length<=100):c8I m c (.Tuple es k pos) (B6 x):=λA s H r U Q a R F q=>by
 refine wpAny_Tuple (m3 (h A s H r U pos _ a R F q) (λZ b J Y ⟨W,O⟩ B V=>⟨?_,?_⟩))
 ·rw[O];rw[sizeLine_eq];exact c7g hz (c7d rfl)
 ·refine ⟨.tup Z,J,?_,B.trans (.push (t:=Y.toks) B.rel),V⟩;exact .tup (IsTup.new _ _) (W.mono λ_ _=>U5)
theorem b11 {H:Hp} {vs:List Value} (r:m4 G h xs vs):a2t G w (h.push {cls:=.type "list",data:=.seq vs.toArray}) h.objs.size (.list xs) :=
 ⟨vs.toArray,0,c68 _ rfl,by simpa using r.mono λ_ _=>U5⟩
theorem b84 {es:List c8H} {x:Lv} {pos:Pos} (h:SEs lc w G n m c es x) (hz:es.length<=100):c8I m c (.List es pos) (G0 x):=λA s H r O Q a R F q=>by
 refine wpAny_List (m3 (h A s H r O pos _ a R F q) (λb Z Y W ⟨V,J⟩ B U=>⟨?_,?_⟩))
 ·rw[J];rw[sizeLine_eq];exact c7g hz (c7d rfl)
 ·exact ⟨.ref _,_,.ref,B.trans (.alloc (t:=W.toks) B.rel (b11 (H:=H) V)),U _ B.rel.fresh⟩
theorem b8Y {a b:c8H} {x y:Ev} {V:Operator} {o:BOp} {pos:Pos} (ha:c8I m c a x) (Z:c8I m c b y)
  (d:∀ A s H v u p q Q,AOk n m A->c8J H s.heap->j7 G s.heap p v->j7 G s.heap q u->a3q o p q H Q->wpAny c8L A (binaryOp V v u) (Got G w (j7 G) H s Q) D7 s) :
  c8I m c (.BinOp a V b pos) (p7 o x y):=λA s H r U Q O R F q=>by
 refine wpAny_BinOp (m3 (ha A s H r U _ O R F q) (λp v W j h J f=>?_));refine m3 (Z A j W r U _ O J.rel (F.step R J) f) (λe u Y k i B g=>?_);exact A1 (J.trans B) (d A k Y v u p e _ O B.rel (B.vrep J.rel h) i g)
theorem b83 {t a b:c8H} {z:Cv} {x y:Ev} {pos:Pos} (ht:c8P m c t z) (ha:c8I m c a x) (Z:c8I m c b y) :
  c8I m c (.IfExp t a b pos) (a1D z x y):=λA s H r O Q J R F q=>by
 refine wpAny_IfExp (m3 (ht A s H r O _ J R F q) (λp v V Y U B W=>?_));have U:p=v:=U;subst U;cases p with
 | true=>exact A1 B (ha A Y V r O _ J B.rel (F.step R B) (W.1 rfl))
 | false=>exact A1 B (Z A Y V r O _ J B.rel (F.step R B) (W.2 rfl))
set_option backward.match.sparseCases true in
theorem b8X {a b:c8H} {x y:Ev} {pos:Pos} (ha:c8I m c a x) (Z:c8I m c b y):c8I m c (.BoolOp .And [a,b] pos) (b5S x y):=λA s H r W Q V R F q=>by
 rw[(arm_eval_BoolOp ..)];refine c60 (m3 (ha A s H r W _ V R F q) (λp v U e O J B=>?_));revert B;intro Y;refine j5 Y λt d B=>?_;clear Y;subst d;replace O:=b01 O;subst O;refine c60 (c65 (c60 (c63 (wpAny_truthy_bool ?_))));cases t with
 | true=>exact A1 J (Z A e U r W _ V J.rel (F.step R J) (B.1 rfl))
 | false=>exact c61 ⟨.bool false,U,.bool,J,B.2 rfl⟩
theorem b8W {e:c8H} {x:Ev} (h:c8I m c e x) (Y:∀ lf B,isTrue e lf B=(do let v<-B;standAt e.pos;holding [v] (truthy v))):c8P m c e (a7z x):=λA s H r lf Q W R F q=>by
 refine wpAny_isTrue_value (m3 (h A s H r lf _ W R F q) (λp v V d O a J=>?_)) (Y _ _);revert J;intro U;refine j5 U λb Z J=>?_;clear U;subst Z;replace O:=b01 O;subst O;exact wpAny_truthy_bool ⟨_,V,rfl,a,J⟩
theorem b8V {e:c8H} {z:Cv} {pos:Pos} (h:c8P m c e z):c8P m c (.UnaryOp .Not e pos) (b2V z):=λA s H r O Q J R F q =>
 wpAny_isTrue_Not (m3 (h A s H r O _ J R F q) λp v B Y V W U=>⟨!p,B,c7o _ V,W,U⟩)
theorem b8U {t a b:c8H} {z x y:Cv} {pos:Pos} (ht:c8P m c t z) (ha:c8P m c a x) (Y:c8P m c b y) :
  c8P m c (.IfExp t a b pos) (b92 z x y):=λA s H r O Q J R F q=>by
 rw[(arm_isTrue_IfExp ..)];refine c60 (m3 (ht A s H r O _ J R F q) (λp v U W Z B V=>?_));cases (Z:p=v);cases p with
 | true=>exact A1 B (ha A W U r O _ J B.rel (F.step R B) (V.1 rfl))
 | false=>exact A1 B (Y A W U r O _ J B.rel (F.step R B) (V.2 rfl))
variable {pos:Pos}{y:Ev}{E:Value->Shared->Prop}{I:Addr}
noncomputable abbrev b2b (_:Heap) (b:Bool) (v:Value):Prop:=v=.bool b
theorem b8S (Z:∀ e x,trC k c e=some x->c8P m c e x):∀ (es:List c8H) (l:List Cv),G2 (trC k c) es=some l->c8P m c (.BoolOp .And es pos) (a1E l):=by
 have U:∀ (es:List c8H) (l:List Cv),G2 (trC k c) es=some l->∀ (A:Around) (s:Shared) (H:Hp) (r:En) (B:Env) (Q:Bool->Hp->Prop),AOk n m A->c8J H s.heap->c8K B c r H s.heap ->
   (a1E l) c8Q r H Q->wpAny c8L A (allTrue .And es B) (Got G w b8P H s Q) D7 s:=by
  intro es;induction es with
  | nil =>
   intro l h A s H r B Q _ R _ q;have J:=E0 h;clear h;subst J;exact wpAny_allTrue_And_nil ⟨true,H,rfl,.refl R,q⟩
  | cons e es f =>
   intro l h A s H r B Q a R F q;refine j9 (A2 h) λx g d Y i=>?_;subst i;refine wpAny_allTrue_And_cons (m3 (Z e x d A s H r B _ a R F q) (λp b W j V O J=>?_));have V:p=b:=V;subst V;cases p with
   | true=>exact A1 O (f g Y A j W r B _ a O.rel (F.step R O) (J.1 rfl))
   | false=>exact ⟨false,W,rfl,O,J.2 rfl⟩
 exact λes l h A s H r B Q a R F q=>wpAny_isTrue_BoolOp (U es l h A s H r B Q a R F q)
theorem c0s (Z:∀ e x,trC k c e=some x->c8P m c e x):∀ (es:List c8H) (l:List Cv),G2 (trC k c) es=some l->c8P m c (.BoolOp .Or es pos) (b6Z l):=by
 have O:∀ (es:List c8H) (l:List Cv),G2 (trC k c) es=some l->∀ (A:Around) (s:Shared) (H:Hp) (r:En) (B:Env) (Q:Bool->Hp->Prop),AOk n m A->c8J H s.heap->c8K B c r H s.heap ->
   (b6Z l) c8Q r H Q->wpAny c8L A (allTrue .Or es B) (Got G w b8P H s Q) D7 s:=by
  intro es;induction es with
  | nil =>
   intro l h A s H r B Q _ R _ q;have i:=E0 h;clear h;subst i;exact wpAny_allTrue_Or_nil ⟨false,H,rfl,.refl R,q⟩
  | cons e es f =>
   intro l h A s H r B Q a R F q;refine j9 (A2 h) λx g d Y j=>?_;subst j;refine wpAny_allTrue_Or_cons (m3 (Z e x d A s H r B _ a R F q) (λp b V o U J W=>?_));have U:p=b:=U;subst U;cases p with
   | false=>exact A1 J (f g Y A o V r B _ a J.rel (F.step R J) (W.2 rfl))
   | true=>exact ⟨true,V,rfl,J,W.1 rfl⟩
 exact λes l h A s H r B Q a R F q=>wpAny_isTrue_BoolOp (O es l h A s H r B Q a R F q)
noncomputable def a7n (lc:Program) (w:World) (G:Gi) (n m:Nat):Prop:=∀ (op:CmpOp) (o:COp) (A:Around) (s:Shared) (H:Hp) (v u:Value) (p q:f5) (Q:Bool->Hp->Prop),a19 op=some o->AOk n m A->A7 G w H s.heap->j7 G s.heap p v->j7 G s.heap q u ->
 Y7 o p q H Q->wpAny (model lc w) A (compareOp op v u) (Got G w b2b H s Q) D7 s
theorem a7A {a b:c8H} {x y:Ev} {U:CmpOp} {o:COp} {r:En} {Q:Bool->Hp->Prop} (f:a7n lc w G n m) (e:a19 U=some o) (ha:c8I m c a x) (d:c8I m c b y) (O:AOk n m A) (R:c8J H s.heap) (F:c8K lf c r H s.heap) (q:y8 o x y c8Q r H Q) :
  wpAny c8L A (eval a lf) (λv V=>wpAny c8L A (eval b lf) (λu W=>wpAny c8L A (compareOp U v u) (Got G w b2b H s Q) D7 W) D7 V) D7 s:=by
 refine m3 (ha A s H r lf _ O R F q) (λp v Y V j J h=>?_);refine m3 (d A V Y r lf _ O J.rel (F.step R J) h) (λg u Z W k B i=>?_);exact A1 (J.trans B) (f U o A W Z v u p g _ e O B.rel (B.vrep J.rel j) k i)
theorem b8T {a b:c8H} {x y:Ev} {B:CmpOp} {o:COp} (Z:a7n lc w G n m) (e:a19 B=some o) (ha:c8I m c a x) (W:c8I m c b y) (Y:behindInMarks B b=false) :
  c8P m c (.Compare a [B] [b] pos) (y8 o x y):=λA s H r h Q O R F q=>by
 refine wpAny_isTrue_Compare1 (c62 (a7A Z e ha W O R F q) (λv i U=>c62 U (λu j V=>m3 V (λp t J k f g d=>?_)) λ_ _ e=>e) λ_ _ e=>e) Y;subst f;exact wpAny_truthy_bool ⟨p,J,rfl,g,d⟩
theorem b8Z {a b:c8H} {x y:Ev} {B:CmpOp} {o:COp} (Y:a7n lc w G n m) (e:a19 B=some o) (ha:c8I m c a x) (V:c8I m c b y) (W:behindInMarks B b=false) :
  c8I m c (.Compare a [B] [b] pos) (a7N (y8 o x y)):=λA s H r g Q U R F q =>
 c62 (wpAny_Compare1 (a7A Y e ha V U R F q) W) (λ_ _ J=>by refine j9 J λp O d f Z=>?_;clear J;exact ⟨.bool p,O,d,f,Z⟩) λ_ _ e=>e
theorem b4z {a b d:c8H} {x y z:Ev} {f U:CmpOp} {Z e:COp} (o:a7n lc w G n m) (T:a19 f=some Z) (X:a19 U=some e) (ha:c8I m c a x) (N:c8I m c b y) (P:c8I m c d z) (S:behindInMarks U d=false) :
  c8P m c (.Compare a [f,U] [b,d] pos) (a6l Z e x y z):=λA s H r Y Q W R F q=>by
 have g:∀ (l k:List Value) (s:Shared) (Q:Unit->Shared->Prop),Q () s->wpAny c8L A (release l k) Q D7 s:=λl k s Q h=>λΓ p _=>by rw[(Sem.wp_release ..)];exact h
 rw[(arm_isTrue_Compare ..)];refine c60 (m3 (ha A s H r Y _ W R F q) (λp v I s1 r1 V q1=>?_));refine c60 (c63 (m3 (N A s1 I r Y _ W V.rel (F.step R V) q1) (λC u K s2 E B q2=>?_)));refine c60 (c65 (c60 (c63 (m3 (o f Z A s2 K v u p C _ T W B.rel (B.vrep V.rel r1) E q2) (λp3 t j s3 r3 J D=>?_)))))
 subst r3;refine c60 (g _ _ _ _ (c60 (c63 (wpAny_truthy_bool ?_))));cases p3 with
 | false=>exact c61 ⟨false,j,rfl,V.trans (B.trans J),D.2 rfl⟩
 | true =>
  show wpAny _ _ (testChain pos u [U] [markedBehindIn U d (eval d Y)]) _ _ _;rw[(markedBehindIn_of_false S)];refine c60 (c63 (m3 (P A s3 j r Y _ W J.rel (F.step R (V.trans (B.trans J))) (D.1 rfl)) (λp4 u2 L s4 r4 O q4=>?_)));refine c60 (c65 (c60 (wpAny_operate' (m3 (o U e A s4 L u u2 C p4 _ X W O.rel (O.vrep J.rel (J.vrep B.rel E)) r4 q4) (λp5 t M s5 r5 i q5=>?_)))))
  subst r5;exact c63 (wpAny_truthy_bool ⟨p5,M,rfl,V.trans (B.trans (J.trans (O.trans i))),q5⟩)
mutual
noncomputable def toD:f5->PyData
 | .none=>.none
 | .bool b=>.bool b
 | .int i=>.int i
 | .str s=>.str (Str.ofString s)
 | .tup l=>.tuple (Z4 l)
 | .ref _=>.none
 | .fn _=>.none
 | .fz _=>.none
noncomputable def Z4:List f5->List PyData
 | []=>[]
 | v :: r=>toD v :: Z4 r
end
theorem t4 (s:String):Str.ofString s=⟨(s.toList.map Char.toNat).toArray⟩:=by
 have:=a02 s.toList;rwa [String.ofList_toList] at this
theorem a8J (c:Char):Str.ofString (String.singleton c)=⟨#[c.toNat]⟩:=by rw[(t4 ..)];simp
theorem b4Q (s:String):PyData.strOk (Str.ofString s)=true:=by
 rw[(t4 ..)];unfold PyData.strOk;refine O0 (Array.all_eq_true ..) ?_;intro i q;simp only [List.getElem_toArray,List.getElem_map,decide_eq_true_eq];have:=(s.toList[i]'(by simpa using q)).valid
 unfold Char.toNat;rcases this with h | h
 ·have:(s.toList[i]'(by simpa using q)).val.toNat < 0xd800:=h
  exact c7g h (c7d rfl)
 ·exact h.2
theorem G9 {n:Nat} {v:f5} {r:List f5} (h:Y8 n (v :: r)=true):G6 n v=true/\Y8 n r=true:=c8u h
theorem a1l {n:Nat} {v:f5} (h:G6 n v=true):(∃ i,v=.int i)\/(∃ s,v=.str s)\/∃ l,v=.tup l:=by
 cases v <;> first | exact .inl ⟨_,rfl⟩ | exact .inr (.inl ⟨_,rfl⟩) | exact .inr (.inr ⟨_,rfl⟩) | exact c7Y h c7u
theorem Y9 {P:Nat->f5->Prop} (int:∀ n i,P n (.int i)) (str:∀ n s,P n (.str s)) (tup:∀ n l,(∀ y,G6 n y=true->P n y)->Y8 n l=true->P (n+1) (.tup l)):∀ n v,G6 n v=true->P n v:=by
 intro n;induction n with
 | zero=>intro v h;cases v <;> first | exact int _ _ | exact str _ _ | exact c7Y h c7u
 | succ n q=>intro v h;cases v <;> first | exact int _ _ | exact str _ _ | exact tup _ _ q h | exact c7Y h c7u
theorem a66 {n:Nat} (a:∀ v,G6 n v=true->(toD v).canLay0=true/\(toD v).depth<=n):∀ l,Y8 n l=true->PyData.canLayAll0 (Z4 l)=true/\PyData.depthAll (Z4 l)<=n:=by
 intro l;induction l with
 | nil=>exact λ_=>⟨rfl,c7q _⟩
 | cons v r F =>
  intro h;exact eA (G9 h) λq B=>⟨c8G ⟨(a v q).1,(F B).1⟩,Nat.max_le.mpr ⟨(a v q).2,(F B).2⟩⟩
theorem b0S:∀ n v,G6 n v=true->(toD v).canLay0=true/\(toD v).depth<=n :=
 Y9 (λ_ _=>⟨rfl,c7q _⟩) (λ_ s=>⟨b4Q s,c7q _⟩) λ_ l q h=>⟨(a66 q l h).1,c8m (a66 q l h).2⟩
theorem J8 (n:Nat):(∀ v,G6 n v=true->(toD v).canLay0=true/\(toD v).depth<=n)/\∀ l,Y8 n l=true->PyData.canLayAll0 (Z4 l)=true/\PyData.depthAll (Z4 l)<=n:=⟨b0S n,a66 (b0S n)⟩
theorem a1r {a b:String} (h:Str.ofString a=Str.ofString b):a=b:=by
 rw [t4,t4] at h;simp only [Str.mk.injEq] at h;have h:a.toList.map Char.toNat=b.toList.map Char.toNat:=by injection h
 have inj:∀ l m:List Char,l.map Char.toNat=m.map Char.toNat->l=m:=by
  intro l;induction l with
  | nil=>intro m h;cases m <;> simp_all
  | cons x l q =>
   intro m h;cases m with
   | nil=>simp at h
   | cons y m =>
    simp only [List.map_cons,List.cons.injEq] at h;rw[(q m h.2)];rw[(Char.toNat_inj.mp h.1)];rfl
 exact String.toList_injective (inj _ _ h)
theorem b3i {n k:Nat} (a:∀ v,G6 n v=true->∀ m u,G6 m u=true->(PyData.eqv (toD v) (toD u)=true↔v=u)):∀ l m,Y8 n l=true->Y8 k m=true->(PyData.eqvAll (Z4 l) (Z4 m)=true↔l=m):=by
 intro l;induction l with
 | nil=>intro m _ _;cases m with
  | nil=>exact ⟨λ_=>rfl,λ_=>rfl⟩
  | cons _ _=>exact ⟨λh=>c7Y h c7u,λh=>nomatch h⟩
 | cons v r U =>
  intro m O R;cases m with
  | nil=>exact ⟨λh=>c7Y h c7u,λh=>nomatch h⟩
  | cons u m =>
   refine eA (G9 O) λq B=>eA (G9 R) λF J=>?_;show (PyData.eqv (toD v) (toD u)&&PyData.eqvAll (Z4 r) (Z4 m))=true↔_;rw[(Bool.and_eq_true ..)];refine O0 (a v q k u F ..) ?_;refine O0 (U m B J ..) ?_;rw[(List.cons.injEq ..)];rfl
theorem a3O {x:Bool} {p:Prop} (h:x=false) (q:¬ p):x=true↔p:=⟨λe=>c7Y (h.symm.trans e) c7u,λe=>c7Y e q⟩
theorem b7p:∀ n v,G6 n v=true->∀ m u,G6 m u=true->(PyData.eqv (toD v) (toD u)=true↔v=u):=by
 refine Y9 (λn i m u h=>?_) (λn s m u h=>?_) λn l B h m u q=>?_
 ·rcases a1l h with ⟨j,rfl⟩ | ⟨j,rfl⟩ | ⟨j,rfl⟩
  ·exact beq_iff_eq.trans ⟨c7o _,λe=>f5.int.inj e⟩
  ·exact a3O rfl λe=>nomatch e
  ·exact a3O rfl λe=>nomatch e
 ·rcases a1l h with ⟨j,rfl⟩ | ⟨j,rfl⟩ | ⟨j,rfl⟩
  ·exact a3O rfl λe=>nomatch e
  ·exact beq_iff_eq.trans ⟨λe=>c7o _ (a1r e),λe=>c7o _ (f5.str.inj e)⟩
  ·exact a3O rfl λe=>nomatch e
 ·rcases a1l q with ⟨j,rfl⟩ | ⟨j,rfl⟩ | ⟨j,rfl⟩
  ·exact a3O rfl λe=>nomatch e
  ·exact a3O rfl λe=>nomatch e
  ·cases m with
   | zero=>exact c7Y q c7u
   | succ m=>exact (b3i B l j h q).trans ⟨c7o _,λe=>f5.tup.inj e⟩
theorem a2W (n:Nat):(∀ v u,G6 n v=true->G6 n u=true->(PyData.eqv (toD v) (toD u)=true↔v=u))/\∀ l m,Y8 n l=true->Y8 n m=true->(PyData.eqvAll (Z4 l) (Z4 m)=true↔l=m) :=
 ⟨λv u q B=>b7p n v q n u B,b3i (b7p n)⟩
theorem b0O {n:Nat} (a:∀ x,G6 n x=true->∀ v,j7 G h x v->∃ as,Reads h v (toD x) as):∀ l,Y8 n l=true->∀ vs,m4 G h l vs->∃ as,ReadsAll h vs (Z4 l) as:=by
 intro l;induction l with
 | nil=>intro _ vs e;cases a1a e;exact ⟨_,.nil⟩
 | cons x r R =>
  intro F vs e;refine j9 (F9 e) λu us W q B=>?_;subst W;exact eA (G9 F) λU V=>eE (a x U u q) λas J=>eE (R V us B) λY O=>⟨_,.cons J O⟩
theorem b0P:∀ n x,G6 n x=true->∀ v,j7 G h x v->∃ as,Reads h v (toD x) as:=by
 refine Y9 (λn i v e=>?_) (λn s v e=>?_) λn l V R v e=>?_
 ·refine eE (J0 e) λt W=>?_;subst W;exact ⟨_,.int ..⟩
 ·refine eE (a1w e) λt Y=>?_;subst Y;exact ⟨_,.str ..⟩
 ·replace e:=Y0 e;revert e;intro B;refine j9 B λb a Z q e=>?_;clear B;subst Z;refine P7 q λo U J k O=>?_;clear q;exact eE (b0O V l R a e) λas F=>⟨_,.tuple U J O F⟩
theorem R0 (n:Nat):(∀ x v,G6 n x=true->j7 G h x v->∃ as,Reads h v (toD x) as)/\∀ l vs,Y8 n l=true->m4 G h l vs->∃ as,ReadsAll h vs (Z4 l) as :=
 ⟨λx v a b=>b0P n x a v b,λl vs a b=>b0O (b0P n) l a vs b⟩
section
open Classical
structure Eqs (A:Around) (s:Shared) (v u:Value) (b:Bool):Prop where
 eq:EqAt A s v u b
 rc:RcAt A s v u b
 ne:RcNeAt A s v u (!b)
theorem a3A {d e:PyData} {as bs:List Addr} (F:Reads s.heap v d as) (J:Reads s.heap u e bs) (ha:d.canLay0=true) (B:e.canLay0=true) (O:d.depth<=21) (q:A.units+64 < cLine):Eqs A s v u (PyData.eqv d e):=by
 have q:A.units+min d.depth e.depth < cLine:=by
  have:=Nat.min_le_left d.depth e.depth;exact c7k (c7x (c7g (Nat.min_le_left _ _) (c7g O (c7d rfl))) _) q
 exact ⟨eqAt_reads d e A s v u as bs F J ha B q,rcAt_reads F J ha B q,rcNeAt_reads F J ha B q⟩
theorem M8.length:∀ {l:List (f5×f5)} {es:List DictEntry},M8 G w h l es->l.length=es.length:=by
 intro J;induction J with
 | nil=>intro _ e;cases b3f e;rfl
 | cons _ _ B =>
  intro _ e;replace e:=a2V e;revert e;intro q;refine B0 q λu us F _ _ _ e=>?_;clear q;subst F;simp [B e]
theorem a6s {a b:Addr} {vs us:Array Value} (B:s.heap.IsList a vs) (J:s.heap.IsList b us) (z:vs.size=0\/us.size=0) (R:A.units < cLine):Eqs A s (.ref a) (.ref b) (decide (vs.size=us.size)):=by
 by_cases e:vs.size=us.size
 ·rw[(c76 e)];have V:vs.size=0:=by exact c5m z e
  have g:us.size=0:=by exact e▸V
  have q:(List.range vs.size).all (λ_=>true)=true:=by simp
  have O:RcAt A s (.ref a) (.ref b) true:=q▸RcAt.lists (e:=λ_=>true) B J e R λj B _=>c7Y B (c5u V);have c:RcNeAt A s (.ref a) (.ref b) (!true):=by
   have:=RcNeAt.lists (e:=λ_=>true) (A:=A) B J e R λj B _=>c7Y B (c5u V);rwa [q] at this
  refine ⟨?_,O,c⟩;by_cases e:a=b
  ·subst e;exact .same _
  ·exact .of_refs e O
 ·rw[(c7N e)];have O:=RcAt.lists_lengths (A:=A) B J (by simpa using e) R
  refine ⟨?_,O,RcNeAt.lists_lengths B J (by simpa using e) R⟩
  by_cases W:a=b
  ·subst W;refine P7 B λo Z _ n Y=>?_;clear B;refine P7 J λd U _ f F=>?_;clear J;obtain rfl:o=d:=c7p (Z.symm.trans U);rw [Y] at F;injection F with F _;subst F;exact c7Y rfl e
  ·exact .of_refs W O
theorem b3g (g:Gk G) (R:c8J H s.heap) (c:A.units+64 < cLine) {p q:f5} {b:Bool} (V:j7 G s.heap p v) (W:j7 G s.heap q u) (e:eq0 H p q b):Eqs A s v u b:=by
 have d:A.units < cLine:=by exact Nat.lt_of_add_right_lt c
 rcases e with ⟨Z,a,rfl⟩ | ⟨x,y,B,F,rfl,rfl,C,D,hc,rfl⟩
 ·refine eE ((R0 20).1 p v Z V) λt O=>eE ((R0 20).1 q u a W) λw U=>eA ((J8 20).1 p Z) λf Y=>eA ((J8 20).1 q a) λi z=>?_;have:=a3A (A:=A) O U f i (by exact Nat.le_succ_of_le Y) c
  have e:PyData.eqv (toD p) (toD q)=decide (p=q):=by
   refine O0 (Bool.eq_iff_iff ..) ?_;refine O0 ((a2W 20).1 p q Z a ..) ?_;refine O0 (decide_eq_true_iff ..) ?_;rfl
  rwa [e] at this
 ·replace V:=U8 V;replace W:=U8 W;subst V W;refine A6 (R.objs _ _ C) λr K l O=>A6 (R.objs _ _ D) λus L m U=>?_;rcases hc with ⟨j,k⟩ | hc
  ·refine eE ((R0 20).2 B _ j O) λt E=>eE ((R0 20).2 F _ k U) λw I=>eA ((J8 20).2 B j) λf Y=>eA ((J8 20).2 F k) λi z=>?_;have:=a3A (A:=A) (Reads.list l rfl rfl E) (Reads.list m rfl rfl I) (by simpa [PyData.canLay0] using f) (by simpa [PyData.canLay0] using i) (by simp only [PyData.depth];exact c8m Y) c
   have e:PyData.eqv (.list (Z4 B)) (.list (Z4 F))=decide (B=F):=by
    refine O0 (Bool.eq_iff_iff ..) ?_;refine O0 (decide_eq_true_iff ..) ?_;rewrite [<- (a2W 20).2 B F j k];simp only [PyData.eqv]
   rwa [e] at this
  ·have n:B.length=r.size:=by rw[O.length];rw[c7K];rfl
   have o:F.length=us.size:=by rw[U.length];rw[c7K];rfl
   have J:B.length=0\/F.length=0:=hc.imp (λh=>by rw[h];rfl) λh=>by rw[h];rfl
   have:=a6s (A:=A) ⟨_,l,rfl,_,rfl⟩ ⟨_,m,rfl,_,rfl⟩ (c4L n o J) d;have e:decide (r.size=us.size)=decide (B=F):=by
    refine w3 n ?_;refine w3 o ?_;refine O0 (decide_eq_decide ..) ?_;exact ⟨λh=>by rw[(c7H (c5m J h:B.length=0))];rw[(c7H (c2L J h:F.length=0))];rfl,λh=>by rw[h];rfl⟩
   rwa [e] at this
theorem a5D.get {l r:List f5} {b:Bool} (h:a5D H l r b):l.length=r.length/\∃ es:List Bool,es.length=l.length/\b=es.all id/\∀ (j:Nat) (x y:f5) (z:Bool),l[j]?=some x->r[j]?=some y->es[j]?=some z->eq0 H x y z:=by
 induction h with
 | nil=>exact ⟨rfl,[],rfl,rfl,λj x y z h=>nomatch h⟩
 | cons O _ J =>
  refine a1y J λR es U a V=>?_;clear J;subst a;refine ⟨c7o (·+1) R,_ :: es,c7o (·+1) U,rfl,λj c d z q B F=>?_⟩;cases j with
  | zero=>have W:=E0 q;clear q;subst W;have Y:=E0 B;clear B;subst Y;have Z:=E0 F;clear F;subst Z;exact O
  | succ j=>exact V j c d z q B F
theorem b3h (g:Gk G) (R:c8J H s.heap) (Y:A.units+65 < cLine) {p q:f5} {b:Bool} (U:j7 G s.heap p v) (V:j7 G s.heap q u) (e:eq1 H p q b):RcAt A s v u b/\RcNeAt A s v u (!b):=by
 rcases e with L | ⟨l,r,rfl,rfl,e⟩
 ·have:=b3g (A:=A) g R (by exact Nat.lt_of_succ_lt Y) U V L
  exact ⟨this.rc,this.ne⟩
 ·
   replace U:=Y0 U;replace V:=Y0 V;refine j9 U λa O q6 I D=>?_;clear U;subst q6;refine j9 V λa' us q8 K E=>?_;clear V;subst q8;refine a1y e.get λC B c k M=>?_;subst k;have Z:l.length=O.length:=D.length;have S:r.length=us.length:=E.length;have z:∀ j (F:j < O.toArray.size) (W:j < us.toArray.size),EqAt A.in1 s O.toArray[j] us.toArray[j] (B[j]?.getD true):=λj F W=>by
    have F:j < O.length:=by simpa using F
    have W:j < us.length:=by simpa using W
    have o:l[j]?=some (l[j]'(by exact Nat.lt_of_lt_of_eq F (id (Eq.symm Z)))):=c7h _
    have t:r[j]?=some (r[j]'(by exact c7v F (c7z (Z.symm.trans C)))):=c7h _
    have w:B[j]?=some (B[j]'(by exact c7v F (c7z (c.trans Z).symm))):=c7h _
    refine j5 (D.get j o) λx d P=>j5 (E.get j t) λy f Q=>?_;rw [List.getElem?_eq_getElem F] at d;rw [List.getElem?_eq_getElem W] at f;have T:=E0 d;clear d;subst T;have X:=E0 f;clear f;subst X;have:=(b3g (A:=A.in1) g R (by show A.units+1+64 < cLine;exact Nat.lt_of_succ_le Y) P Q (M j _ _ _ o t w)).eq
    rw[w];simpa using this
   have i:((List.range (min O.toArray.size us.toArray.size)).all (λj=>B[j]?.getD true)&&O.toArray.size==us.toArray.size)=B.all id:=by
    have s1:O.toArray.size=B.length:=by simp;exact c▸Z▸rfl
    have s2:us.toArray.size=B.length:=by simp;exact (c.trans (C.trans S)).symm
    rw[s1];rw[s2];rw[(Nat.min_self ..)];rw[(c8b ..)];rw[(Bool.and_true ..)];refine O0 (Bool.eq_iff_iff ..) ?_;refine O0 (List.all_eq_true ..) ?_;refine O0 (List.all_eq_true ..) ?_;constructor
    ·intro h x N;obtain ⟨j,J,rfl⟩:=List.mem_iff_getElem.mp N;have:=h j (c8C J);simpa [List.getElem?_eq_getElem J] using this
    ·intro h j J;have J:=c8D J;have:=h _ (List.getElem_mem J);simpa [List.getElem?_eq_getElem J] using this
   have m:=RcAt.tuples (A:=A) I K (by exact Nat.lt_of_add_right_lt Y) z
   have n:=RcNeAt.tuples (A:=A) I K (by exact Nat.lt_of_add_right_lt Y) z
   rw [i] at m n;exact ⟨m,n⟩
mutual
noncomputable def M0:f5->Nat
 | .tup l=>a2k l+1
 | .none=>1
 | .bool _=>1
 | .int _=>1
 | .str _=>1
 | .ref _=>1
 | .fn _=>1
 | .fz _=>1
noncomputable def a2k:List f5->Nat
 | []=>0
 | v :: r=>M0 v+a2k r
end
theorem a6R (w:World) (l:List f5) (y:f5):U0 w (l++[y])=U0 w l++[o7 w y]:=by
 induction l with
 | nil=>rfl
 | cons z l q=>exact c7o (o7 w z :: ·) q
theorem a6Q (l:List f5) (y:f5):a2k (l++[y])=a2k l+M0 y:=by
 induction l with
 | nil=>exact (Nat.zero_add _).symm
 | cons z l q=>exact (c7o (M0 z+·) q).trans (Nat.add_assoc _ _ _).symm
theorem b58 {n m:Nat} (a:∀ y,G6 n y=true->G6 m y=true):∀ l,Y8 n l=true->Y8 m l=true:=by
 intro l;induction l with
 | nil=>exact λ_=>rfl
 | cons v r q=>exact λh=>c8G ⟨a v (G9 h).1,q (G9 h).2⟩
theorem b0D:∀ n v,G6 n v=true->∀ m,n<=m->G6 m v=true:=by
 refine Y9 (λ_ _ m _=>?_) (λ_ _ m _=>?_) λn l F h m q=>?_
 ·cases m <;> rfl
 ·cases m <;> rfl
 ·cases m with
  | zero=>exact c7Y q (Nat.not_succ_le_zero n)
  | succ m=>exact b58 (λy B=>F y B m (Nat.le_of_succ_le_succ q)) l h
variable {e:c8H}
theorem b9p {n m:Nat} (a:∀ x,G6 n x=true->∀ m y v,G6 m y=true->j7 G h x v->j7 G h y v->x=y):∀ l,Y8 n l=true->∀ q vs,Y8 m q=true->m4 G h l vs->m4 G h q vs->l=q:=by
 intro l;induction l with
 | nil =>
  intro _ q vs _ e f;cases a1a e;cases q with
  | nil=>rfl
  | cons y m=>replace f:=F9 f;revert f;intro F;refine A6 F λ_ _ f _=>?_;clear F;exact nomatch f
 | cons x r Z =>
  intro V q vs W e f;refine j9 (F9 e) λu us B J O=>?_;subst B;cases q with
  | nil=>exact nomatch a1a f
  | cons y q =>
   refine j9 (F9 f) λj i Y R U=>?_;cases Y;refine eA (G9 V) λd g=>eA (G9 W) λb c=>?_;rw[(a x d m y _ b J R)];rw[(Z g q _ c O U)];rfl
theorem c6o:∀ n x,G6 n x=true->∀ m y v,G6 m y=true->j7 G h x v->j7 G h y v->x=y:=by
 refine Y9 (λn i m y v B e f=>?_) (λn i m y v B e f=>?_) λn l D A m y v B e f=>?_
 ·refine eE (J0 e) λt U=>?_;subst U;rcases a1l B with ⟨j,rfl⟩ | ⟨j,rfl⟩ | ⟨j,rfl⟩
  ·replace f:=J0 f;revert f;intro Z;refine eE Z λ_ f=>?_;clear Z;cases f;rfl
  ·replace f:=a1w f;revert f;intro b;refine eE b λ_ f=>?_;clear b;exact nomatch f
  ·replace f:=Y0 f;revert f;intro p;refine A6 p λ_ _ f _=>?_;clear p;exact nomatch f
 ·refine eE (a1w e) λt V=>?_;subst V;rcases a1l B with ⟨j,rfl⟩ | ⟨j,rfl⟩ | ⟨j,rfl⟩
  ·replace f:=J0 f;revert f;intro c;refine eE c λ_ f=>?_;clear c;exact nomatch f
  ·replace f:=a1w f;revert f;intro d;refine eE d λ_ f=>?_;clear d;injection f with f _
   exact c7o f5.str (a1r f)
  ·replace f:=Y0 f;revert f;intro F;refine A6 F λ_ _ f _=>?_;clear F;exact nomatch f
 ·replace e:=Y0 e;revert e;intro J;refine j9 J λa u W r e=>?_;clear J;subst W;rcases a1l B with ⟨j,rfl⟩ | ⟨j,rfl⟩ | ⟨j,rfl⟩
  ·replace f:=J0 f;revert f;intro g;refine eE g λ_ f=>?_;clear g;exact nomatch f
  ·replace f:=a1w f;revert f;intro k;refine eE k λ_ f=>?_;clear k;exact nomatch f
  ·replace f:=Y0 f;revert f;intro O;refine j9 O λH Y z s f=>?_;clear O;cases z;refine P7 r λo C _ _ w=>?_;clear r;refine P7 s λE R _ _ q=>?_;clear s;obtain rfl:o=E:=c7p (C.symm.trans R);rw [w] at q;injection q with q _
   have q:u=Y:=c7o Array.toList q;subst q;cases m with
   | zero=>exact c7Y B c7u
   | succ m=>exact c7o f5.tup (b9p D l A j u B e f)
theorem a1v (t:IsTup s.heap a vs):s.TypeIs (.ref a) "tuple":=by refine y4 t λo B q _=>?_;clear t;exact ⟨o,B,q⟩
theorem a4F {β:Type} {n:Nat} {l:List f5} {vs:List Value} {body:Value->β->Sem (ForInStep β)} {U:β} {Q:β->Shared->Prop} (P:β->Prop) (h:Y8 n l=true) (r:m4 G s.heap l vs) (p:P U)
  (step:∀ y u b,G6 n y=true->j7 G s.heap y u->P b->wpAny c8L A (body u b) (λx q=>match x with | .yield b'=>q=s/\P b' | .done b'=>Q b' q) E s) (F:∀ b,P b->Q b s) :
  wpAny c8L A (forIn vs.toArray U body) Q E s:=by
 refine w3 Array.forIn_toList ?_;refine wpAny_forIn_list _ (λrest b q=>q=s/\P b/\∃ left,Y8 n left=true/\m4 G s.heap left rest) _ (λu rest b q B=>?_) (λb q B=>?_) _ _ ⟨rfl,p,l,h,r⟩
 ·refine a1x B λR p left V W=>?_;clear B;subst R;cases left with
  | nil=>exact nomatch a1a W
  | cons y left =>
   refine j9 (F9 W) λ_ _ Y Z a=>?_;cases Y;refine c62 (step y u b (G9 V).1 Z p) (λx c J=>?_) λ_ _ e=>e;cases x with
   | done b'=>exact J
   | yield b'=>exact ⟨J.1,J.2,left,(G9 V).2,a⟩
 ·refine eAA B λO p _=>?_;clear B;subst O;exact F b p
theorem a04:∀ n k,G6 n k=true->∀ (A:Around) (E:Value->Shared->Prop) (s:Shared) (v:Value) (Q:Int->Shared->Prop),A.units+n < cLine->j7 G s.heap k v->Q (o7 w k) {s with toks:=s.toks+M0 k} ->
  wpAny c8L A (PySem.pyHash v) Q E s:=by
 refine Y9 (λn i A E s v Q _ r q=>?_) (λn i A E s v Q _ r q=>?_) λn l H h A E s v Q m r q=>?_
 ·refine eE (J0 r) λt W=>?_;subst W;exact wpAny_pyHash_int q
 ·refine eE (a1w r) λt Y=>?_;subst Y;exact wpAny_pyHash_str q
 ·replace r:=Y0 r;revert r;intro O;refine j9 O λa L Z t r=>?_;clear O;subst Z;have R:=a1v t;refine P7 t λo D _ z p=>?_;clear t
  first | unfold pyHashByItsType | skip
  first | refine c60 (wpAny_cRoomFor_or (.inr (by exact Nat.lt_of_add_right_lt m)) ?_) | skip
  refine c60 (wpAny_specialOf R PySem.F.slot_tuple_hash.lookup ?_);refine b9 (c7W (by rw[(beq_builtin_none ..)];exact c7u)) ?_
  refine c60 (wpAny_specialOf R PySem.F.slot_tuple_hash.lookup ?_);refine c60 (wpAny_callSpecialIfBoundUnlessNone?_slot R PySem.F.slot_tuple_hash (c64 PySem.F.slot_tuple_hash R PySem.F.entry_tuple_hash ?_ (PySem.F.args_tuple_hash_1 _)));show wpAny _ _ (Builtin.Tuple.tupleItemsOf (.ref a)>>=_) _ _ s;refine c60 (wpAny_tupleItemsOf D p ?_);refine c60 ?_;refine w3 Array.forIn_toList ?_
  refine wpAny_forIn_list _
   (λrest (b:Array Int) j=>∃ done left,l=done++left/\Y8 n left=true/\m4 G s.heap left rest/\b.toList=U0 w done/\j={s with toks:=s.toks+a2k done})
   _ ?_ ?_ _ _ ⟨[],l,rfl,h,r,rfl,rfl⟩
  ·intro x rest b j J;refine B0 J λdone left c V B U d=>?_;clear J;subst c;subst d;cases left with
   | nil=>exact nomatch a1a B
   | cons y left =>
    refine j9 (F9 B) λu us C I K=>?_;cases C;refine c60 (H y (G9 V).1 _ _ _ _ _ (by show A.units+1+n < cLine;exact c3g m) I (c61 ⟨done++[y],left,(List.append_assoc done [y] left).symm,(G9 V).2,K,?_,?_⟩))
    ·rw[(a6R ..)];rw[Array.toList_push];rw[U];rfl
    ·rw[(a6Q ..)];rw[(Nat.add_assoc ..)];rfl
  ·intro b j J;refine B0 J λdone left f V B U g=>?_;clear J;subst f;subst g;cases left with
   | cons y left=>refine A6 (F9 B) λ_ _ e _=>?_;exact nomatch e
   | nil =>
    rw [List.append_nil] at q;show wpAny _ _ (retInt (Builtin.Tuple.tupleHashOf b.toList)) _ _ _;rw[U];refine wpAny_ret_mkInt ?_;show wpAny _ _ (if (decide (-(2:Int) ^ 63<=Builtin.Tuple.tupleHashOf (U0 w done))&&decide (Builtin.Tuple.tupleHashOf (U0 w done) < 2 ^ 63))=true then _ else _) Q E _
    have q:Q (if (decide (-(2:Int) ^ 63<=Builtin.Tuple.tupleHashOf (U0 w done))&&decide (Builtin.Tuple.tupleHashOf (U0 w done) < 2 ^ 63))=true then _ else _) {s with toks:=s.toks+a2k done+1}:=q
    by_cases B:(decide (-(2:Int) ^ 63<=Builtin.Tuple.tupleHashOf (U0 w done))&&decide (Builtin.Tuple.tupleHashOf (U0 w done) < 2 ^ 63))=true
    ·rw[(c7X B)];rw [if_pos B] at q;exact c61 q
    ·rw[(c7W B)];rw [if_neg B] at q;exact c60 (wpAny_rule (c61 q))
theorem a62:∀ n k,G6 n k=true->∀ (j:Nat) (A:Around) (E:Value->Shared->Prop) (s:Shared) (v:Value) (Q:Bool->Shared->Prop),j7 G s.heap k v->Q true s ->
  wpAny c8L A (eqIsQuiet (n+j+1) v) Q E s:=by
 refine Y9 (λn i j A E s v Q r q=>?_) (λn i j A E s v Q r q=>?_) λn l d h j A E s v Q r q=>?_
 ·refine eE (J0 r) λt J=>?_;subst J;rw[(eqIsQuiet_byValue _ rfl)];exact c61 q
 ·refine eE (a1w r) λt O=>?_;subst O;rw[(eqIsQuiet_byValue _ rfl)];exact c61 q
 ·replace r:=Y0 r;revert r;intro B;refine j9 B λa g R t r=>?_;clear B;subst R;have U:=a1v t;refine P7 t λo Z _ z Y=>?_;clear t;unfold eqIsQuiet;refine c60 (wpAny_specialOf U PySem.F.slot_tuple_eq.lookup ?_);refine c60 (wpAny_isInstance U isSubtype_tuple_tuple ?_);refine c60 (wpAny_seqItems Z Y ?_);rw[(show n+1+j=n+j+1 from Nat.add_right_comm n 1 j)]
  refine c60 (a4F (λb=>b.1=none) h r rfl (λy u b c e V=>?_) λb V=>?_)
  ·refine c60 (d y c j _ _ _ _ _ e ?_);exact c61 ⟨rfl,rfl⟩
  ·obtain ⟨W,f⟩:=b;cases (show W=none from V);exact c61 q
noncomputable def kIs (G:Gi) (h:Heap) (k:f5) (a:Addr):Prop:=G6 7 k=true/\j7 G h k (.ref a)
theorem a0b {k:f5} (h:G6 7 k=true):a1A k=true:=b0D 7 k h 20 (c7d rfl)
noncomputable def kk:HeapKind lc w f5 where
 is:=kIs G
 hash:=o7 w
 draws:=M0
 room:=λA=>A.units+64 < cLine
 inj:=λhx hy=>c6o 7 _ hx.1 7 _ _ hy.1 hx.2 hy.2
 keeps:=λ{h h' k a d o es ep} x ho hd hs=>⟨x.1,x.2.mono λb vs t=>by
  refine P7 t λo' ho' hc z hd'=>?_;clear t;refine ⟨o',(hs.2 b ?_).trans ho',hc,z,hd'⟩
  rintro rfl
  rw [ho] at ho';have q1:=E0 ho';clear ho';subst q1;rw [hd] at hd';cases hd'⟩
 pyHash:=λhu hk h=>a04 7 _ hk.1 _ _ _ _ _ (b5o hu) hk.2 h
 eqBool:=λ{A E s x y a b Q} hu hx hy h=>by
  refine eE ((R0 20).1 x _ (a0b hx.1) hx.2) λas r1=>eE ((R0 20).1 y _ (a0b hy.1) hy.2) λbs r2=>eA ((J8 20).1 x (a0b hx.1)) λl1 d1=>eA ((J8 20).1 y (a0b hy.1)) λl2 d2=>?_;have:=a3A (A:=A) r1 r2 l1 l2 (by exact Nat.le_succ_of_le d1) hu
  have e:PyData.eqv (toD x) (toD y)=decide (x=y):=by
   refine O0 (Bool.eq_iff_iff ..) ?_;refine O0 ((a2W 20).1 x y (a0b hx.1) (a0b hy.1) ..) ?_;refine O0 (decide_eq_true_iff ..) ?_;rfl
  rw [e] at this;exact this.eq lc w E Q h
 quiet:=λhk h=>a62 7 _ hk.1 0 _ _ _ _ _ hk.2 h
theorem M8.get:∀ {l:List (f5×f5)} {es:List DictEntry} (i:Nat) {p:f5×f5},M8 G w h l es->l[i]?=some p->∃ e,es[i]?=some e/\j7 G h p.1 e.key/\j7 G h p.2 e.val/\e.hash=o7 w p.1:=by
 intro r;induction r with
 | nil=>intro _ i _ _ f;simp at f
 | cons q r J =>
  intro _ i p e f;replace e:=a2V e;revert e;intro B;refine B0 B λu us F a b c e=>?_;clear B;subst F;cases i with
  | zero=>simp at f;subst f;exact ⟨u,rfl,a,b,c⟩
  | succ i=>simp at f ⊢;exact J i e f
theorem M8.get':∀ {l:List (f5×f5)} {es:List DictEntry} (i:Nat) {e:DictEntry},M8 G w h l es->es[i]?=some e->∃ p,l[i]?=some p/\j7 G h p.1 e.key/\j7 G h p.2 e.val/\e.hash=o7 w p.1:=by
 intro r;induction r with
 | nil=>intro _ i _ e f;cases b3f e;simp at f
 | cons q r J =>
  intro _ i p e f;replace e:=a2V e;revert e;intro B;refine B0 B λu us F a b c e=>?_;clear B;subst F;cases i with
  | zero=>simp at f;subst f;exact ⟨q,rfl,a,b,c⟩
  | succ i =>
   simp only [List.getElem?_cons_succ] at f ⊢;exact J i e f
theorem M8.snoc:∀ {l:List (f5×f5)} {es:List DictEntry} {k x:f5} {e:DictEntry},M8 G w h l es->j7 G h k e.key->j7 G h x e.val->e.hash=o7 w k->M8 G w h (l++[(k,x)]) (es++[e]):=by
 intro r;induction r with
 | nil =>
  intro _ _ _ _ e a b c;cases b3f e;exact M8.cons (t:=[]) a b c rfl
 | cons q r U =>
  intro _ _ _ _ e a b c;replace e:=a2V e;revert e;intro B;refine B0 B λu us F J O R e=>?_;clear B;subst F;exact M8.cons J O R (U e a b c)
theorem M8.modify:∀ {l:List (f5×f5)} {es:List DictEntry} {k x y:f5} {v:Value} (i:Nat),M8 G w h l es->(l.map (·.1)).Nodup->l[i]?=some (k,y)->j7 G h x v ->
  M8 G w h (l.map λp=>if p.1=k then (p.1,x) else p) (es.modify i λe=>{e with val:=v}):=by
 intro r;induction r with
 | nil=>intro _ _ _ _ _ i _ _ f _;simp at f
 | cons q r Y =>
  intro _ k x y v i e F f a;replace e:=a2V e;revert e;intro B;refine B0 B λu us O R V U e=>?_;clear B;subst O;simp only [List.map_cons,List.nodup_cons] at F;cases i with
  | zero =>
   simp at f;subst f;rw[(show (u :: us).modify 0 (λe:DictEntry=>{e with val:=v})={u with val:=v} :: us by simp)];rw[c7Z];rw[(c7X rfl)]
   refine M8.cons R a U ?_;have:(r.map λp=>if p.1=k then (p.1,x) else p)=r:=by
    conv=>rhs;(rewrite [<- List.map_id r];try rfl)
    apply c7r;intro p W;rewrite [if_neg];rfl;intro e;exact F.1 (c8t ⟨p,W,e⟩)
   rw[this];exact e
  | succ i =>
   simp at f;have J:¬ q.1=k:=λe=>F.1 (e▸c8t ⟨(k,y),c7e f,rfl⟩);rw[(show (u :: us).modify (i+1) (λe:DictEntry=>{e with val:=v})=u :: us.modify i (λe:DictEntry=>{e with val:=v}) by simp)];rw[c7Z];rw[(c7W J)]
   exact M8.cons R V U (Y i e F.2 f a)
theorem M8.erase:∀ {l:List (f5×f5)} {es:List DictEntry} {k y:f5} (i:Nat),M8 G w h l es->(l.map (·.1)).Nodup->l[i]?=some (k,y) ->
  M8 G w h (a39 l k) (es.eraseIdx i):=by
 intro r;induction r with
 | nil=>intro _ _ _ i _ _ f;simp at f
 | cons q r Y =>
  intro _ k y i e F f;replace e:=a2V e;revert e;intro B;refine B0 B λu us O R U V e=>?_;clear B;subst O;simp only [List.map_cons,List.nodup_cons] at F;cases i with
  | zero =>
   simp at f;subst f;have:a39 ((k,y) :: r) k=r:=by
    unfold a39;rw[(List.filter_cons_of_neg (by simp))];refine O0 (List.filter_eq_self ..) ?_
    intro p W;simp only [ne_eq,decide_not,Bool.not_eq_eq_eq_not,Bool.not_true,decide_eq_false_iff_not];intro e;exact F.1 (c8t ⟨p,W,e⟩)
   rw[this];simpa using e
  | succ i =>
   simp at f;have J:¬ q.1=k:=λe=>F.1 (e▸c8t ⟨(k,y),c7e f,rfl⟩);have:a39 (q :: r) k=q :: a39 r k:=by
    unfold a39;rw[(List.filter_cons_of_pos (by simpa using J))];rfl
   rw[this];rw[List.eraseIdx_cons_succ];exact M8.cons R U V (Y i e F.2 f)
theorem W4 (F:(l.map (·.1)).Nodup) {i:Nat} {k x:f5} (B:l[i]?=some (k,x)):C0 l k=some x:=by
 induction l generalizing i with
 | nil=>simp at B
 | cons q rest O =>
  rw [List.map_cons,List.nodup_cons] at F;cases i with
  | zero=>simp at B;subst B;simp [C0]
  | succ j =>
   simp at B;have J:¬ q.1=k:=λe=>F.1 (e▸c8t ⟨(k,x),c7e B,rfl⟩);have:=O F.2 B;simpa [C0,List.find?_cons,J] using this
theorem V2 {k:f5} (h:∀ (j:Nat) (x:f5),l[j]?≠some (k,x)):C0 l k=none:=by
 unfold C0;have:(l.find? λp=>decide (p.1=k))=none:=by
  refine O0 (List.find?_eq_none ..) ?_;intro p J F;refine eE (c8A J) λj B=>?_;have q:p.1=k:=c7n F;exact h j p.2 (by rw[B];refine w3 q ?_;rfl)
 rw[this];rfl
theorem b1k {k x:f5} (h:C0 l k=some x):∃ i:Nat,l[i]?=some (k,x):=by
 unfold C0 at h;refine j5 (c8v h) λp B F=>?_;have q:=List.find?_some B;refine eE (c8A (c7L B)) λi J=>?_;have q:p.1=k:=c7n q;exact ⟨i,by rw[J];refine w3 q ?_;refine w3 F ?_;rfl⟩
theorem b26 {k:f5} (h:C0 l k=none):k∉l.map (·.1):=by
 intro B;refine j5 (c8s B) λp F q=>?_;subst q;unfold C0 at h;rw [Option.map_eq_none_iff,List.find?_eq_none] at h;exact h p F (by simp)
theorem a6K {P:f5->Prop} (k:f5) (a:∀ i,I7 k=0->P (.int i)) (b:∀ i,I7 k=1->P (.str i)) (c:∀ i,I7 k=2->P (.tup i)) (d:I7 k=3->P k):P k:=by
 cases k with
 | int i=>exact a i rfl
 | str i=>exact b i rfl
 | tup i=>exact c i rfl
 | _=>exact d rfl
theorem W6 {k:f5} (q:I7 k=0):∃ i,k=.int i:=a6K (P:=λk=>∃ i,k=.int i) k (λ_ _=>⟨_,rfl⟩) (λ_ h=>nomatch q.symm.trans h) (λ_ h=>nomatch q.symm.trans h) λh=>nomatch q.symm.trans h
theorem a24 {k:f5} (q:I7 k=1):∃ i,k=.str i:=a6K (P:=λk=>∃ i,k=.str i) k (λ_ h=>nomatch q.symm.trans h) (λ_ _=>⟨_,rfl⟩) (λ_ h=>nomatch q.symm.trans h) λh=>nomatch q.symm.trans h
theorem b3J {k:f5} (q:I7 k=2):∃ i,k=.tup i:=a6K (P:=λk=>∃ i,k=.tup i) k (λ_ h=>nomatch q.symm.trans h) (λ_ h=>nomatch q.symm.trans h) (λ_ _=>⟨_,rfl⟩) λh=>nomatch q.symm.trans h
theorem a1M {K:Type} [DecidableEq K] {knd:KeyKind lc w K} {d:Addr} {q:Array DictEntry} {n:Nat} {k:f5} {Q:Option Nat->Shared->Prop} {g:f5->K} {κ:Nat}
  (r:∀ x y,I7 x=κ->I7 y=κ->g x=g y->x=y) (C:s.heap.get? d=some o) (z:o.data=.dict q n) (a:M8 G w s.heap es q.toList) (c:I7 k=κ)
  (I:j7 G s.heap k v) (J:∀ p∈es,I7 p.1=κ) (B:∀ x u,I7 x=κ->j7 G s.heap x u->knd.is (g x) u=true) (l:∀ x,I7 x=κ->o7 w x=knd.hash (g x))
  (O:(∀ (j:Nat) (x:f5),es[j]?≠some (k,x))->Q none s) (R:∀ (j:Nat) (x:f5),es[j]?=some (k,x)->Q (some j) s):wpAny c8L A (dictFind d v (o7 w k)) Q E s:=by
 rw[(l k c)];refine wpAny_dictFind_of (B k v c I) C z ?_ ?_
 ·intro e b;refine eE (c8A (Array.mem_toList_iff.mpr b)) λj U=>N1 (a.get' j U) λp F Z t i=>?_;have W:=J p (c7e F);exact ⟨g p.1,B p.1 _ W Z,by rw[i];rw[(l _ W)];rfl⟩
 ·have Y:∀ (j:Nat) (e:DictEntry),q.toList[j]?=some e->(knd.is (g k) e.key=true↔∃ x,es[j]?=some (k,x)):=by
   intro j e U;refine N1 (a.get' j U) λp F Z t i=>?_;have W:=J p (c7e F);have:=B p.1 _ W Z;constructor
   ·intro h;have:=r _ _ W c (knd.inj _ _ _ this h);exact ⟨p.2,by rw[F];refine w3 this ?_;rfl⟩
   ·rintro ⟨x,V⟩
    rw [F] at V;have H:=E0 V;clear V;subst H;exact this
  cases m:q.findIdx? λe=>knd.is (g k) e.key with
  | none =>
   refine O λj x U=>j5 (a.get j U) λe F _=>?_;have:=Array.findIdx?_eq_none_iff.mp m e (Array.mem_toList_iff.mp (c7e F));rw [(Y j e F).mpr ⟨x,U⟩] at this;cases this
  | some j =>
   refine j5 (Array.findIdx?_eq_some_iff_getElem.mp m) λf D _=>?_;refine eE ((Y j q[j] (by rw[c7V];rw[(c7M f)];rfl)).mp D) λx V=>?_
   exact R j x V
theorem a1h {d:Addr} {O:Array DictEntry} {ep:Nat} {k:f5} {Q:Option Nat->Shared->Prop}
  (hu:A.units+64 < cLine) (hk:M2 es k) (K:a0R es) (nd:(es.map (·.1)).Nodup) (H:s.heap.get? d=some o) (C:o.data=.dict O ep) (f:M8 G w s.heap es O.toList) (n:j7 G s.heap k v)
  (F:(∀ (j:Nat) (x:f5),es[j]?≠some (k,x))->Q none s) (J:∀ (j:Nat) (x:f5),es[j]?=some (k,x)->Q (some j) s):wpAny c8L A (dictFind d v (o7 w k)) Q E s:=by
 refine eA hk λkv B=>?_;clear hk;have U:I7 k=0\/I7 k=1\/I7 k=2:=by
  rcases a1l kv with ⟨_,rfl⟩ | ⟨_,rfl⟩ | ⟨_,rfl⟩
  ·exact .inl rfl
  ·exact .inr (.inl rfl)
  ·exact .inr (.inr rfl)
 rcases U with h | h | h
 ·refine a1M (knd:=PySem.intKind lc w) (κ:=0) (g:=λx=>match x with | .int i=>i | _=>0) ?_ H C f h n (λp R=>(B p R).trans h) ?_ ?_ F J
  ·intro x y hx I e;refine eE (W6 hx) λi q5=>?_;subst q5;refine eE (W6 I) λj q6=>?_;subst q6;exact c7o f5.int e
  ·intro x u hx r;refine eE (W6 hx) λi q7=>?_;subst q7;replace r:=J0 r;refine eE r λt q2=>?_;clear r;subst q2;show Value.isInt i (.int i t)=true;simp [Value.isInt]
  ·intro x hx;refine eE (W6 hx) λi q8=>?_;subst q8;rfl
 ·refine a1M (knd:=PySem.strKind lc w) (κ:=1) (g:=λx=>match x with | .str i=>Str.ofString i | _=>Str.ofString "") ?_ H C f h n (λp R=>(B p R).trans h) ?_ ?_ F J
  ·intro x y hx I e;refine eE (a24 hx) λi q9=>?_;subst q9;refine eE (a24 I) λj L=>?_;subst L;exact c7o f5.str (a1r e)
  ·intro x u hx r;refine eE (a24 hx) λi M=>?_;subst M;replace r:=a1w r;refine eE r λt q3=>?_;clear r;subst q3;show Value.isStrOf (Str.ofString i) (.str (Str.ofString i) t)=true;simp [Value.isStrOf]
  ·intro x hx;refine eE (a24 hx) λi N=>?_;subst N;rfl
 ·have tup:∀ x:f5,I7 x=2->∀ u,j7 G s.heap x u->∃ a,u=.ref a:=by
   intro x hx u r;refine eE (b3J hx) λl P=>?_;subst P;replace r:=Y0 r;refine A6 r λa _ q4 _=>?_;clear r;subst q4;exact ⟨a,rfl⟩
  refine eE (tup k h v n) λa S=>?_;subst S;have m:∀ e∈O.toList,∃ a,e.key=.ref a:=by
   intro e D;exact eE (c8A D) λj Y=>N1 (f.get' j Y) λp W V c h4=>tup p.1 ((B p (c7e W)).trans h) _ V
  have mk:∀ (l:List (f5×f5)) (es:List DictEntry),M8 G w s.heap l es->(∀ p∈l,G6 7 p.1=true/\I7 p.1=2)->∃ xs:List (f5×Addr×Value),es=xs.map (entryOfKey (kk))/\xs.map (·.1)=l.map (·.1)/\(∀ x∈xs,kIs G s.heap x.1 x.2.1):=by
   intro l;induction l with
   | nil=>intro es e _;cases b3f e;exact ⟨[],rfl,rfl,by simp⟩
   | cons p l ih =>
    intro es e R;replace e:=a2V e;revert e;intro Z;refine B0 Z λu us T X a2 a3 e=>?_;clear Z;subst T;refine y4 (ih us e λq hq=>R q (c7i _ hq)) λxs W V c=>eA (R p c7j) λk1 k2=>eE (tup p.1 k2 _ X) λb z=>⟨(p.1,b,u.val) :: xs,?_,by simp [V],?_⟩
    ·rw[c7Z];refine w3 W ?_
     congr 1
     obtain ⟨uh,uk,uv⟩:=u;simp only at z a3;subst z a3;rfl
    ·intro x hx;rcases c8z hx with rfl | hx
     ·exact ⟨k1,z▸X⟩
     ·exact c x hx
  refine y4 (mk es O.toList f λp R=>⟨K.1 p R,(B p R).trans h⟩) λxs W V c=>?_;have conv:∀ j:Nat,(∃ p,xs[j]?=some (k,p))↔∃ x,es[j]?=some (k,x):=by
   intro j;have:(xs.map (·.1))[j]?=(es.map (·.1))[j]?:=by rw[V];rfl
   simp only [List.getElem?_map] at this;constructor
   ·rintro ⟨p,R⟩
    rw [R] at this;cases q:es[j]? with
    | none=>rw [q] at this;cases this
    | some y=>rw [q] at this;injection this with this;exact ⟨y.2,by rw[(show k=y.1 from this)];rfl⟩
   ·rintro ⟨x,hx⟩
    rw [hx] at this;cases q:xs[j]? with
    | none=>rw [q] at this;cases this
    | some y=>rw [q] at this;injection this with this;exact ⟨y.2,by rw[(show k=y.1 from this.symm)];rfl⟩
  refine wpAny_dictFind_heap (knd:=kk) (xs:=xs) hu ⟨kv,n⟩ H C W c (V▸nd) (λhn=>F λj x Y=>?_) (λj p Y=>?_)
  ·refine eE ((conv j).mpr ⟨x,Y⟩) λp R=>?_
   exact hn j p R
  ·refine eE ((conv j).mp ⟨p,Y⟩) λx hx=>?_
   exact J j x hx
variable {k:f5}{d:Addr}{ep:Nat}
theorem a8w {x:f5} (J:a0R es) (B:M2 es k):a0R (es++[(k,x)]):=by
 refine ⟨λp F=>?_,λp F q O=>?_⟩
 ·rcases c8w F with h | h
  ·exact J.1 p h
  ·simp only [List.mem_singleton] at h;subst h;exact B.1
 ·rcases c8w F with h | h <;> rcases c8w O with h' | h'
  ·exact J.2 p h q h'
  ·simp only [List.mem_singleton] at h';subst h';exact B.2 p h
  ·simp only [List.mem_singleton] at h;subst h;exact (B.2 q h').symm
  ·simp only [List.mem_singleton] at h h';subst h h';rfl
theorem a44 {fs:List (f5×f5)} (O:a0R es) (h:∀ p∈fs,∃ q∈es,q.1=p.1):a0R fs:=by
 refine ⟨λp J=>?_,λp J q V=>?_⟩
 ·refine j5 (h p J) λq B F=>?_;refine w3 F ?_;exact O.1 q B
 ·refine j5 (h p J) λW B F=>j5 (h q V) λY R U=>?_;refine w3 F ?_;refine w3 U ?_;exact O.2 _ B _ R
theorem b3L {x:f5}:(es.map λp=>if p.1=k then (p.1,x) else p).map (·.1)=es.map (·.1):=by
 rw[c7U];apply c7r;intro p _;show (if p.1=k then (p.1,x) else p).1=p.1
 split <;> rfl
theorem a9L {x:f5} (J:a0R es):a0R (es.map λp=>if p.1=k then (p.1,x) else p):=by
 refine a44 J λp F=>j5 (c8s F) λq B O=>?_;subst O;exact ⟨q,B,by split <;> rfl⟩
theorem a3u (W:A.units+64 < cLine) (R:c8J H s.heap) (c:H d=some (.dict es ep)) (U:M2 es k) (Z:j7 G s.heap k v) {Q:Option Value->Shared->Prop}
  (q:C0 es k=none->Q none {s with toks:=s.toks+M0 k}) (B:∀ x u,C0 es k=some x->j7 G s.heap x u->Q (some u) {s with toks:=s.toks+M0 k}) :
  wpAny c8L A (dictGet d v) Q E s:=by
 refine a1x (R.objs _ _ c) λY g F V J=>?_;unfold dictGet
 try with_reducible refine c63 ?_
 refine c60 (a04 7 k U.1 A E s v _ (b5o W) Z (c60 (a1h (s:={s with toks:=s.toks+M0 k}) W U g Y V rfl J Z (λf=>?_) (λj x O=>?_))))
 ·exact c61 (q (V2 f))
 ·refine c60 (wpAny_dictEntries (s:={s with toks:=s.toks+M0 k}) V rfl (c61 ?_))
  refine N1 (J.get j O) λe a h b i=>?_;refine w3 c7V ?_;rw[a];exact B x e.val (W4 Y O) b
theorem a9d (h:∀ (j:Nat) (x:f5),l[j]?≠some (k,x)):dep l k ep=ep+1:=by unfold dep;rw[(V2 h)];simp
theorem a7I (h:∀ (j:Nat) (x:f5),l[j]?≠some (k,x)):K2 l k=λx=>l++[(k,x)]:=by
 funext x;unfold K2;rw[(V2 h)];simp
theorem a2C {x:f5} {q:Array DictEntry} (R:c8J H h) (J:H d=some (.dict es ep)) (U:M2 es k) (Y:(es.map (·.1)).Nodup) (Z:a0R es) (W:h.get? d=some {cls:=.type "dict",data:=.dict q ep}) (O:M8 G w h es q.toList)
  (c:j7 G h k v) (f:j7 G h x u) (V:C0 es k=none):c8J (H.set d (.dict (es++[(k,x)]) (ep+1))) (h.update d (Obj.mapDictKeys (·.push ⟨o7 w k,v,u⟩)))/\Ext S5 H h (H.set d (.dict (es++[(k,x)]) (ep+1))) (h.update d (Obj.mapDictKeys (·.push ⟨o7 w k,v,u⟩))):=by
 refine R.update J (c7b ..) λtup=>⟨?_,a8w Z U,_,c7a _ W rfl,?_⟩
 ·rw[c7T];refine O0 (List.nodup_append ..) ?_;refine ⟨Y,by simp,?_⟩
  intro a F b B;simp only [List.map_cons,List.map_nil,List.mem_singleton] at B;subst B;exact λe=>b26 V (e▸F)
 ·rw[Array.toList_push];exact (O.mono tup).snoc (c.mono tup) (f.mono tup) rfl
theorem a63 {x y:f5} {j:Nat} {q:Array DictEntry} (R:c8J H h) (O:H d=some (.dict es ep)) (B:(es.map (·.1)).Nodup) (W:a0R es) (V:h.get? d=some {cls:=.type "dict",data:=.dict q ep}) (U:M8 G w h es q.toList)
  (Y:j7 G h x u) (F:es[j]?=some (k,y)):c8J (H.set d (.dict (K2 es k x) (dep es k ep))) (h.update d (Obj.mapDict (·.modify j λe=>{e with val:=u})))/\Ext S5 H h (H.set d (.dict (K2 es k x) (dep es k ep))) (h.update d (Obj.mapDict (·.modify j λe=>{e with val:=u}))):=by
 have e:K2 es k x=es.map λp=>if p.1=k then (p.1,x) else p:=by unfold K2;rw[(W4 B F)];rfl
 have J:dep es k ep=ep:=by unfold dep;rw[(W4 B F)];rfl
 rw[e];rw[J];refine R.update O (c7b ..) λtup=>⟨?_,a9L W,_,c7a _ V rfl,?_⟩
 ·rw[b3L];exact B
 ·have:=(U.mono tup).modify j B F (Y.mono tup);obtain ⟨l⟩:=q;simpa using this
theorem a5K (b:A.units+64 < cLine) (R:c8J H s.heap) (O:H d=some (.dict es ep)) (U:M2 es k) (a:j7 G s.heap k v) {x:f5} (c:j7 G s.heap x u) (hz:es.length<=o9) {Q:Unit->Shared->Prop}
  (q:∀ e,c8T S5 H s (H.set d (.dict (K2 es k x) (dep es k ep))) e->Q () e):wpAny c8L A (dictSet d v u) Q E s:=by
 refine a1x (R.objs _ _ O) λY Z B F J=>?_;have W:B.size<=sizeLine:=by refine w3 c7K ?_;refine w3 J.length ?_;rw[sizeLine_eq];unfold o9 at hz;exact c7g hz (c7d rfl)
 unfold dictSet
 try with_reducible refine c63 ?_
 refine c60 (a04 7 k U.1 A E s v _ (b5o b) a ?_);unfold dictSetHashed
 try with_reducible refine c63 ?_
 refine c60 (a1h (s:={s with toks:=s.toks+M0 k}) b U Z Y F rfl J a (λV=>?_) (λj y f=>?_))
 ·refine c60 (wpAny_rule (wpAny_updateDictKeys (hz:=W) (s:={s with toks:=s.toks+M0 k}) F rfl ?_))
  have:=a2C (x:=x) R O U Y Z F J a c (V2 V);rw [a7I V,a9d V] at q;exact q _ ⟨this.1,this.2,rfl,rfl⟩
 ·refine c60 (wpAny_rule (c60 (wpAny_updateDict (s:={s with toks:=s.toks+M0 k}) F rfl (wpAny_point ?_))))
  have:=a63 (x:=x) R O Y Z F J c f;exact q _ ⟨this.1,this.2,rfl,rfl⟩
theorem a3v (b:A.units+64 < cLine) (R:c8J H s.heap) (Y:H d=some (.dict es ep)) (O:M2 es k) (W:j7 G s.heap k v) {x:f5} (m:j7 G s.heap x u) (hz:es.length<=o9) {Q:Value->Shared->Prop}
  (i:∀ y f B,C0 es k=some y->j7 G s.heap y f->c8T S5 H s H B->Q f B)
  (l:∀ B,C0 es k=none->c8T S5 H s (H.set d (.dict (es++[(k,x)]) (ep+1))) B->Q u B):wpAny c8L A (dictSetDefault d v u) Q E s:=by
 refine a1x (R.objs _ _ Y) λV c q J F=>?_;have U:q.size<=sizeLine:=by refine w3 c7K ?_;refine w3 F.length ?_;rw[sizeLine_eq];unfold o9 at hz;exact c7g hz (c7d rfl)
 unfold dictSetDefault
 try with_reducible refine c63 ?_
 refine c60 (a04 7 k O.1 A E s v _ (b5o b) W ?_);refine c60 (a1h (s:={s with toks:=s.toks+M0 k}) b O c V J rfl F W (λa=>?_) (λj y Z=>?_))
 ·refine c60 (wpAny_rule (c60 (wpAny_updateDictKeys (hz:=U) (s:={s with toks:=s.toks+M0 k}) J rfl (c61 ?_))))
  have:=a2C (x:=x) R Y O V c J F W m (V2 a);exact l _ (V2 a) ⟨this.1,this.2,rfl,rfl⟩
 ·refine c60 (wpAny_dictEntries (s:={s with toks:=s.toks+M0 k}) J rfl ?_)
  refine N1 (F.get j Z) λe g n h o=>?_;refine w3 c7V ?_;rw[g];exact c60 (wpAny_rule (c61 (i y _ _ (W4 V Z) h (.toks R))))
theorem a57 (a:A.units+64 < cLine) (R:c8J H s.heap) (Y:H d=some (.dict es ep)) (Z:M2 es k) (c:j7 G s.heap k v) (hz:es.length<=o9) {y:f5} (W:C0 es k=some y) {Q:Option DictEntry->Shared->Prop}
  (q:∀ e f,j7 G s.heap y e.val->c8T S5 H s (H.set d (.dict (a39 es k) (ep+1))) f->Q (some e) f):wpAny c8L A (Builtin.Dict.takeOut d v) Q E s:=by
 refine a1x (R.objs _ _ Y) λO b B J F=>?_;have V:B.size<=sizeLine:=by refine w3 c7K ?_;refine w3 F.length ?_;rw[sizeLine_eq];unfold o9 at hz;exact c7g hz (c7d rfl)
 unfold Builtin.Dict.takeOut
 try with_reducible refine c63 ?_
 refine c60 (a04 7 k Z.1 A E s v _ (b5o a) c ?_);refine c60 (a1h (s:={s with toks:=s.toks+M0 k}) a Z b O J rfl F c (λi=>?_) (λj t U=>?_))
 ·rw [V2 i] at W;cases W
 ·have:=W4 O U;rw [W] at this;have n:=E0 this;clear this;subst n;refine c60 (wpAny_dictEntries (s:={s with toks:=s.toks+M0 k}) J rfl ?_)
  refine N1 (F.get j U) λe g o h r=>?_;refine w3 c7V ?_;rw[g];refine c60 (wpAny_updateDictKeys (hz:=V) (s:={s with toks:=s.toks+M0 k}) J rfl (c61 ?_))
  have:=R.update (h':=s.heap.update d (Obj.mapDictKeys (·.eraseIdxIfInBounds j))) (mo':=.dict (a39 es k) (ep+1)) Y (c7b ..) λtup=>⟨?_,?_,_,c7a _ J rfl,?_⟩
  ·exact q e _ h ⟨this.1,this.2,rfl,rfl⟩
  ·exact List.Sublist.nodup (List.Sublist.map _ List.filter_sublist) O
  ·exact a44 b λp m=>⟨p,(List.mem_filter.mp m).1,rfl⟩
  ·have:=(F.mono tup).erase j O U;obtain ⟨l⟩:=B;simpa using this
theorem W5 (R:c8J H s.heap) (q:H d=some (.dict es ep)):s.TypeIs (.ref d) "dict":=by refine a1x (R.objs _ _ q) λ_ _ _ B _=>?_;exact ⟨_,B,rfl⟩
theorem a9c (g:Gk G) (O:A.units+65 < cLine) (R:c8J H s.heap) (B:H d=some (.dict es ep)) (F:M2 es k) (V:j7 G s.heap k v) {Q:Bool->Shared->Prop} (h:Q (C0 es k).isSome {s with toks:=s.toks+M0 k}) :
  wpAny c8L A (contains (.ref d) v) Q E s:=by
 have q:=W5 R B;unfold contains
 try with_reducible refine c63 ?_
 refine c60 (wpAny_specialOf q slot_dict_contains.lookup ?_);refine b9 (c7W (by rw[(beq_builtin_none ..)];exact c7u)) ?_
 refine c60 (wpAny_callSpecialUnlessNone?_slot (name:=Str.ofString "__contains__") q slot_dict_contains
  (c64 slot_dict_contains q entry_dict_contains ?_ (args_dict_contains _ _)))
 show wpAny _ _ (dictGet d v>>=_) _ _ s;refine c60 (a3u (by show A.units+1+64 < cLine;exact Nat.lt_of_succ_le O) R B F V (λJ=>?_) λx u U W=>?_)
 ·rw [J] at h;exact c60 (wpAny_pendingKey_other (R.sysm g B) (c61 ⟨_,rfl,wpAny_truthy_bool h⟩))
 ·rw [U] at h;exact c61 ⟨_,rfl,wpAny_truthy_bool h⟩
theorem b1x (V:A.units+65 < cLine) (R:c8J H s.heap) (J:H d=some (.dict es ep)) (O:M2 es k) (Y:j7 G s.heap k v) {x:f5} (F:C0 es k=some x) {Q:Value->Shared->Prop}
  (h:∀ u,j7 G s.heap x u->Q u {s with toks:=s.toks+M0 k}):wpAny c8L A (getItem (.ref d) v) Q E s:=by
 have B:=W5 R J;unfold getItem
 try with_reducible refine c63 ?_
 refine c60 (wpAny_sequenceKey B (by decide) ?_)
 refine c60 (wpAny_callSpecial?_slot (name:=Str.ofString "__getitem__") B slot_dict_getitem
  (c64 slot_dict_getitem B entry_dict_getitem ?_ (args_dict_getitem _ _)))
 show wpAny _ _ (dictGet d v>>=_) _ _ s;refine c60 (a3u (by show A.units+1+64 < cLine;exact Nat.lt_of_succ_le V) R J O Y (λU=>?_) λa u q Z=>?_)
 ·rw [U] at F;cases F
 ·rw [F] at q;have W:=E0 q;clear q;subst W;exact c61 ⟨u,rfl,c61 (h u Z)⟩
theorem b2k (U:A.units+65 < cLine) (R:c8J H s.heap) (J:H d=some (.dict es ep)) (O:M2 es k) (V:j7 G s.heap k v) {x:f5} (W:j7 G s.heap x u) (hz:es.length<=o9) {Q:Unit->Shared->Prop}
  (q:∀ F,c8T S5 H s (H.set d (.dict (K2 es k x) (dep es k ep))) F->Q () F):wpAny c8L A (setItem (.ref d) v u) Q E s:=by
 have B:=W5 R J;unfold setItem
 try with_reducible refine c63 ?_
 refine c60 (wpAny_sequenceKey B (by decide) ?_)
 refine c60 (wpAny_callSpecial?_slot (name:=Str.ofString "__setitem__") B slot_dict_setitem
  (c64 slot_dict_setitem B entry_dict_setitem ?_ (args_dict_setitem _ _ _)))
 refine c60 (wpAny_notOrdered_dict B ?_);show wpAny _ _ (dictSet d v u>>=_) _ _ s;exact c60 (a5K (by show A.units+1+64 < cLine;exact Nat.lt_of_succ_le U) R J O V W hz λF Y=>c61 ⟨.none,rfl,c61 (q F Y)⟩)
variable {k:Nat}{l:List f5}{es:List c8H}
theorem b0j:∀ (xs:List f5) (v:f5),a33 xs=true->a1A v=true->(Z4 xs).any (λy=>PyData.eqv y (toD v))=decide (v∈xs):=by
 intro r;induction r with
 | nil=>exact λv _ _=>(c7N c7E).symm
 | cons x r B =>
  intro v h q;have h:=G9 h;show (PyData.eqv (toD x) (toD v)||(Z4 r).any _)=_
  rw[(B v h.2 q)];refine O0 (Bool.eq_iff_iff ..) ?_;rw[(Bool.or_eq_true ..)];refine O0 ((a2W 20).1 x v h.1 q ..) ?_;refine O0 (decide_eq_true_iff ..) ?_;refine O0 (decide_eq_true_iff ..) ?_;refine O0 (List.mem_cons ..) ?_;exact or_congr ⟨Eq.symm,Eq.symm⟩ Iff.rfl
theorem b7y (g:Gk G) (A:Around) (s:Shared) (H:Hp) (v u:Value) (p q:f5) (Q:Bool->Hp->Prop) (E:AOk n m A) (R:c8J H s.heap) (U:j7 G s.heap p v) (B:j7 G s.heap q u) (h:inW p q H Q) :
  wpAny c8L A (compareOp .In v u) (Got G w b2b H s Q) D7 s:=by
 have d:A.units+65 < cLine:=by have:=E.units;exact b5n this
 rcases h with ⟨b,c,rfl,c1,c2,rfl,h⟩ | ⟨l,rfl,F,J,h⟩ | ⟨a,xs,rfl,e,F,J,h⟩ | ⟨a,es,ep,rfl,e,F,h⟩
 ·replace U:=a1w U;replace B:=a1w B;refine eE U λt X=>?_;clear U;subst X;refine eE B λt' q7=>?_;clear B;subst q7;have M:Str.ofString (String.singleton c)=⟨#[c.toNat]⟩:=by
   rw[(t4 ..)];simp
  have N:(!(Builtin.Str.occurrences (Str.ofString b) (Str.ofString (String.singleton c)) 0 (Str.ofString b).length 1).isEmpty)=b.toList.contains c:=by
   rw[M];rw[(StrLaws.found_one ..)];rw[(t4 ..)];refine O0 (Bool.eq_iff_iff ..) ?_;refine O0 (decide_eq_true_iff ..) ?_;refine O0 (List.contains_iff_mem ..) ?_;simp only [List.mem_map];exact ⟨λD=>by refine j5 D λx f e=>?_;clear D;exact Char.toNat_inj.mp e▸f,λf=>⟨c,f,rfl⟩⟩
  refine PySem.P.in_str ?_;rw[N];exact ⟨_,H,rfl,.refl R,h⟩
 ·replace B:=Y0 B;revert B;intro W;refine j9 W λa vs r V B=>?_;clear W;subst r;refine P7 V λo Z S z T=>?_;clear V;refine eE ((R0 20).2 l _ J B) λI k=>eE ((R0 20).1 p _ F U) λK y=>eA ((J8 20).2 l J) λi Y=>eA ((J8 20).1 p F) λj L=>?_;have O:A.units+1+min (PyData.depthAll (Z4 l)) (toD p).depth < cLine:=by
   have:=Nat.min_le_left (PyData.depthAll (Z4 l)) (toD p).depth;exact c5I d Y
  have C:=Reads.tuple (xs:=Z4 l) Z S T k;exact in_tuple_reads C y i j O (by rw[(b0j l p J F)];exact ⟨_,H,rfl,.refl R,h⟩)
 ·replace B:=U8 B;subst B;refine A6 (R.objs _ _ e) λvs z Z B=>eE ((R0 20).2 xs _ J B) λI k=>eE ((R0 20).1 p _ F U) λK y=>eA ((J8 20).2 xs J) λi Y=>eA ((J8 20).1 p F) λj L=>?_;have O:A.units+1+min (PyData.depthAll (Z4 xs)) (toD p).depth < cLine:=by
   have:=Nat.min_le_left (PyData.depthAll (Z4 xs)) (toD p).depth;exact c5I d Y
  have C:=Reads.list (xs:=Z4 xs) Z rfl rfl k;exact in_list_reads C y i j O (by rw[(b0j xs p J F)];exact ⟨_,H,rfl,.refl R,h⟩)
 ·replace B:=U8 B;subst B;exact c60 (a9c g d R e F U (c61 ⟨_,H,rfl,.toks R,h⟩))
theorem a4M {x:f5} (r:j7 G h x v):handedIn v=true/\(v==Value.none)=decide (x=.none):=by
 have no:∀ {u:Value},x≠.none->handedIn u=true->(u==Value.none)=false->handedIn u=true/\(u==Value.none)=decide (x=.none):=λO R U=>⟨R,U.trans (c7N O).symm⟩;cases x with
 | none=>cases b5e r;exact ⟨rfl,by simp⟩
 | bool b=>cases b01 r;exact no (λe=>nomatch e) rfl (by simp)
 | int i=>refine eE (J0 r) λ_ q=>?_;subst q;exact no (λe=>nomatch e) rfl (by simp)
 | str s=>refine eE (a1w r) λ_ B=>?_;subst B;exact no (λe=>nomatch e) rfl (by simp)
 | tup l=>refine A6 (Y0 r) λ_ _ J _=>?_;subst J;exact no (λe=>nomatch e) rfl (by simp)
 | ref a=>cases U8 r;exact no (λe=>nomatch e) rfl (by simp)
 | fn f=>refine j5 (vfn r) λ_ F _=>?_;subst F;exact no (λe=>nomatch e) rfl (by simp)
 | fz l=>refine eA (vfz r) λV _=>?_;subst V;exact no (λe=>nomatch e) rfl (by simp)
theorem b7z (A:Around) (s:Shared) (H:Hp) (v u:Value) (p q:f5) (Q:Bool->Hp->Prop) (R:c8J H s.heap) (J:j7 G s.heap p v) (O:j7 G s.heap q u) (h:isW p q H Q) :
  wpAny c8L A (compareOp .Is v u) (Got G w b2b H s Q) D7 s:=by
 revert h;intro B;refine eA B λF h=>?_;clear B;subst F;cases b5e O;exact is_none_gen (by rw[((a4M J).2)];exact ⟨_,H,rfl,.refl R,h⟩)
theorem a61 {A:Around} {p q:f5} {f:Int->Int->Bool} {Q:Bool->Hp->Prop} {C:Prop} (F:j7 G s.heap p v) (J:j7 G s.heap q u) (h:b4o p q H f Q)
  (k:∀ i t j t',v=.int i t->u=.int j t'->Q (f i j) H->C):C:=by
 revert h;intro B;refine j9 B λi j O R h=>?_;clear B;subst O;subst R;replace F:=J0 F;replace J:=J0 J;refine eE F λt U=>?_;clear F;subst U;refine eE J λt' V=>?_;clear J;subst V;exact k _ _ _ _ rfl rfl h
theorem b4l {M:Model} {t:Sem Bool} {Q:Bool->Hp->Prop} (h:wpAny M A (t>>=λb=>pure (Value.bool b)) (Got G w b2b H s λb=>Q (!b)) D7 s):wpAny M A (t>>=λb=>pure (Value.bool (!b))) (Got G w b2b H s Q) D7 s:=λΓ p R=>by
 have h:=h Γ p R;rw [Sem.wp_bind'] at h ⊢;exact Sem.wp_mono M Γ t (λb _ V B=>by refine j9 B λJ F r U q=>?_;clear B;exact ⟨!J,F,by cases r;rfl,U,q⟩) (λ_ _ _ O=>O) p s h
noncomputable def b93:COp->CmpOp
 | .eq=>.Eq | .ne=>.NotEq | .lt=>.Lt | .le=>.LtE | .gt=>.Gt | .ge=>.GtE | .isin=>.In | .notin=>.NotIn | .is=>.Is | .isnot=>.IsNot
theorem b2v {q:CmpOp} {o:COp} (h:a19 q=some o):q=b93 o:=by
 cases q <;> exact c7p h▸rfl
theorem a9b (g:Gk G):a7n lc w G n m:=by
 intro a o A s H v u p q Q Z U R B F h;have V:A.units+65 < cLine:=by have:=U.units;exact b5n this
 cases b2v Z;cases o
 ·revert h;intro W;refine j5 W λb e h=>?_;clear W;exact (b3h g R V B F e).1 _ _ _ _ ⟨_,H,rfl,.refl R,h⟩
 ·revert h;intro Y;refine j5 Y λb e h=>?_;clear Y;exact (b3h g R V B F e).2 _ _ _ _ ⟨_,H,rfl,.refl R,h⟩
 ·exact a61 (A:=A) B F h λ_ _ _ _ J O h=>by subst J O;exact wpAny_lt_int ⟨_,H,rfl,.refl R,h⟩
 ·exact a61 (A:=A) B F h λ_ _ _ _ J O h=>by subst J O;exact le_int ⟨_,H,rfl,.refl R,h⟩
 ·exact a61 (A:=A) B F h λ_ _ _ _ J O h=>by subst J O;exact gt_int ⟨_,H,rfl,.refl R,h⟩
 ·exact a61 (A:=A) B F h λ_ _ _ _ J O h=>by subst J O;exact ge_int ⟨_,H,rfl,.refl R,h⟩
 ·exact b7y g A s H v u p q Q U R B F h
 ·exact b4l (b7y g A s H v u p q _ U R B F h)
 ·exact b7z A s H v u p q Q R B F h
 ·exact b4l (b7z A s H v u p q _ R B F h)
end
variable {l:List f5}{e:c8H}{r:En}
theorem a9M (r:m4 G h xs vs.toList):a2t G w (h.push {cls:=.type "list",data:=.seq vs}) h.objs.size (.list xs) :=
 ⟨vs,0,c68 _ rfl,r.mono λ_ _=>U5⟩
theorem a1Q (R:c8J H s.heap) (r:m4 G s.heap xs vs.toList) (h:newList xs H Q) :
  Got G w (j7 G) H s Q (.ref s.heap.objs.size) {s with heap:=s.heap.push {cls:=.type "list",data:=.seq vs},toks:=t} :=
 ⟨.ref _,_,.ref,.alloc R (a9M r),h.2 _ R.fresh⟩
theorem a6B (R:c8J H s.heap) (r:m4 G s.heap xs vs.toList) (h:Q (.tup xs) H) :
  Got G w (j7 G) H s Q (.ref s.heap.objs.size) {s with heap:=s.heap.push {cls:=.type "tuple",data:=.seq vs},toks:=t} :=
 ⟨.tup xs,H,j7.tup (by simpa using IsTup.new s.heap vs) (r.mono λ_ _=>U5),.push R,h⟩
theorem b2m {a b:Int} (h:small b):IntMulOk a b:=.of_right (intBits_le_64 (by unfold small at h;exact c0P h) (by unfold small at h;exact c0Q h))
theorem b1V {E Q:Value->Shared->Prop} {l:Addr} {items:Array Value} {x:Int} {u:Tok}
  (q:s.heap.get? l=some {cls:=.type "list",dict:=none,data:=.seq items k,slots:=#[]})
  (O:-(2 ^ 63:Int)<=x) (J:x < 2 ^ 63) (B:items.size * x.toNat<=2 ^ 24)
  (h:Q (.ref s.heap.objs.size) {s with heap:=s.heap.push {cls:=.type "list",data:=.seq (List.foldl (λV W=>V++W) #[] (List.replicate (if items.isEmpty=true then 0 else x.toNat) items))}}) :
  wpAny c8L A (binaryOp .Mult (.ref l) (.int x u)) Q E s :=
 wpAny_binaryOp_repeat_ref (T:="list") (U:="int") (by decide) ⟨_,q,rfl⟩ (λR=>typeIs_int R x u) noFill_list_mul F.fills_int_mul F.slot_int_rmul repeat_list F.slot_int_index.lookup
  (call_meets F.slot_int_rmul (typeIs_int s x u) F.entry_int_rmul (F.args_int_rmul_2 _ _) (int___rmul___int_list x u l items k)
   ⟨q,rfl,⟨_,q,rfl⟩,call_meets F.slot_list_mul ⟨_,q,rfl⟩ F.entry_list_mul (F.args_list_mul_2 _ _)
    (AutoListH.list___mul___list_int_3 l items k x u (by simp [Builtin.List.listFitsIndex];exact c0R O J) (c1m B) (by simp [Builtin.List.listTooLong,sizeLine];exact c1l B))
    ⟨q,h⟩⟩)
theorem b6u (y:Value) (k:Nat):((List.replicate k #[y]).foldl (·++·) #[]).toList=List.replicate k y:=by
 suffices e:∀ (k:Nat) (a:Array Value),((List.replicate k #[y]).foldl (·++·) a).toList=a.toList++List.replicate k y from e k #[]
 intro k;induction k with
 | zero=>intro a;simp
 | succ k q=>intro a;rw[List.replicate_succ];rw[List.foldl_cons];rw[(q ..)];simp [List.replicate_succ]
theorem m4.rep {x:f5} {y:Value} (r:j7 G h x y):∀ k:Nat,m4 G h (List.replicate k x) (List.replicate k y)
 | 0=>.nil
 | k+1=>.cons r (m4.rep r k)
noncomputable def c6k:BOp->Operator
 | .add=>.Add | .sub=>.Sub | .mul=>.Mult | .fdiv=>.FloorDiv | .mod=>.Mod
theorem b2u {q:Operator} {o:BOp} (h:b4Z q=some o):q=c6k o:=by
 cases q <;> first | exact A3 h | exact c7p h▸rfl
theorem b8h (op:Operator) (o:BOp) (ho:b4Z op=some o) (A:Around) (s:Shared) (H:Hp) (v u:Value) (p q:f5) (Q:f5->Hp->Prop) (al:AOk n m A) (R:c8J H s.heap) (J:j7 G s.heap p v) (B:j7 G s.heap q u) (h:a3q o p q H Q) :
  wpAny c8L A (binaryOp op v u) (Got G w (j7 G) H s Q) D7 s:=by
 have O:∀ a:String,(Str.ofString a).length=a.length:=λa=>by
  rw[(t4 ..)];show (a.toList.map Char.toNat).toArray.size=_;rw[c8l];rw[(c7f ..)];exact String.length_toList
 cases b2u ho;cases o
 ·rcases h with ⟨i,j,rfl,rfl,h⟩ | ⟨a,b,rfl,rfl,D,h⟩ | ⟨l,r,rfl,rfl,D,h⟩ | ⟨a,b,xs,ys,rfl,rfl,X,h2,h⟩
  ·replace J:=J0 J;replace B:=J0 B;refine eE J λt q1=>?_;clear J;subst q1;refine eE B λg q7=>?_;clear B;subst q7;exact P.add_int ⟨_,H,.int,.toks R,h⟩
  ·replace J:=a1w J;replace B:=a1w B;refine eE J λt q2=>?_;clear J;subst q2;refine eE B λg q8=>?_;clear B;subst q8;refine P.add_str ?_;have e:Str.ofString (a++b)=Str.ofString a++Str.ofString b:=by
    rw[(t4 ..)];rw[(t4 ..)];rw[(t4 ..)];rw[String.toList_append];rw[c7T];show _=(⟨_++_⟩:Str);simp
   have nil:∀ a:String,(Str.ofString a).length==0->a="":=λa h=>by
    rw [O] at h;have:a.toList=[]:=c7H (by simpa using c8j h)
    exact String.toList_injective (by simpa using this)
   split
   ·rename_i z;have:=nil a z;subst this;exact ⟨.str b,H,.str,.refl R,by simpa using h⟩
   ·split
    ·rename_i z;have:=nil b z;subst this;exact ⟨.str a,H,.str,.refl R,by simpa using h⟩
    ·refine ⟨?_,.str (a++b),H,e▸.str,.toks R,h⟩;refine w3 e ?_;rw[(O ..)];rw[(String.length_append ..)];rw[sizeLine_eq];unfold o9 at D;exact c7g D (c7d rfl)
  ·replace J:=Y0 J;replace B:=Y0 B;refine j9 J λa W a8 t1 Y=>?_;clear J;subst a8;refine j9 B λb us a9 t2 f=>?_;clear B;subst a9;refine P7 (id t1) λb4 U hc k hd=>?_;obtain ⟨cls,S,data,sl⟩:=b4;refine P7 (id t2) λb5 V a0 L a1=>?_;obtain ⟨b6,Z,N,d⟩:=b5;cases hc;cases hd;cases a0;cases a1;have e:W.toArray++us.toArray=(W++us).toArray:=by simp
   have c:=Y.length;have M:=f.length;by_cases hv:W=[]
   ·subst hv;have:l=[]:=c7H c;subst this;exact concat_meets ⟨_,U,rfl⟩ ⟨_,V,rfl⟩ noFill_tuple_add seq_tuple_add PySem.F.slot_tuple_add PySem.F.entry_tuple_add (PySem.F.args_tuple_add_2 _ _)
     (tuple_addW0 a b _ us.toArray k L S Z sl d rfl) ⟨U,V,.tup r,H,.tup t2 f,.refl R,h⟩
   ·by_cases hw:us=[]
    ·subst hw;have:r=[]:=c7H M;subst this;exact concat_meets ⟨_,U,rfl⟩ ⟨_,V,rfl⟩ noFill_tuple_add seq_tuple_add PySem.F.slot_tuple_add PySem.F.entry_tuple_add (PySem.F.args_tuple_add_2 _ _)
      (tuple_addW1 a b W.toArray _ k L S Z sl d (by simpa using hv) rfl) ⟨U,V,.tup l,H,.tup t1 Y,.refl R,c8d l▸h⟩
    ·refine concat_meets ⟨_,U,rfl⟩ ⟨_,V,rfl⟩ noFill_tuple_add seq_tuple_add PySem.F.slot_tuple_add PySem.F.entry_tuple_add (PySem.F.args_tuple_add_2 _ _)
      (tuple_addW2 a b W.toArray us.toArray k L S Z sl d (by simpa using hv) (by simpa using hw) (by rw[c8l];rw[c8l];rw[sizeLine_eq];unfold o9 at D;exact c4H D c M)) ⟨U,V,?_⟩
     rw[e];exact a6B R (Y.append f) h
  ·replace J:=U8 J;replace B:=U8 B;subst J B;refine A6 (R.objs _ _ X) λW k T Y=>A6 (R.objs _ _ h2) λus L g2 f=>?_;have c:xs.length=W.size:=by rw[Y.length];rw[c7K];rfl
   have M:ys.length=us.size:=by rw[f.length];rw[c7K];rfl
   refine P.add_list T g2 (a1Q R (by rw[Array.toList_append];exact Y.append f) h) ?_
   have:=h.1;rw [List.length_append] at this;rw[sizeLine_eq];unfold o9 at this;exact c4K c M this
 ·revert h;intro E;refine j9 E λi j a6 a7 h=>?_;clear E;subst a6;subst a7;replace J:=J0 J;replace B:=J0 B;refine eE J λt q3=>?_;clear J;subst q3;refine eE B λg q9=>?_;clear B;subst q9;exact P.sub_int ⟨_,H,.int,.toks R,h⟩
 ·rcases h with ⟨i,j,rfl,rfl,h0,X,h⟩ | ⟨a,x,k,rfl,rfl,e,hk,h⟩
  ·replace J:=J0 J;replace B:=J0 B;refine eE J λt q4=>?_;clear J;subst q4;refine eE B λg a2=>?_;clear B;subst a2;exact P.mul_int ⟨_,H,.int,.toks R,h⟩ (b2m X)
  ·replace J:=U8 J;replace B:=J0 B;subst J;refine eE B λg a3=>?_;clear B;subst a3;refine A6 (R.objs _ _ e) λW z T Y=>?_;have c:1=W.size:=by refine w3 c7K ?_;refine w3 Y.length ?_;rfl
   refine b1V T (c00) (c1j hk) (by refine w3 c ?_;exact c1i hk) (a1Q R ?_ h)
   obtain ⟨y,hy⟩:∃ y,W=#[y]:=by
    obtain ⟨l⟩:=W
    match l,c with
    | [y],_=>exact ⟨y,rfl⟩
   subst hy;show m4 G s.heap _ ((List.replicate k #[y]).foldl (·++·) #[]).toList;rw[(b6u ..)];refine j9 (F9 Y) λ_ _ e ry _=>?_;cases e;exact m4.rep ry k
 ·revert h;intro I;refine J6 I λi j b0 b1 C h=>?_;clear I;subst b0;subst b1;replace J:=J0 J;replace B:=J0 B;refine eE J λt q5=>?_;clear J;subst q5;refine eE B λg a4=>?_;clear B;subst a4;refine mod_int' (by exact Ne.symm (Int.ne_of_lt C)) ?_
  rw[(Int.fmod_eq_emod_of_nonneg _ (by exact Int.le_of_lt C))]
  exact ⟨_,H,.int,.toks R,h⟩
 ·revert h;intro K;refine B0 K λi j b2 b3 C b7 h=>?_;clear K;subst b2;subst b3;replace J:=J0 J;replace B:=J0 B;refine eE J λt q6=>?_;clear J;subst q6;refine eE B λg a5=>?_;clear B;subst a5;refine floordiv_int (by exact Ne.symm (Int.ne_of_lt C)) ?_ (Or.inl (PyProof.noPylong_small (by omega)))
  rw[(Int.fdiv_eq_ediv_of_nonneg _ (by exact Int.le_of_lt C))]
  exact ⟨_,H,.int,.toks R,h⟩
variable {es:List c8H}{value slice:c8H}
theorem a2o {o i:Value} {T id:String} {B:List Value} {Q:Value->Shared->Prop} (F:s.TypeIs o T)
  (O:typeLookup (.type T) "__getitem__"=pure (some (.builtin id))) (h:wpAny c8L A (getItem o i) Q E s)
  (R:subscripted slice false o i=operate B (getItem o i)):wpAny c8L A (subscriptTail value slice o i) Q E s:=by
 refine c60 ?_;rw[(getitemInPython_of_ne F.not_modules)];refine c60 (wpAny_specialOf F O ?_);have q:wpAny c8L A (subscripted slice false o i) (λr J=>wpAny c8L A (letTemporaryGo value o r>>=λ_=>pure r) Q E J) E s:=by
  rw[R];exact wpAny_operating (c62 h (λr J U=>c60 (wpAny_letTemporaryGo (c61 U))) λ_ _ x=>x)
 first
  | exact c61 (c60 q)
  | exact c60 (c61 (c60 q))
  | exact c60 q
theorem a4t (h:a23 slice=false) (o i:Value):subscripted slice false o i=operate [o,i] (getItem o i):=by
 cases slice <;> first | rfl | exact nomatch h
theorem a56 {l u:Option c8H} {p:Pos} (o i:Value):subscripted (.Slice l u none p) false o i=operate [i,o] (getItem o i):=rfl
theorem a2D {n:Nat} {i:Int} {j:Nat} (h:a1q n i=some j):seqIndex? i n=some j/\-(2 ^ 63)<=i/\i < 2 ^ 63/\n<=o9/\j < n:=by
 unfold a1q at h
 split at h
 ·rename_i F;have B:=F;unfold o9 at B;unfold seqIndex?
  split at h
  ·rename_i q;have J:=E0 h;clear h;subst J;have e:(if i < 0 then i+(n:Int) else i)=i:=c7W (by exact Int.not_lt.mpr q.1)
   simp only [e];refine ⟨?_,by exact c6D q,by exact c0L B q,F,by exact (Int.toNat_lt q.1).mpr q.2⟩
   (rewrite [if_pos];try rfl);simp;exact And.comm.mp (id (And.symm q))
  ·split at h
   ·rename_i q;have O:=E0 h;clear h;subst O;have e:(if i < 0 then i+(n:Int) else i)=i+n:=c7X q.1
    simp only [e];refine ⟨?_,by exact c0M B q,by exact c0J q,F,by exact c0I q⟩
    (rewrite [if_pos];try rfl);simp;exact c0H q
   ·cases h
 ·cases h
theorem b8w {p q:f5} (U:a23 slice=false) (L:AOk n m A) (R:c8J H s.heap) (B:j7 G s.heap p v) (J:j7 G s.heap q u) (h:a6F p q H Q) :
  wpAny c8L A (subscriptTail value slice v u) (Got G w (j7 G) H s Q) D7 s:=by
 have X:A.units+65 < cLine:=by have:=L.units;exact b5n this
 rcases h with ⟨x,i,f,rfl,rfl,e,Y,_,h⟩ | ⟨C,k,j,x,T,rfl,O,D,h⟩ | ⟨a,es,ep,x,rfl,e,W,hx,h⟩
 ·replace B:=a1w B;replace J:=J0 J;refine eE B λt q5=>?_;clear B;subst q5;refine eE J λI q7=>?_;clear J;subst q7;have lt:=(c8r e).1;refine b3d (a2D (i:=i) (c7X Y |>.trans (c7X ⟨c7C i,c8E lt⟩))) λz g b _=>?_
  refine a2o (typeIs_str _ _ _) PySem.F.slot_str_getitem.lookup (PySem.P.getItem_str (c:=f.toNat) (by refine O0 (Bool.or_eq_false_iff ..) ?_;refine O0 (decide_eq_false_iff_not ..) ?_;refine O0 (decide_eq_false_iff_not ..) ?_;exact c0Z b) ?_ ?_) (a4t U _ _)
  ·rw[(t4 ..)];show ((seqIndex? i (x.toList.map Char.toNat).toArray.size).bind _)=_;rw[c8l];rw[(c7f ..)];rw[z];show (x.toList.map Char.toNat).toArray[i]?=_;refine b9 List.getElem?_toArray ?_;rw[c7m];rw[e];rfl
  ·refine ⟨.str (String.singleton f),H,?_,.toks R,h⟩;exact a8J f▸.str
 ·refine a5L (a2D O) λM g b N g5=>?_;rcases T with rfl | ⟨a,rfl,e⟩
  ·replace B:=Y0 B;replace J:=J0 J;refine j9 B λa o l K Z=>?_;clear B;subst l;refine eE J λI q8=>?_;clear J;subst q8;refine j5 (Z.get j D) λy W d=>a2o K.typeIs slot_tuple_getitem.lookup (getItem_tuple K g b ?_ (by simpa using W) ⟨x,H,d,.refl R,h⟩) (a4t U _ _)
   rw[c8l];refine w3 Z.length ?_;exact M
  ·replace B:=U8 B;replace J:=J0 J;subst B;refine eE J λI q9=>?_;clear J;subst q9;refine A6 (R.objs _ _ e) λo z S Z=>?_;have Y:s.heap.IsList a o:=⟨_,S,rfl,_,rfl⟩;refine j5 (Z.get j D) λy W d=>?_;have E:C.length=o.size:=by rw[Z.length];rw[c7K];rfl
   refine a2o Y.typeIs list_getitem_lookup ?_ (a4t U _ _);rw [Array.getElem?_toList] at W;unfold a1q at O;rw [if_pos N] at O;by_cases V:0<=k/\k < C.length
   ·rw [if_pos V] at O;have q3:=E0 O;clear O;subst q3;exact wpAny_getItem_list Y V.1 b W ⟨x,H,d,.refl R,h⟩
   ·rw [if_neg V] at O;by_cases V:k < 0/\-(C.length:Int)<=k
    ·rw [if_pos V] at O;have q4:=E0 O;clear O;subst q4;exact wpAny_getItem_list_neg Y V.1 (c0U E V) g (by refine w3 E ?_;exact W) ⟨x,H,d,.refl R,h⟩
    ·rw [if_neg V] at O;cases O
 ·replace B:=U8 B;subst B;exact a2o (W5 R e) slot_dict_getitem.lookup (b1x X R e W J hx λy r=>⟨x,H,r,.toks R,h⟩) (a4t U _ _)
theorem b81 {a b:c8H} {x y:Ev} (U:a23 b=false) (ha:c8I m c a x) (Y:c8I m c b y):c8I m c (.Subscript a b pos) (k8 x y):=λA s H r V Q O R F q=>by
 refine Subscript_ (m3 (ha A s H r V _ O R F q) (λp v W g e J Z=>?_));refine m3 (Y A g W r V _ O J.rel (F.step R J) Z) (λi u h j f B d=>?_);exact A1 (J.trans B) (b8w U O B.rel (B.vrep J.rel e) f d)
theorem a0S {ys:List f5} {z:Nat} {vl q:Value} {J B:Option Int} {l u:Option c8H} {p:Pos} (R:c8J H s.heap)
  (W:s.heap.get? a=some o) (U:o.cls=.type "list") (V:o.data=.seq vs z) (pl:IsPart vl J) (Y:IsPart q B) (hz:vs.size<=o9) (r:m4 G s.heap ys (slicePick vs J B none).toList) (h:newList ys H Q) :
  wpAny c8L A (subscriptTail value (.Slice l u none p) (.ref a) (.ref s.heap.objs.size)) (Got G w (j7 G) H s Q) D7 {s with heap:=s.heap.push {cls:=.type "slice",data:=.fields #[vl,q,.none]}}:=by
 have F:s.heap.IsList a vs:=⟨_,W,U,_,V⟩;have O:=R.push {cls:=.type "slice",data:=.fields #[vl,q,.none]};refine a2o (Heap.IsList.typeIs (s:={s with heap:=s.heap.push {cls:=.type "slice",data:=.fields #[vl,q,.none]}}) (F.push _)) list_getitem_lookup
  (wpAny_getItem_list_slice (F.push _) (Heap.IsSliceOf.new ..) pl Y .none (by simp) ?_ (by rw[sizeLine_eq];unfold o9 at hz;exact c7g hz (c7d rfl))) (a56 _ _)
 have:=a1Q (s:={s with heap:=s.heap.push {cls:=.type "slice",data:=.fields #[vl,q,.none]}}) (Q:=Q) (t:=s.toks) O (r.mono λ_ _=>U5) h
 exact this.after (.push (t:=s.toks) R)
theorem a5c {vs:List Value} {k:Int} {t:Tok} {l u:Option c8H} {p:Pos} (R:c8J H s.heap)
  (ht:IsTup s.heap a vs.toArray) (hz:xs.length<=o9) (r:m4 G s.heap xs vs) (B:1<=k) (O:k<=xs.length) (h:Q (.tup (xs.drop k.toNat)) H) :
  wpAny c8L A (subscriptTail value (.Slice l u none p) (.ref a) (.ref s.heap.objs.size)) (Got G w (j7 G) H s Q) D7 {s with heap:=s.heap.push {cls:=.type "slice",data:=.fields #[.int k t,.none,.none]}}:=by
 have J:=R.push {cls:=.type "slice",data:=.fields #[.int k t,.none,.none]};have F:=r.length;refine eE (Int.eq_ofNat_of_zero_le (show 0<=k by exact Int.le_of_lt B)) λj q=>?_;subst q
 refine a2o (IsTup.typeIs (s:={s with heap:=s.heap.push {cls:=.type "slice",data:=.fields #[.int (j:Int) t,.none,.none]}}) (ht.push _)) slot_tuple_getitem.lookup
  (getItem_tuple_from (ht.push _) (Heap.IsSliceOf.new ..) (a:=j) (by exact Int.ofNat_le.mp B) (by simp;exact c7g (Int.ofNat_le.mp O) (c7z F)) ?_ (by simp;rw[sizeLine_eq];unfold o9 at hz;exact c2R hz F)) (a56 _ _)
 have:=a6B (s:={s with heap:=s.heap.push {cls:=.type "slice",data:=.fields #[.int (j:Int) t,.none,.none]}}) (vs:=(vs.drop j).toArray) (Q:=Q) (t:=s.toks) J (by simpa using (r.drop j).mono λ_ _=>U5) h
 exact this.after (.push (t:=s.toks) R)
theorem b2g {a b:c8H} {x y:Ev} {p pos:Pos} (g:Gk G) (ha:c8I m c a x) (K:c8I m c b y):c8I m c (.Subscript a (.Slice (some b) none none p) pos) (a0N x y):=λA s H r o Q f R F q=>by
 refine Subscript_ (m3 (ha A s H r o _ f R F q) (λp v C M B V L=>?_));refine wpAny_Slice ?_;rw[(evalPart_some ..)];rw[(evalPart_none ..)];refine m3 (K A M C r o _ f V.rel (F.step R V) L) (λp2 u D N U J t=>c61 (c61 ?_));replace B:=J.vrep V.rel B;refine A1 (V.trans J) (?_:wpAny c8L A _ (Got G w (j7 G) D N Q) D7 _);refine B0 t λl k Z i I n h=>?_;clear t;subst Z
 replace U:=J0 U;refine eE U λP W=>?_;clear U;subst W;rcases h with ⟨rfl,h⟩ | ⟨a,rfl,e,h⟩
 ·replace B:=Y0 B;revert B;intro O;refine j9 O λX T Y S B=>?_;clear O;subst Y;exact a5c J.rel S n B i I h
 ·replace B:=U8 B;subst B;refine A6 (J.rel.objs _ _ e) λT z E B=>a0S J.rel E rfl rfl (.int _ P) .none (by refine w3 c7K ?_;refine w3 B.length ?_;exact n) ?_ h
  refine eE (Int.eq_ofNat_of_zero_le (show 0<=k by exact Int.le_of_lt i)) λj d=>?_;subst d
  rw[(slicePick_from' ..)];exact B.drop j
theorem b6G {a b:c8H} {x y:Ev} {p pos:Pos} (g:Gk G) (ha:c8I m c a x) (hb:c8I m c b y):c8I m c (.Subscript a (.Slice none (some b) none p) pos) (a9h x y):=λA s H r C Q f R F q=>by
 refine Subscript_ (m3 (ha A s H r C _ f R F q) (λp v L s1 J U q1=>?_));refine wpAny_Slice ?_;rw[(evalPart_some ..)];rw[(evalPart_none ..)];refine c61 (m3 (hb A s1 L r C _ f U.rel (F.step R U) q1) (λp2 u M E O B D=>c61 ?_));replace J:=B.vrep U.rel J;refine A1 (U.trans B) (?_:wpAny c8L A _ (Got G w (j7 G) M E Q) D7 _);refine a7Q D λl k Z X h2 n hv h=>?_;clear D;subst Z
 replace O:=J0 O;refine eE O λI V=>?_;clear O;subst V;refine eE (Int.eq_ofNat_of_zero_le X) λj d=>?_;subst d;rcases hv with rfl | ⟨a,rfl,e⟩
 ·replace J:=vfz J;refine eA J λW Y=>?_;clear J;subst W;subst Y;refine a1i g.script λo K z N P S i=>?_;have ho:=(B.rel.base _ _ N).1;have n1:G.sl.length=K.size:=by refine w3 i.length ?_;rw[c7K];rfl
  refine a0S B.rel ho P S .none (.int _ I) (by refine w3 n1 ?_;exact n) ?_ h
  rw[(slicePick_upto' ..)];exact m4.of_ints (h:=E.heap) (i.take j)
 ·replace J:=U8 J;subst J;refine A6 (B.rel.objs _ _ e) λK z T J=>a0S B.rel T rfl rfl .none (.int _ I) (by refine w3 c7K ?_;refine w3 J.length ?_;rw[(c7f ..)];exact n) ?_ h
  rw[(slicePick_upto' ..)];have t:=J.take j;rw [<- List.map_take] at t;exact t
theorem b85 {a:c8H} {x:Ev} (ha:c8I m c a x):c8I m c (.UnaryOp .USub a pos) (K3 x):=λA s H r Y Q W R F q=>by
 refine wpAny_UnaryOp (m3 (ha A s H r Y _ W R F q) (λp v V d J b O=>?_));revert O;intro B;refine j5 B λi U O=>?_;clear B;subst U;replace J:=J0 J;refine eE J λt Z=>?_;clear J;subst Z;exact PySem.P.neg_int ⟨_,V,.int,b.tok,O⟩
theorem a5V {es:Array DictEntry} (F:StrKeys es) (x:Str):lookIn x {cls:=.type "dict",data:=.dict es k}=some (nsFind es x):=by
 unfold lookIn nsFind findBy;simp only;refine w3 Array.find?_toList ?_;cases es.toList.find? (·.key.isStr x) with
 | some e=>rfl
 | none =>
  simp only;rewrite [if_neg];rfl;refine O0 (List.any_eq_true ..) ?_
  rintro ⟨e,q,h⟩
  refine eEE (F e (Array.mem_toList_iff.mp q)) λn t B=>?_;simp [DictEntry.refKey,B] at h
theorem a6I {a d C:Addr} (q:s.heap.get? a=some (instObj C d)) (B:s.heap.get? d=some o):InstAt s.heap a (instObj C d) C (some o):=⟨q,rfl,rfl,B⟩
theorem a5v {K:Frag} {C:Addr} (h:b2C K C) (ha:findIn K (.ref C) x=some none) (F:lookIn x o=some (some v)):findObj K C (some o) x=some (.value v):=by
 refine j5 h.cd λJ q B=>?_;unfold findObj;rw[q];rw[(Option.bind_some ..)];rw[ha];rw[(Option.bind_some ..)];unfold W.ownOf;rw[(c7X B)];simp only [F,Option.bind_some]
theorem b5F (g:Gok G c) (R:c8J H s.heap) (i:B1 x=true) (ha:c.attrs.contains x=true) (B:j7 G s.heap p v) (h:b0k p (nm x) H Q) :
  wpAny c8L A (getAttr v x true) (Got G w (j7 G) H s Q) D7 s:=by
 revert h;intro O;refine a4l O λm d o u J Y h=>?_;clear O;refine y4 J λa l V W=>?_;clear J;subst l;replace B:=U8 B;subst B;refine j5 (R.objs _ _ V) λC F f=>J6 (R.objs _ _ W) λn k Z e r b=>j5 ((b x i).1 u Y) λy j U=>?_;have q:=g.cl _ _ F;exact get_value (R.In g) (a6I f Z) q.ga (a5v q (g.at_ _ _ _ F ha) (v:=y) (by rewrite [a5V e];rw[j];rfl)) (a4M U).1 ⟨u,H,U,.toks R,h⟩
theorem a4A {a:Str} (B:a5X e=true):attributeBase e a lf (eval e lf)=eval e lf:=by
 cases e with
 | Call f args q pos =>
  cases f with
  | Name x p =>
   cases args with
   | nil =>
    cases q with
    | nil=>exact nomatch B
    | cons _ _=>rfl
   | cons _ _=>rfl
  | _=>rfl
 | _=>rfl
theorem b6z {a:Str} {t:Nm} {x:Ev} (g:Gok G c) (W:c8I m c e x) (ht:a08 a=some t) (V:c.attrs.contains a=true) (b:a5X e=true):c8I m c (.Attribute e a pos) (o6 x t):=λA s H r Z Q O R F q=>by
 refine eA (B8 ht) λY B=>?_;subst B;rw[(arm_eval_Attribute ..)];rw[(a4A b)];refine c60 (m3 (W A s H r Z _ O R F q) (λp v f h d J B=>?_));refine c60 (c65 (c60 (c63 (c62 (b5F g J.rel Y V d B) (λu i U=>?_) λ_ _ e=>e))));exact c60 (wpAny_letTemporaryGo (c61 (U.after J)))
theorem a83 {a b:Nat} (h:¬ a=b):Nat.beq a b=false:=by
 cases e:Nat.beq a b with
 | false=>rfl
 | true=>exact c7Y (Nat.eq_of_beq_eq_true e) h
theorem a0Y (x:Nm) (v:f5) (r:List (Nm×f5)):a0l ((x,v) :: r) x=some v:=by
 show (bif Nat.beq x x then some v else a0l r x)=_
 rw[(Nat.beq_refl ..)];rfl
theorem a2i {x y:Nm} (v:f5) (r:List (Nm×f5)) (h:¬ x=y):a0l ((x,v) :: r) y=a0l r y:=by
 show (bif Nat.beq x y then some v else a0l r y)=_
 rw[(a83 h)];rfl
theorem a8D (x:Nm) (v u:f5) (r:List (Nm×f5)):a0H ((x,u) :: r) x v=(x,v) :: r:=by
 show (bif Nat.beq x x then (x,v) :: r else _)=_
 rw[(Nat.beq_refl ..)];rfl
theorem b4s {x y:Nm} (v u:f5) (r:List (Nm×f5)) (h:¬ y=x):a0H ((y,u) :: r) x v=(y,u) :: a0H r x v:=by
 show (bif Nat.beq y x then (x,v) :: r else _)=_
 rw[(a83 h)];rfl
theorem a6Z (x:Nm) (v:f5):∀ (fs:List (Nm×f5)) (y:Nm),a0l (a0H fs x v) y=if y=x then some v else a0l fs y:=by
 intro r;induction r with
 | nil =>
  intro y;by_cases h:y=x
  ·subst h;rw[(c7X rfl)];exact a0Y ..
  ·rw[(c7W h)];exact a2i v [] λe=>h e.symm
 | cons F r B =>
  intro y;obtain ⟨p,u⟩:=F;by_cases q:p=x
  ·subst q;rw[(a8D ..)];by_cases h:y=p
   ·subst h;rw[(c7X rfl)];rw[(a0Y ..)];rfl
   ·rw[(c7W h)];rw[(a2i _ _ λe=>h e.symm)];rw[(a2i _ _ λe=>h e.symm)];rfl
  ·rw[(b4s v u r q)];by_cases h:p=y
   ·subst h;rw[(a0Y ..)];rw[(a0Y ..)];rw[(c7W q)];rfl
   ·rw[(a2i _ _ h)];rw[(a2i _ _ h)];rw[(B y)];rfl
theorem a6Y (x:Nm) (v:f5):∀ (fs:List (Nm×f5)),(a0H fs x v).length=if (a0l fs x).isSome then fs.length else fs.length+1:=by
 intro r;induction r with
 | nil =>
  exact rfl
 | cons F r B =>
  obtain ⟨p,u⟩:=F;by_cases q:p=x
  ·subst q;rw[(a8D ..)];rw[(a0Y ..)];rfl
  ·rw[(b4s v u r q)];rw[(a2i _ _ q)];rw[c72];rw[c72];rw[B]
   split <;> rfl
theorem a9P {es:Array DictEntry} (J:StrKeys es) (x:Str) (O:Int) (t:Tok) (v:Value):∃ es' R,Obj.putName x O (.str x t) v {cls:=.type "dict",data:=.dict es k}={cls:=.type "dict",data:=.dict es' R}/\StrKeys es' /\
  (es'.size=if (nsFind es x).isSome then es.size else es.size+1)/\∀ y,nsFind es' y=if y=x then some v else nsFind es y:=by
 cases q:es.findIdx? (·.key.isStr x) with
 | some i =>
  have F:(nsFind es x).isSome=true:=by
   unfold nsFind;rw[(findBy_of_findIdx? ..)];rw[q];refine j5 (Array.findIdx?_eq_some_iff_getElem.mp q) λB _ _=>?_;simp [Array.getElem?_eq_getElem B]
  refine ⟨_,k,by simp only [Obj.putName_eq,Obj.putNameByArray,q];rfl,J.modify _ _,by rw[(c7X F)];rw[Array.size_modify];rfl,λy=>?_⟩
  exact findBy_modify (λn v=>v.isStr n) Value.isStr_inj es x y v i q
 | none =>
  have F:(nsFind es x).isSome=false:=by
   unfold nsFind;rw[(findBy_of_findIdx? ..)];rw[q];rfl
  refine ⟨_,k+1,by simp only [Obj.putName_eq,Obj.putNameByArray,q];rfl,J.push _ _ _ _,by rw[F];simp,λy=>?_⟩
  exact findBy_push (λn v=>v.isStr n) es x y _ _ v (λy=>by
   show (x==y)=decide (y=x);by_cases h:y=x
   ·subst h;simp
   ·have:¬ x=y:=λe=>h e.symm;simp [h,this]) q
theorem a9U (g:Gok G c) (R:c8J H s.heap) {p q:f5} {Q:Hp->Prop} (D:B1 x=true) (ha:c.attrs.contains x=true) (L:j7 G s.heap p v) (rq:j7 G s.heap q u) (h:a8G p (nm x) q H Q) :
  wpAny c8L A (setAttr v x u) (λ_ s'=>∃ M,c8T S5 H s M s'/\Q M) D7 s:=by
 revert h;intro q4;refine a0M q4 λcn d i q2 hz h=>?_;clear q4;refine y4 q2 λa q3 e1 N=>?_;clear q2;subst q3;replace L:=U8 L;subst L;refine j5 (R.objs _ _ e1) λC S ho=>J6 (R.objs _ _ N) λP k Y T f Z=>?_;have F:=g.cl _ _ S;have X:=R.In g;have I:=a6I ho Y;have ht:takerIn G.K C x=some none:=by unfold takerIn;rw[(g.at_ _ _ _ S ha)];rfl
 refine j5 F.cd λcd hc l=>set_plain X I F.sa (osa_open (s:={s with toks:=s.toks+1}) X I F.plain ht λb=>?_)
 refine c60 (c61 (c60 (c60 (wpAny_loadPart (s:={s with toks:=s.toks+1}) ho (c60 (Looks.here (s:={s with toks:=s.toks+1}) (looks_clsIn X hc) ?_))))))
 rw[l];refine c61 (a:=some d) (c60 (c61 (c60 ?_)));refine c60 (c60 (wpAny_askSetting (c61 (c60 (wpAny_mkText (c60 (wpAny_loadPart (s:={s with toks:=s.toks+1+1}) Y ?_)))))))
 dsimp only;have J:P.any (·.refKey)=false:=by
  refine O0 (Array.any_eq_false' ..) ?_;intro e he;refine eEE (T e he) λn t h=>?_;simp [DictEntry.refKey,h]
 have r:aRefKeyMayBeTheName x P=false:=by
  rw[aRefKeyMayBeTheName_eq];unfold aRefKeyMayBeTheNameByArray;rw[J];rw[(Bool.and_false ..)];rfl
 rw[r];refine J6 (a9P (k:=k) T x (PyData.keyHash w.params x) (s.toks+1) u) λB k' hp o U m=>wpAny_updatePart (s:={s with toks:=s.toks+1+1}) Y ?_
 have O:(s.heap.update d (Obj.putName x (PyData.keyHash w.params x) (.str x (s.toks+1)) u)).get? d=some {cls:=.type "dict",data:=.dict B k'}:=by
  refine w3 hp ?_;exact c7a _ Y (by rw[hp];rfl)
 have z:B.size=(a0H i (nm x) q).length:=by
  rw[U];rw[(a6Y ..)];cases hl:a0l i (nm x) with
  | some v=>refine j5 ((Z x D).1 v hl) λu j _=>?_;rw[j];exact f
  | none=>rw[((Z x D).2 hl)];exact c7o (·+1) f
 have W:=R.update (h':=s.heap.update d (Obj.putName x (PyData.keyHash w.params x) (.str x (s.toks+1)) u)) (mo':=.ns (a0H i (nm x) q)) N (c7b ..) λtup=>⟨B,k',O,o,z,λy E=>?_⟩
 ·refine c60 (wpAny_lookBehind O (pastItsLine_dict (by rw[U];rw[sizeLine_eq];split;exact (by exact c7g (c7z f) (c7g hz (c7d rfl)));exact (by exact c8m (c7g (c7z f) (c7g hz (c7d rfl)))))) ?_)
  exact c61 ⟨_,⟨W.1,W.2,rfl,rfl⟩,h⟩
 ·rw[(a6Z ..)];rw[(m ..)];by_cases e:y=x
  ·subst e;rw[(c7X rfl)];rw[(c7X rfl)];exact ⟨λv V=>⟨u,rfl,c7p V▸rq.mono tup⟩,λV=>A3 V.symm⟩
  ·rw[(c7W e)];rw[(c7W λe'=>e (Q2 E D e'))];exact ⟨λv V=>by refine j5 ((Z y E).1 v V) λu j h2=>?_;exact ⟨u,j,h2.mono tup⟩,(Z y E).2⟩
variable {D:Addr}
theorem V4:∀ {es:List c8H} {l:List Ev},G2 (T3 k c) es=some l->(backTo pos (starEach es lf)).any (·.1)=false:=by
 intro es;induction es with
 | nil=>intro _ _;exact rfl
 | cons e es J =>
  intro l h;refine j9 (A2 h) λx U F B O=>?_;subst O;rw[(R3 λR p q=>by subst q;exact a2a F)]
  show (false||(backTo pos (starEach es lf)).any (·.1))=false
  rw[(J B)];rfl
theorem a6t {f:Value} {args:List (Bool×Sem Value)} {Q:Args->Shared->Prop} (F:args.any (·.1)=false) (h:wpAny c8L A (spliced args) (λvs B=>Q ⟨vs,[]⟩ B) E s) :
  wpAny c8L A (evalArgs f true args []) Q E s:=by
 cases args with
 | nil =>
  exact c60 (c62 h (λvs B q=>c60 (c61 (c63 (c60 (c61 (c60 (c61 (c61 q)))))))) λ_ _ e=>e)
 | cons a rest =>
  obtain ⟨b,x⟩:=a;cases b with
  | true=>cases F
  | false=>exact evalArgs_plain h
theorem S6 {f:Value} {first:List Value} {args:List (Bool×Sem Value)} {Q:Value->Shared->Prop} {P:Heap->Prop} (q:args.any (·.1)=false)
  (F:∀ h,P h->∃ k,(k=Keeper.frame\/k=Keeper.machine\/k=Keeper.boundFrame)/\Looks c8L h (keeperOf f) k)
  (h:wpAny c8L A (spliced args) (λvs B=>P B.heap/\wpAny c8L A (call f (first++vs)) Q D7 B) D7 s):wpAny c8L A (callWith pos f first args []) Q D7 s :=
 callWith_of (P:=P) (by rw[q];rfl) F (a6t q h)
theorem a1S {f:Value} (h:∀ a,f≠.ref a) (q:Heap):∃ k,(k=Keeper.frame\/k=Keeper.machine\/k=Keeper.boundFrame)/\Looks c8L q (keeperOf f) k :=
 ⟨.machine,.inr (.inl rfl),Looks.of_pure (by unfold keeperOf;cases f <;> first | rfl | exact c7Y rfl (h _))⟩
theorem b6B {p pos:Pos} {l:List Ev} (g:Gok G c) (i:c8U) (d:∀ e x,T3 k c e=some x->c8I m c e x) (O:G2 (T3 k c) es=some l) (a:c.kind x=.glob) (t:B1 x=true) (Z:c.fns.contains x=true) (Y:(x==("__debug__":Str))=false) :
  c8I m c (.Call (.Name x p) es [] pos) (A4 (nm x) (a1u l)):=λA s H r h Q J R F q=>by
 refine a1y (g.fn x Z) λ_ f U V W=>wpAny_Call_NameR (wpAny_Name (a4U g R F a V ?_) Y);refine S6 (P:=G.K.In) (V4 O) (keeps_K W) (m3 (a15 d es l O A s H r h pos _ J R F q) (λv us o u ⟨n,_⟩ B j=>⟨B.rel.In g,?_⟩));exact A1 B (i.call J.b B.rel n U j)
theorem b2Z {n:Nat} {cn f:Nm} {vs:List f5} (h:(j3 G.F n).call cn f vs H Q):∃ fd,G.F cn f=some fd:=by
 cases n with
 | zero=>exact h.elim
 | succ n=>refine j5 h λfd e _=>?_;clear h;exact ⟨fd,e⟩
theorem b4A {p pos:Pos} {l:List Ev} (g:Gok G c) (w:c8U) (o:∀ e x,T3 k c e=some x->c8I m c e x) (W:G2 (T3 k c) es=some l) (n:c.kind x=.var) (t:B1 x=true) (j:(x==("__debug__":Str))=false) :
  c8I m c (.Call (.Name x p) es [] pos) (a3w (nm x) (a1u l)):=λA s H r u Q V R F q=>by
 revert q;intro Y;refine j5 Y λf e q=>?_;clear Y;refine wpAny_Call_NameR (wpAny_Name (c62 (a8l (Q:=λv Z=>v=.fn f/\Z=H) R F n t e ⟨rfl,rfl⟩) (λv E z=>?_) λ_ _ e=>e) j);refine J6 z λy d C U h i=>?_;clear z;subst h i;refine j5 (vfn C) λa O J=>?_;subst O;refine S6 (P:=G.K.In) (V4 W) (keeps_K (g.keepf _ _ J)) (m3 (a15 o es l W A E d r u pos _ V U.rel (F.step R U) q) (λM us I L D B O=>⟨B.rel.In g,?_⟩))
 exact A1 (U.trans B) (w.call V.b B.rel D.1 J O)
theorem b6t {cn:Nm} {C:Addr} (R:c8J H h) (J:G.ca cn=some C) :
  let H':=(H.set h.objs.size (.ns [])).set (h.objs.size+1) (.inst cn h.objs.size)
  let F:=(h.push emptyDict).push (instObj C h.objs.size)
  c8J H' F/\Ext S5 H h H' F:=by
 have B:=R.alloc (o:=emptyDict) (mo:=.ns []) ⟨#[],0,c68 _ rfl,λ_ O=>by simp at O,rfl,λx _=>⟨λv U=>A3 U,λ_=>by simp [nsFind,findBy]⟩⟩
 have q:=B.1.alloc (o:=instObj C h.objs.size) (mo:=.inst cn h.objs.size) ⟨C,J,c68 _ rfl⟩;rw [Heap.size_push] at q;exact ⟨q.1,B.2.trans q.2⟩
theorem b2s (C:Addr) (us:List Value):(Code.builtin "type.__call__" ⟨.ref C :: us,[]⟩).weight<=3:=by
 have:(Code.builtin "type.__call__" ⟨.ref C :: us,[]⟩).weight=1:=by rfl
 exact c1d this
theorem b4U (C:Addr) (us:List Value):(Code.builtin "type.__call__" ⟨.ref C :: us,[]⟩).cUnits<=20:=by
 have:(Code.builtin "type.__call__" ⟨.ref C :: us,[]⟩).cUnits=1:=by rfl
 exact c1c this
theorem b86 {p pos:Pos} {l:List Ev} (g:Gok G c) (ok:c8U) (hs:∀ e x,T3 k c e=some x->c8I m c e x) (D:G2 (T3 k c) es=some l) (hk:c.kind x=.glob) (hx:B1 x=true) (hf:c.clss.contains x=true) (hd:(x==("__debug__":Str))=false) :
  c8I m c (.Call (.Name x p) es [] pos) (a6p (nm x) (a1u l)):=λA s H r lf Q W R F q=>by
 refine a1y (g.cls x hf) λ_ C Z N S=>wpAny_Call_NameR (wpAny_Name (a4U g R F hk N ?_) hd);refine S6 (P:=G.K.In) (V4 D) (keeps_K S) (m3 (a15 hs es l D A s H r lf pos _ W R F q) (λvs us U s1 ⟨r1,_⟩ J Y=>⟨J.rel.In g,?_⟩));have f:=g.cl _ _ Z;have X:=J.rel.In g;obtain ⟨h,B,w,t,E⟩:=s1;have a:U h.objs.size=none:=J.rel.fresh;have b:U (h.objs.size+1)=none:=by
  cases q:U (h.objs.size+1) with
  | none=>rfl
  | some mo=>have:=J.rel.lt q;exact c7Y this (by show ¬ h.objs.size+1 < h.objs.size;exact Nat.not_succ_lt_self)
 have Y:=Y (h.objs.size+1) h.objs.size b a (c02);refine eE (b2Z Y) λfd i=>?_;have V:B1 ("__init__":Str)=true:=by decide +kernel
 refine y4 (g.me (nm x) C ("__init__":Str) fd Z V i) λT g1 g2 g3=>?_;have I:=b6t J.rel Z;have O:c8T S5 U ⟨h,B,w,t,E⟩ ((U.set h.objs.size (.ns [])).set (h.objs.size+1) (.inst (nm x) h.objs.size)) ⟨(h.push emptyDict).push (instObj C h.objs.size),B,w,t,E⟩:=⟨I.1,I.2,rfl,rfl⟩;refine wpAny_call (make_core (makes_of X f.makes) (looks_findIn X g2) (λself=>bind_fn X self g3) (.inl rfl) ?_)
 have wt:=b2s C ([]++us);have ut:=b4U C ([]++us);have M:BOk n (A.under (.builtin "type.__call__" ⟨.ref C :: ([]++us),[]⟩)):=⟨W.h,by have:=W.d;show A.depth+_+_+_<=_;exact c3W wt this,by have:=W.u;show A.units+_+_+_<=_;exact c4D ut this⟩
 refine codeAny_mono (ok _ _ _ (nm x) (nm "__init__") T (.ref (h.objs.size+1) :: vs) (.ref (h.objs.size+1) :: us) _ M O.rel (.cons .ref (O.vreps J.rel r1)) g1 Y) (λr s' z=>?_);rcases r with e | (v | _ | _ | _) <;> first | exact z.elim | skip
 refine J6 z λy L j o q3 qq=>?_;clear z;subst q3;replace j:=b5e j;exact ⟨j,.ref _,L,.ref,J.trans (O.trans o),qq⟩
section
open Classical
noncomputable def b31 (m:LM):String:=match m with
 | .append=>"list.append" | .extend=>"list.extend" | .pop=>"list.pop" | .index=>"list.index"
noncomputable def b28 (m:DM):String:=match m with
 | .get=>"dict.get" | .setdefault=>"dict.setdefault" | .pop=>"dict.pop"
theorem a9t (h:s.heap.get? a=some {cls:=.type "list",data:=.seq vs k}):s.TypeIs (.ref a) "list":=⟨_,h,rfl⟩
noncomputable def isI (i:Int):Value->Bool
 | .int b _=>b==i
 | _=>false
theorem a8i {N:LM} {vs:List f5} {us:List Value} (al:AOk n m A) (R:c8J H s.heap) (e:H a=some (.list xs)) (O:m4 G s.heap vs us) (h:a8h a xs N vs H Q) :
  wpAny c8L A (call (.builtin (b31 N)) (.ref a :: us)) (Got G w (j7 G) H s Q) D7 s:=by
 refine A6 (R.objs _ _ e) λq k W r=>?_;have p:=a9t W;have J:xs.length=q.size:=by rw[r.length];rw[c7K];rfl
 have hu:A.units+65 < cLine:=by have:=al.units;exact b5n this
 cases N
 ·revert h;intro q4;refine y4 q4 λv q3 B h=>?_;clear q4;subst q3;replace O:=F9 O;revert O;intro g;refine j9 g λu a1 q9 O hh=>?_;clear g;subst q9;subst hh;have B:q.size<=sizeLine:=by refine w3 J ?_;rw[sizeLine_eq];unfold o9 at B;exact c7g B (c7d rfl)
  refine call_meets PySem.F.slot_list_append p PySem.F.entry_list_append (PySem.F.args_list_append_2 _ _) (list_append a q k u B) ⟨W,?_⟩;have:=R.update (h':=s.heap.update a (Obj.mapSeq λx=>x.push u)) (mo':=.list (xs++[v])) e (c7b ..) λtup=>⟨q.push u,_,IsL.update W _,by rw[Array.toList_push];exact (r.mono tup).append (.cons (O.mono tup) .nil)⟩
  exact ⟨.none,_,.none,⟨this.1,this.2,rfl,rfl⟩,h⟩
 ·revert h;intro o;refine B0 o λb ys a0 d e2 f h=>?_;clear o;subst a0;replace O:=F9 O;refine j9 O λu a1 P S T=>?_;clear O;subst P;subst S;subst T;refine A6 (R.objs _ _ e2) λU k2 K C=>?_;have n2:ys.length=U.size:=by rw[C.length];rw[c7K];rfl
  have B:q.size+U.size<=sizeLine:=by refine w3 J ?_;refine w3 n2 ?_;rw[sizeLine_eq];unfold o9 at f;exact c7g f (c7d rfl)
  refine call_meets PySem.F.slot_list_extend p PySem.F.entry_list_extend (PySem.F.args_list_extend_2 _ _) (AutoSeq1.list_extend_list_list_0 a q k b U k2 (by simp [Builtin.List.listTooLong];omega) (by exact Nat.le_of_add_right_le B) (by exact Nat.le_add_right_of_le B)) ⟨W,K,?_⟩
  have:=R.update (h':=s.heap.update a (Obj.mapSeq λx=>x++U)) (mo':=.list (xs++ys)) e (c7b ..) λtup=>⟨q++U,_,IsL.update W _,by rw[Array.toList_append];exact (r.mono tup).append (C.mono tup)⟩
  exact ⟨.none,_,.none,⟨this.1,this.2,rfl,rfl⟩,h⟩
 ·revert h;intro q8;refine N1 q8 λv q7 B L h=>?_;clear q8;subst q7;replace O:=a1a O;subst O
  ·have d:xs≠[]:=by rintro rfl;simp at L
   have c:0 < xs.length:=List.length_pos_iff.mpr d;rw [List.getLast?_eq_getElem?] at L;refine j5 (r.get _ L) λu Z E=>?_;rw [J,Array.getElem?_toList] at Z;refine call_meets PySem.F.slot_list_pop p PySem.F.entry_list_pop (PySem.F.args_list_pop_1 _) (list_pop_last a q k u Z (by refine w3 J ?_;rw[sizeLine_eq];unfold o9 at B;exact c7g B (c7d rfl))) ⟨W,?_⟩
   have:=R.update (h':=s.heap.update a (Obj.mapSeq λxs=>xs.eraseIdxIfInBounds (q.size - 1))) (mo':=.list xs.dropLast) e (c7b ..) λtup=>⟨q.eraseIdxIfInBounds (q.size - 1),_,IsL.update W _,?_⟩
   ·exact ⟨v,_,this.2.vrep R .no E,⟨this.1,this.2,rfl,rfl⟩,h⟩
   ·have e3:(q.eraseIdxIfInBounds (q.size - 1)).toList=q.toList.take (q.size - 1):=by
     obtain ⟨l⟩:=q;have hl:l.length - 1 < l.length:=by simp at J;exact Nat.sub_lt (J▸c) (c7S 0)
     simp [List.eraseIdx_eq_take_drop_succ,List.drop_eq_nil_of_le];exact Nat.sub_le_iff_le_add.mp (c7l _)
    rw[e3];rw[List.dropLast_eq_take];rw[J];exact (r.mono tup).take _
 ·obtain ⟨l,i,j,rfl,rfl,B,hj,hn,h⟩:=h;refine j9 (F9 O) λu _ X r1 C=>?_;subst X;cases a1a C;refine eE (J0 r1) λt q1=>?_;subst q1;rw [List.length_map] at J;have Y:∀ k,(V:k < q.size)->∃ b t,l[k]?=some b/\q[k]=.int b t:=λk V=>by
   refine j5 (r.get k (x:=.int (l[k]'(J▸V))) (by rw[c7m];rw[(c7h (J▸V))];rfl)) λy Z E=>?_
   refine eE (J0 E) λt q2=>?_;subst q2;rw [Array.getElem?_toList,Array.getElem?_eq_getElem V] at Z;exact ⟨_,t,c7h (J▸V),c7p Z⟩
  have is:∀ b t,isI i (.int b t)=(b==i):=λ_ _=>rfl;have M:j < q.size:=J▸(c8r hj).1;refine call_meets PySem.F.slot_list_index p PySem.F.entry_list_index (PySem.F.args_list_index_2 _ _) (list_index a q k (.int i t) (isI i) (λy hy=>?_) j M (by unfold o9 at B;exact c3R J B M) ?_ λk V I=>?_) ⟨W,.int j,H,.int,.toks R,h⟩
  ·obtain ⟨k,V,rfl⟩:=Array.mem_iff_getElem.mp hy;refine A6 (Y k V) λb t' _ e=>?_;rw[e];exact EqGives.int _ _ _ _
  ·refine A6 (Y j M) λb t' D e=>?_;rw[e];rw[(is ..)];exact beq_iff_eq.mpr (c7p (D.symm.trans hj))
  ·refine A6 (Y k V) λb t' D e=>?_;rw[e];rw[(is ..)];exact beq_eq_false_iff_ne.mpr λz=>hn k I (z▸D)
theorem a7K {es:List (f5×f5)} {T:Nat} {r:DM} {vs:List f5} {us:List Value} (g:Gk G) (al:AOk n m A) (R:c8J H s.heap) (e:H a=some (.dict es T)) (B:m4 G s.heap vs us) (h:a7J a es T r vs H Q) :
  wpAny c8L A (call (.builtin (b28 r)) (.ref a :: us)) (Got G w (j7 G) H s Q) D7 s:=by
 have V:=W5 R e;have X:=R.sysm g e;have f:A.units+1+64 < cLine:=by have:=al.units;exact c1X this
 cases r
 ·revert h;intro q6;refine j9 q6 λk d q5 U h=>?_;clear q6;subst q5;replace B:=F9 B;refine a3y B λu b D W l S E j I=>?_;clear B;subst D;subst E;subst I;refine c64 PySem.F.slot_dict_get V PySem.F.entry_dict_get ?_ (PySem.F.args_dict_get_3 _ _ _);refine c60 (c60 (wpAny_notOrdered_dict V ?_));refine c61 (c60 (a3u f R e U W (λo=>?_) (λy P O J=>?_)))
  ·refine c60 (wpAny_missed_other X (c61 ⟨l,rfl,d,H,j,.toks R,?_⟩));rwa [o] at h
  ·refine c61 ⟨P,rfl,y,H,J,.toks R,?_⟩;rwa [O] at h
 ·refine B0 h λk d C U c h3 h4=>?_;clear h;subst C;replace B:=F9 B;refine a3y B λu b K W l S L j M=>?_;clear B;subst K;subst L;subst M;refine c64 PySem.F.slot_dict_setdefault V PySem.F.entry_dict_setdefault ?_ (PySem.F.args_dict_setdefault_3 _ _ _);refine c60 (c60 (wpAny_notOrdered_dict V ?_));refine c61 ?_;show wpAny _ _ (if (a==sysModules)=true then _ else (dictSetDefault a u l>>=_)) _ _ s
  refine b9 (c7W (by rw[X];exact c7u)) ?_
  refine c60 (a3v f R e U W j c (λy P N O J q=>c61 ⟨P,rfl,y,H,q.vrep R J,q,?_⟩) (λN o q=>c61 ⟨l,rfl,d,_,q.vrep R j,q,?_⟩))
  ·exact h3 _ O
  ·exact h4 o
 ·revert h;intro Z;refine B0 Z λk y z U c O h=>?_;clear Z;subst z;replace B:=F9 B;refine j9 B λu b v W x=>?_;clear B;subst v;subst x
  ·refine c64 PySem.F.slot_dict_pop V PySem.F.entry_dict_pop ?_ (PySem.F.args_dict_pop_2 _ _);refine c60 (c60 (wpAny_notOrdered_dict V ?_));refine c61 (a1x (R.objs _ _ e) λnd ok Y ho he=>?_);have p:Y.isEmpty=false:=by
    refine eE (b1k O) λi hi=>?_;have:0 < es.length:=by
     have:=(c8r hi).1;exact Nat.zero_lt_of_lt this
    rw [he.length,Array.length_toList] at this;refine O0 (Array.isEmpty_eq_false_iff ..) ?_;intro e;rw [e] at this;simp at this
   cases hk:(keyPart u).isSome with
   | true =>
    simp only [hk,if_true];refine c60 (c61 ?_);refine c60 (a57 f R e U W c O λen N J q=>?_)
    first
     | exact c60 (wpAny_letGo (c61 ⟨_,rfl,y,_,J.mono λ_ _ t=>q.ext.tup R .no t,q,h⟩))
     | exact c60 (c61 (c60 (wpAny_letGo (c61 ⟨_,rfl,y,_,J.mono λ_ _ t=>q.ext.tup R .no t,q,h⟩))))
   | false =>
    simp only [hk,Bool.false_eq_true,if_false];refine c60 (wpAny_dictEntries ho rfl (c60 (c61 ?_)));rw[p];refine c60 (a57 f R e U W c O λen N J q=>?_)
    first
     | exact c60 (wpAny_letGo (c61 ⟨_,rfl,y,_,J.mono λ_ _ t=>q.ext.tup R .no t,q,h⟩))
     | exact c60 (c61 (c60 (wpAny_letGo (c61 ⟨_,rfl,y,_,J.mono λ_ _ t=>q.ext.tup R .no t,q,h⟩))))
end
theorem b4j:∀ c,c < 123->97<=c->PySem.Unicode.isSpace c=false:=by decide +kernel
section
section
open Classical
variable {Q:Value×List Value->Shared->Prop}{M:Model}{pl:Sem Bool}
theorem c6a {z:Str} {t:Tok}:∀ a,Value.str z t=.ref a->∃ o,s.heap.get? a=some o/\o.dict=none:=by
 intro a e;exact c7Y e (by intro h;injection h)
theorem c6b {z:Str} {t:Tok}:s.TypeIs (.str z t) "str":=typeIs_str s z t
theorem a9q {z:Str} {t:Tok} (h:Q (.builtin "str.isspace",[.str z t]) s):wpAny M A (getMethod (.str z t) (Str.ofString "isspace") pl) Q E s :=
 getMethod_builtin (T:="str") (id:="str.isspace") (name:=Str.ofString "isspace") c6b PySem.F.plainAttrs_str PySem.F.slot_str_isspace PySem.F.type_str_isspace c6a h
theorem b1y (q:s.heap.get? a=some o) (B:o.cls=.type "list") (J:o.dict=none) (h:Q (.builtin "list.append",[.ref a]) s):wpAny M A (getMethod (.ref a) (Str.ofString "append") pl) Q E s :=
 getMethod_builtin ⟨o,q,B⟩ PySem.F.plainAttrs_list PySem.F.slot_list_append PySem.F.type_list_append (λb e=>by injection e with e;subst e;exact ⟨o,q,J⟩) h
theorem b1z (q:s.heap.get? a=some o) (B:o.cls=.type "list") (J:o.dict=none) (h:Q (.builtin "list.extend",[.ref a]) s):wpAny M A (getMethod (.ref a) (Str.ofString "extend") pl) Q E s :=
 getMethod_builtin ⟨o,q,B⟩ PySem.F.plainAttrs_list PySem.F.slot_list_extend PySem.F.type_list_extend (λb e=>by injection e with e;subst e;exact ⟨o,q,J⟩) h
theorem b5Z (q:s.heap.get? a=some o) (B:o.cls=.type "list") (J:o.dict=none) (h:Q (.builtin "list.pop",[.ref a]) s):wpAny M A (getMethod (.ref a) (Str.ofString "pop") pl) Q E s :=
 getMethod_builtin ⟨o,q,B⟩ PySem.F.plainAttrs_list PySem.F.slot_list_pop PySem.F.type_list_pop (λb e=>by injection e with e;subst e;exact ⟨o,q,J⟩) h
theorem b3s (q:s.heap.get? a=some o) (B:o.cls=.type "list") (J:o.dict=none) (h:Q (.builtin "list.index",[.ref a]) s):wpAny M A (getMethod (.ref a) (Str.ofString "index") pl) Q E s :=
 getMethod_builtin ⟨o,q,B⟩ PySem.F.plainAttrs_list PySem.F.slot_list_index PySem.F.type_list_index (λb e=>by injection e with e;subst e;exact ⟨o,q,J⟩) h
theorem b8t (q:s.heap.get? a=some o) (B:o.cls=.type "dict") (J:o.dict=none) (h:Q (.builtin "dict.get",[.ref a]) s):wpAny M A (getMethod (.ref a) (Str.ofString "get") pl) Q E s :=
 getMethod_builtin ⟨o,q,B⟩ PySem.F.plainAttrs_dict PySem.F.slot_dict_get PySem.F.type_dict_get (λb e=>by injection e with e;subst e;exact ⟨o,q,J⟩) h
theorem a5w (q:s.heap.get? a=some o) (B:o.cls=.type "dict") (J:o.dict=none) (h:Q (.builtin "dict.setdefault",[.ref a]) s):wpAny M A (getMethod (.ref a) (Str.ofString "setdefault") pl) Q E s :=
 getMethod_builtin ⟨o,q,B⟩ PySem.F.plainAttrs_dict PySem.F.slot_dict_setdefault PySem.F.type_dict_setdefault (λb e=>by injection e with e;subst e;exact ⟨o,q,J⟩) h
theorem b5Y (q:s.heap.get? a=some o) (B:o.cls=.type "dict") (J:o.dict=none) (h:Q (.builtin "dict.pop",[.ref a]) s):wpAny M A (getMethod (.ref a) (Str.ofString "pop") pl) Q E s :=
 getMethod_builtin ⟨o,q,B⟩ PySem.F.plainAttrs_dict PySem.F.slot_dict_pop PySem.F.type_dict_pop (λb e=>by injection e with e;subst e;exact ⟨o,q,J⟩) h
theorem a1U {α β:Type} {f:α->Option β}:∀ {es:List α} {l:List β},G2 f es=some l->es.length=l.length:=by
 intro es;induction es with
 | nil=>intro l h;have J:=E0 h;clear h;subst J;rfl
 | cons e es F =>
  intro l h;refine j9 (A2 h) λx R O B q=>?_;subst q;rw[c72];rw[c72];rw[(F B)];rfl
end
end
section
open Classical
variable {Q:Value->Shared->Prop}
theorem a4g:∀ {es:List c8H} {l:List Ev},G2 (T3 k c) es=some l->(backTo pos (starEach es lf)).all (!·.1)=true:=by
 intro es;induction es with
 | nil=>intro _ _;exact rfl
 | cons e es O =>
  intro l h;refine j9 (A2 h) λx U J F q=>?_;subst q;rw[(R3 λR p B=>by subst B;exact a2a J)]
  show (true&&(backTo pos (starEach es lf)).all (!·.1))=true;rw[(O F)];rfl
theorem a8r {o:c8H} {q pos:Pos} {l:List Ev} (O:G2 (T3 k c) es=some l) (hz:l.length<=15) (Z:a5X o=true) (V:(q.endLine==pos.line)=true)
  (h:wpAny c8L A (eval o lf) (λov R=>∀ pl,wpAny c8L A (getMethod ov x pl) (λfx U=>wpAny c8L A (callWith pos fx.1 fx.2 (backTo pos (starEach es lf)) []) Q E U) E R) E s) :
  wpAny c8L A (eval (.Call (.Attribute o x q) es [] pos) lf) Q E s:=by
 rw[(arm_eval_Call ..)];rw[(a4A Z)];refine c60 (c62 h (λov R W=>c60 (c65 ?_)) λ_ _ e=>e);have J:es.length=l.length:=a1U O;have B:methodCallForm (es.length+([]:List Keyword).length) (backTo pos (starEach es lf)) (backToKw pos (keywordEach [] lf))=true:=by
  unfold methodCallForm;rw[(a4g O)];show (true&&true&&decide (es.length+0+0 < 30))=true;simp;exact c2S hz J
 have F:methodCallPos true o lf q pos=pure pos:=by unfold methodCallPos;(rewrite [if_pos];try rfl);simpa using V
 unfold methodCall;rw[B];refine c60 (c63 (c62 (W _) (λfx U Y=>?_) λ_ _ e=>e));exact c60 (wpAny_of_eq F Y)
noncomputable def b9S (lc:Program) (w:World) (G:Gi) (n:Nat) (A:Around) (lf:Env) (r:En) (H H1:Hp) (s s1:Shared) (Q:f5->Hp->Prop) (l:List Ev) (es:List c8H) (pos:Pos) (p:f5) (v:Value):Prop :=
 ∀ (f:Value) (P:Hp->List f5->(f5->Hp->Prop)->Prop),(∀ h,G.K.In h->∃ k,(k=Keeper.frame\/k=Keeper.machine\/k=Keeper.boundFrame)/\Looks (model lc w) h (keeperOf f) k) ->
   ((a1u l) (j3 G.F n) r H1 λvs H2=>P H2 vs Q) ->
   (∀ s2 H2 vs us,A7 G w H2 s2.heap->m4 G s2.heap vs us->j7 G s2.heap p v->P H2 vs Q->wpAny (model lc w) A (call f (v :: us)) (Got G w (j7 G) H2 s2 Q) D7 s2) ->
   wpAny (model lc w) A (callWith pos f [v] (backTo pos (starEach es lf)) []) (Got G w (j7 G) H s Q) D7 s1
theorem b6E {o:c8H} {t:Nm} {D pos:Pos} {l:List Ev} (g:Gok G c) (ok:c8U) (ho:c8I m c o y) (hs:∀ e x,T3 k c e=some x->c8I m c e x) (hl:G2 (T3 k c) es=some l)
  (ht:a08 x=some t) (hz:l.length<=15) (ns:a5X o=true) (hp:(D.endLine==pos.line)=true):c8I m c (.Call (.Attribute o x D) es [] pos) (i8 y t (a1u l)):=λA s H r lf Q al R F q=>by
 refine eA (B8 ht) λhx q7=>?_;subst q7;refine a8r hl hz ns hp (m3 (ho A s H r lf _ al R F q) (λp v H1 I V j T=>λpl=>?_));have args:b9S lc w G n A lf r H H1 s I Q l es pos p v:=by
  intro f P Z h1 h2;refine S6 (P:=G.K.In) (V4 hl) Z (m3 (a15 hs es l hl A I H1 r lf pos _ al j.rel (F.step R j) h1) (λW us U S ⟨r2,_⟩ u q2=>⟨u.rel.In g,?_⟩));exact A1 (j.trans u) (h2 S U W us u.rel r2 (u.vrep j.rel V) q2)
 revert T;intro q4;refine j5 q4 λk Z T=>?_;clear q4;cases k with
 | str =>
  refine eA Z λq5 E=>?_;clear Z;refine eE q5 λz q6=>?_;clear q5;subst q6;have O:x=("isspace":Str):=Q2 hx (by decide +kernel) (E.trans (by decide +kernel))
  replace V:=a1w V;refine eE V λtk q3=>?_;clear V;subst q3;subst O;refine a9q (args (.builtin "str.isspace") (λU W Q=>N5 c8Q .str (.str z) (nm "isspace") W U Q) (λh _=>a1S (λa=>by intro e;cases e) h) T λS U W us L i _ h=>?_)
  revert h;intro a6;refine N1 a6 λz' b0 b4 a5 h=>?_;clear a6;subst b4;refine y4 a5 λch c1 c2 b5=>?_;clear a5;subst b5;cases b0;replace i:=a1a i;subst i;refine call_gives PySem.F.slot_str_isspace (typeIs_str _ _ _) PySem.F.entry_str_isspace (PySem.F.args_str_isspace_1 _) (gives_str_isspace _ _) ?_;have M:Str.ofString (String.singleton ch)=⟨#[ch.toNat]⟩:=by rw[(t4 ..)];simp
  rw[M];have e3:((⟨#[ch.toNat]⟩:Str).length > 0&&(#[ch.toNat]:Array Nat).all Unicode.isSpace)=false:=by
   simp [b4j _ (show ch.toNat < 123 by exact Nat.lt_succ_of_le c2) c1]
  show Got G w (j7 G) U S Q (.bool _) S;rw[e3];exact ⟨.bool false,U,.bool,.refl L,h⟩
 | inst cn =>
  refine j9 Z λd fs a4 a9 E=>?_;clear Z;refine y4 a4 λa b3 O M=>?_;clear a4;subst b3;replace V:=U8 V;subst V;refine j5 (j.rel.objs _ _ O) λC hC B=>J6 (j.rel.objs _ _ M) λb6 z hd a8 sz hf=>?_;have a0:=g.cl _ _ hC;have X:=j.rel.In g;rw [a5I] at E;refine eE (c8y E) λfd a1=>y4 (g.me cn C x fd hC hx a1) λf g1 g2 g3=>?_
  have g4:keepIn G.K (.ref f)=true:=by
   refine y4 (g.fun_ _ _ _ a1) λf' h1 _ h3=>?_;rw [g1] at h1;have q2:=E0 h1;clear h1;subst q2;exact h3
  refine method_fn X (a6I B hd) a0.ga a0.gaa g2 g3 (by show (lookIn x _).map _=_;rewrite [a5V a8];rw[((hf x hx).2 a9)];rfl) ?_
  exact args (.ref f) (λU W Q=>N5 c8Q (.inst cn) (.ref a) (nm x) W U Q) (keeps_K g4) T λS U W us L i rr h=>ok.call al.b L (.cons rr i) g1 h
 | lst Y =>
  refine eA Z λa2 E=>?_;clear Z;refine A6 a2 λa xs b1 O=>?_;clear a2;subst b1;replace V:=U8 V;subst V;refine A6 (j.rel.objs _ _ O) λws z B r'=>?_;have J:(∀ pl Q,Q (Value.builtin (b31 Y),[Value.ref a]) I->wpAny c8L A (getMethod (.ref a) x pl) Q D7 I) ->
    wpAny c8L A (getMethod (.ref a) x pl) (λfx s₂=>wpAny c8L A (callWith pos fx.1 fx.2 (backTo pos (starEach es lf)) []) (Got G w (j7 G) H s Q) D7 s₂) D7 I:=by
   intro gm;refine gm _ _ (args (.builtin (b31 Y)) (λU W Q=>N5 c8Q (.lst Y) (.ref a) (nm x) W U Q) (λh _=>a1S (λa=>by intro e;cases e) h) T λS U W us L i _ h=>?_)
   revert h;intro q8;refine j9 q8 λa' ys N M h=>?_;clear q8;cases N;exact a8i al L M i h
  refine J λpl Q q=>?_;clear J args;have O:∀ y:Str,B1 y=true->lmN Y=nm y->x=y:=λy hy e=>Q2 hx hy (E.trans e);cases Y
  ·rw[(O ("append":Str) (by decide +kernel) (by decide +kernel))];exact b1y B rfl rfl q
  ·rw[(O ("extend":Str) (by decide +kernel) (by decide +kernel))];exact b1z B rfl rfl q
  ·rw[(O ("pop":Str) (by decide +kernel) (by decide +kernel))];exact b5Z B rfl rfl q
  ·rw[(O ("index":Str) (by decide +kernel) (by decide +kernel))];exact b3s B rfl rfl q
 | dct Y =>
  refine eA Z λa3 E=>?_;clear Z;refine a5M a3 λa b8 ep b2 O=>?_;clear a3;subst b2;replace V:=U8 V;subst V;refine a1x (j.rel.objs _ _ O) λ_ _ a7 B r'=>?_;have J:(∀ pl Q,Q (Value.builtin (b28 Y),[Value.ref a]) I->wpAny c8L A (getMethod (.ref a) x pl) Q D7 I) ->
    wpAny c8L A (getMethod (.ref a) x pl) (λfx s₂=>wpAny c8L A (callWith pos fx.1 fx.2 (backTo pos (starEach es lf)) []) (Got G w (j7 G) H s Q) D7 s₂) D7 I:=by
   intro gm;refine gm _ _ (args (.builtin (b28 Y)) (λU W Q=>N5 c8Q (.dct Y) (.ref a) (nm x) W U Q) (λh _=>a1S (λa=>by intro e;cases e) h) T λS U W us L i _ h=>?_)
   revert h;intro q9;refine a0M q9 λa' ys b7 N M h=>?_;clear q9;cases N;exact a7K g.toGk al L M i h
  refine J λpl Q q=>?_;clear J args;have O:∀ y:Str,B1 y=true->dmN Y=nm y->x=y:=λy hy e=>Q2 hx hy (E.trans e);cases Y
  ·rw[(O ("get":Str) (by decide +kernel) (by decide +kernel))];exact b8t B rfl rfl q
  ·rw[(O ("setdefault":Str) (by decide +kernel) (by decide +kernel))];exact a5w B rfl rfl q
  ·rw[(O ("pop":Str) (by decide +kernel) (by decide +kernel))];exact b5Y B rfl rfl q
end
section
open Classical
open Classical
variable {Q:Value->Shared->Prop}{wr:List Addr}
theorem a3j {h':Heap} (R:c8J H s.heap) (own:∀ b∈wr,H b=none/\G.base b=none) (f:∀ b∈wr,∃ o,s.heap.get? b=some o/\K6 o) (F:∀ b o,b∉wr->s.heap.get? b=some o->h'.get? b=some o) :
  c8T (·∈wr) H s H {s with heap:=h',toks:=t}:=by
 have tup:∀ b O,IsTup s.heap b O->IsTup h' b O:=λb O V=>by refine P7 V λo J Z n U=>?_;clear V;exact ⟨o,F b o (λB=>by
  refine j5 (f b B) λi q c=>?_;rw [J] at q;have h:=E0 q;clear q;subst h;exact c _ _ U) J,Z,n,U⟩
 refine ⟨⟨λa o e=>?_,λa d e=>?_⟩,⟨λa o e _ g=>F a o g e,λ_ e=>.inl e,λ_ e=>e,λa e g=>?_⟩,rfl,rfl⟩
 ·exact eA (R.base a o e) λW Y=>⟨F a o (λB=>by rw [(own a B).2] at e;cases e) W,Y⟩
 ·exact (R.objs a d e).mono tup λo J=>F a o (λB=>by rw [(own a B).1] at e;cases e) J
 ·refine eE (c8y e) λo e=>?_;rw[(F a o g e)];rfl
noncomputable def a6J (e:c8H):Bool:=PySem.W.isTupleDisplay e
theorem ni {b I:Addr} (h:b∉[I]):b≠I:=λe=>h (e▸c8B rfl)
structure a0h (lc:Program) (w:World) (G:Gi) (I:Addr) (wr:List Addr) (src:Src) (tupOnly:Bool) (St:Nat->Heap->Prop):Prop where
 mem:I∈wr
 frame:∀ i h h',St i h->(∀ b∈wr,∀ o,h.get? b=some o->h'.get? b=some o)->(∀ a vs,IsTup h a vs->IsTup h' a vs)->St i h'
 nons:∀ i h,St i h->∀ b∈wr,∃ o,h.get? b=some o/\K6 o
 self:∀ (A:Around) (i:Nat) (s:Shared) (Q:Value->Shared->Prop),St i s.heap->Q (.ref I) s->wpAny (model lc w) A (pyIter (.ref I)) Q D7 s
 next:∀ (A:Around) (i:Nat) (s:Shared) (H:Hp) (r:Option f5),A.handled=none->A7 G w H s.heap->St i s.heap->(∀ b∈wr,H b=none/\G.base b=none)->src.next H i r ->
  wpAny (model lc w) A (pyNext (.ref I)) (λo s'=>match r with
   | none=>o=none/\n7 G w (·∈wr) H s H s'
   | some v=>∃ u,o=some u/\j7 G s'.heap v u/\n7 G w (·∈wr) H s H s'/\(tupOnly=false->St (i+1) s'.heap)/\(∀ b∈wr,∃ o,s'.heap.get? b=some o/\K6 o)/\∀ (target:c8H) (Q:Unit->Shared->Prop),(tupOnly=true->a6J target=true) ->
     (∀ s'',n7 G w (·∈wr) H s' H s''->St (i+1) s''.heap->Q () s'')->wpAny (model lc w) A (letOwnedTupleGo target (.ref I) u) Q D7 s') D7 s
abbrev c8W:=a0h lc w G
theorem a12 (F:h.get? I=some o) (B:K6 o):∀ b∈[I],∃ o,h.get? b=some o/\K6 o:=λb q=>by
 simp only [List.mem_singleton] at q;subst q;exact ⟨o,F,B⟩
theorem G8 (q:o.data=.fields vs):K6 o:=λB n e=>by rw [q] at e;cases e
theorem W7 {q:c8H} {T:String} {Q:Unit->Shared->Prop} (O:s.heap.get? I=some o) (F:o.cls=.type T)
  (J:["enumerate","zip","dict_itemiterator","dict_reverseitemiterator","odict_iterator","itertools.zip_longest","itertools.pairwise"].contains T=false) (h:Q () s):wpAny c8L A (letOwnedTupleGo q (.ref I) u) Q D7 s:=by
 obtain ⟨c,R,B,U⟩:=o;cases F;cases q <;> first | exact c61 h | skip
 all_goals
  cases u <;> first | exact c61 h | skip
  refine c60 (wpAny_load O ?_);cases B <;> first | exact c61 h | skip
  show wpAny _ _ (if (List.contains _ T&&_)=true then _ else pure ()) Q D7 s
  rw[J];rw[(Bool.false_and ..)];exact c61 h
theorem b3G (L:a≠I):c8W I [I] (.lst a) false (λi h=>h.IsListIter I a i) where
 mem:=by simp
 frame:=λ_ _ _ F K _=>F.at λo e=>K I (by simp) o e
 nons:=λi h y b O=>by
  refine y4 y λo B _ U=>?_;clear y;simp only [List.mem_singleton] at O;subst O;exact ⟨o,B,λW n e=>by rw [U] at e;cases e⟩
 self:=λ_ _ _ _ F h=>wpAny_pyIter_listiter F h
 next:=λA i s H r G R F V e=>by
  have j:∀ b∈[I],∃ o,s.heap.get? b=some o/\K6 o:=by refine y4 F λo B _ U=>?_;clear F;exact a12 B (G8 U)
  refine j5 e λw Z T=>?_;clear e;subst T
  ·refine A6 (R.objs _ _ Z) λW k B v=>?_;have p:s.heap.IsList a W:=⟨_,B,rfl,_,rfl⟩;have P:w.length=W.size:=by rw[v.length];rw[c7K];rfl
   cases g:w[i]? with
   | none =>
    refine wpAny_pyNext_list_end G F p ?_ λl E=>⟨rfl,a3j R V j λb o O e=>E b o (ni O) e⟩;refine O0 (Array.getElem?_eq_none_iff ..) ?_;rw [List.getElem?_eq_none_iff] at g;exact le_of_eq_of_le (id (Eq.symm P)) g
   | some x =>
    refine j5 (v.get i g) λu m D=>?_;rw [Array.getElem?_toList] at m;refine wpAny_pyNext_list_item F p m λl q N=>?_;have J:c8T (·∈[I]) H s H {s with heap:=l}:=a3j R V j λb o O e=>N.extBut b o (ni O) e
    refine ⟨u,rfl,D.mono λb W t=>?_,J,λ_=>q,by refine y4 q λo B _ U=>?_;clear q;exact a12 B (G8 U),λY Q _ M=>?_⟩
    ·refine J.ext.tup R (λc o W n f Z _ z=>?_) t;refine j5 (j c f) λX d C=>?_;rw [Z] at d;have S:=E0 d;clear d;subst S;exact C _ _ z
    ·exact y4 (id q) λo B f U=>W7 B f (by decide) (M _ (.refl J.rel) q)
theorem b1E {I t:Addr} {vs:List Value}:c8W I [I] (.seq l) false (λi h=>h.IsTupleIter I t i/\IsTup h t vs.toArray/\m4 G h l vs) where
 mem:=by simp
 frame:=λ_ _ _ F E ht=>⟨F.1.at λo e=>E I (by simp) o e,ht _ _ F.2.1,F.2.2.mono ht⟩
 nons:=λi h m b U=>by
  refine eA m λk _=>?_;clear m;refine y4 k λo J _ V=>?_;clear k;simp only [List.mem_singleton] at U;subst U;exact ⟨o,J,λvs n e=>by rw [V] at e;cases e⟩
 self:=λ_ _ _ _ F h=>wpAny_pyIter_tupleiter F.1 h
 next:=λA i s H r D R F W e=>by
  refine eAA F λB ht Y=>?_;clear F;have g:∀ b∈[I],∃ o,s.heap.get? b=some o/\K6 o:=by refine y4 B λo J _ V=>?_;clear B;exact a12 J (G8 V)
  cases (show r=_ from e);cases j:l[i]? with
  | none =>
   refine wpAny_pyNext_tuple_end D B ht ?_ λd C=>⟨rfl,a3j R W g λb o U e=>C b o (ni U) e⟩;have:=Y.get_none i j;simpa using this
  | some x =>
   refine j5 (Y.get i j) λu y z=>wpAny_pyNext_tuple_item B ht (x:=u) (by simpa using y) λd q L=>?_
   have O:c8T (·∈[I]) H s H {s with heap:=d}:=a3j R W g λb o U e=>L.extBut b o (ni U) e
   have tup:∀ b vs,IsTup s.heap b vs->IsTup d b vs:=λb vs t=>by
    refine O.ext.tup R (λc o vs n f p _ v=>?_) t;refine j5 (g c f) λN a w=>?_;rw [p] at a;have M:=E0 a;clear a;subst M;exact w _ _ v
   refine ⟨u,rfl,z.mono tup,O,λ_=>⟨q,tup _ _ ht,Y.mono tup⟩,by refine y4 q λo J _ V=>?_;clear q;exact a12 J (G8 V),λZ Q _ K=>?_⟩
   exact y4 (id q) λo J f V=>W7 J f (by decide) (K _ (.refl O.rel) ⟨q,tup _ _ ht,Y.mono tup⟩)
theorem a5Q {a:Int} {n:Nat}:c8W I [I] (.seq ((List.range n).map λi=>f5.int (a+(i:Nat)))) false (λi h=>IsRangeIter h I (a+(i:Nat)) ((n:Int) - (i:Nat)) 1) where
 mem:=by simp
 frame:=λ_ _ _ F k ht=>k I (by simp) _ F
 nons:=λi h l b J=>by
  simp only [List.mem_singleton] at J;subst J;exact ⟨_,l,λt n e=>by cases e⟩
 self:=λ_ _ _ _ F h=>wpAny_pyIter_rangeiter F h
 next:=λA i s H r j R F O e=>by
  have f:∀ b∈[I],∃ o,s.heap.get? b=some o/\K6 o:=a12 F (G8 rfl);cases (show r=_ from e);by_cases V:i < n
  ·have d:((List.range n).map λi=>f5.int (a+(i:Nat)))[i]?=some (.int (a+(i:Nat))):=by simp [V]
   rw[d];refine wpAny_pyNext_range_item F (by exact Int.sub_pos.mpr (c8E V)) λc q p=>?_
   have U:c8T (·∈[I]) H s H {s with heap:=c,toks:=s.toks+1}:=a3j R O f λb o J e=>p.extBut b o (ni J) e
   have B:IsRangeIter c I (a+((i+1:Nat):Int)) ((n:Int) - ((i+1:Nat):Int)) 1:=by
    have Y:a+((i+1:Nat):Int)=a+(i:Int)+1:=by exact c5e
    have Z:(n:Int) - ((i+1:Nat):Int)=(n:Int) - (i:Int) - 1:=by exact c5j
    rw[Y];rw[Z];exact q
   refine ⟨_,rfl,.int,U,λ_=>B,a12 q (G8 rfl),λW Q _ m=>?_⟩;refine W7 q rfl (by decide) (m _ (.refl U.rel) ?_)
   have Y:a+((i+1:Nat):Int)=a+(i:Int)+1:=by exact c5e
   have Z:(n:Int) - ((i+1:Nat):Int)=(n:Int) - (i:Int) - 1:=by exact c5j
   rw[Y];rw[Z];exact q
  ·have d:((List.range n).map λi=>f5.int (a+(i:Nat)))[i]?=none:=by simp;exact b5p V
   rw[d];exact wpAny_pyNext_range_end j F (by exact Int.sub_nonpos_of_le (c8F (Nat.le_of_not_lt V))) λc g=>⟨rfl,a3j R O f λb o J e=>g b o (ni J) e⟩
theorem b0A {x:String} {t:Tok} {f:String} (O:f="str_ascii_iterator"\/f="str_iterator") :
  c8W I [I] (.seq (x.toList.map λc=>f5.str (String.singleton c))) false (λi h=>h.IsStrIter I f (Str.ofString x) t i) where
 mem:=by simp
 frame:=λ_ _ _ C E _=>by refine j5 C λo J r=>?_;clear C;exact ⟨o,E I (by simp) o J,r⟩
 nons:=λi h D b V=>by
  refine y4 D λo J _ a=>?_;clear D;simp only [List.mem_singleton] at V;subst V;exact ⟨o,J,λL n e=>by rw [a] at e;cases e⟩
 self:=λ_ _ _ _ U h=>by
  rcases O with rfl | rfl
  ·exact wpAny_pyIter_striter_ascii U h
  ·exact wpAny_pyIter_striter_wide U h
 next:=λA i s H r y R U W e=>by
  have w:∀ b∈[I],∃ o,s.heap.get? b=some o/\K6 o:=by refine y4 U λo J _ a=>?_;clear U;exact a12 J (G8 a)
  cases (show r=_ from e);have g:∀ j:Nat,(Str.ofString x).cps[j]?=(x.toList[j]?).map Char.toNat:=λj=>by
   rw[(t4 ..)];simp
  have item:∀ c:Char,x.toList[i]?=some c->∀ F ,F.IsStrIter I f (Str.ofString x) t (i+1)->Heap.SameBut I s.heap F ->
    ∃ u,some (Value.str ⟨#[c.toNat]⟩ s.toks)=some u/\j7 G F (.str (String.singleton c)) u/\c8T (·∈[I]) H s H {s with heap:=F,toks:=s.toks+1}/\((false:Bool)=false->F.IsStrIter I f (Str.ofString x) t (i+1))/\(∀ b∈[I],∃ o,F.get? b=some o/\K6 o)/\∀ (B:c8H) (Q:Unit->Shared->Prop),((false:Bool)=true->a6J B=true) ->
     (∀ Y,c8T (·∈[I]) H {s with heap:=F,toks:=s.toks+1} H Y->Y.heap.IsStrIter I f (Str.ofString x) t (i+1)->Q () Y)->wpAny c8L A (letOwnedTupleGo B (.ref I) u) Q D7 {s with heap:=F,toks:=s.toks+1}:=by
   intro c K F q m;have Z:c8T (·∈[I]) H s H {s with heap:=F,toks:=s.toks+1}:=a3j R W w λb o V e=>m.extBut b o (ni V) e
   refine ⟨_,rfl,?_,Z,λ_=>q,by refine y4 q λo J _ a=>?_;clear q;exact a12 J (G8 a),λB Q _ z=>?_⟩
   ·exact a8J c▸.str
   ·refine y4 (id q) λo J l a=>?_;rcases O with rfl | rfl
    ·exact W7 (s:={s with heap:=F,toks:=s.toks+1}) J l (by decide) (z _ (.refl Z.rel) q)
    ·exact W7 (s:={s with heap:=F,toks:=s.toks+1}) J l (by decide) (z _ (.refl Z.rel) q)
  cases d:x.toList[i]? with
  | none =>
   have p:(x.toList.map λc=>f5.str (String.singleton c))[i]?=none:=by simp [d]
   have k:(Str.ofString x).cps[i]?=none:=by rw[(g ..)];rw[d];rfl
   rw[p];rcases O with rfl | rfl
   ·exact wpAny_pyNext_ascii_end y U k λF v=>⟨rfl,a3j R W w λb o V e=>v b o (ni V) e⟩
   ·exact wpAny_pyNext_wide_end y U k λF v=>⟨rfl,a3j R W w λb o V e=>v b o (ni V) e⟩
  | some c =>
   have p:(x.toList.map λc=>f5.str (String.singleton c))[i]?=some (.str (String.singleton c)):=by simp [d]
   have k:(Str.ofString x).cps[i]?=some c.toNat:=by rw[(g ..)];rw[d];rfl
   rw[p];rcases O with rfl | rfl
   ·exact wpAny_pyNext_ascii_item U k λF q m=>item c d F q m
   ·exact wpAny_pyNext_wide_item U k λF q m=>item c d F q m
end
end Mine.Internal
namespace Mine.Internal
open Classical
variable {h:Heap}{a:Addr}
theorem a48 (a b:Int):Builtin.Range.rangeSize a b 1=((b - a).toNat:Int):=by
 rw[(rangeSize_one ..)]
 split
 ·rename_i h;exact (Int.toNat_of_nonneg (Int.sub_nonneg_of_le (Int.le_of_lt h))).symm
 ·rename_i h;rw[(Int.toNat_eq_zero.mpr (Int.sub_nonpos_of_le (Int.not_lt.mp h)))];rfl
variable {k t:Nat}{x:Str}{H:Hp}{o:Obj}{v u:Value}{vs:Array Value}{p:f5}{l:List f5}{A:Around}{lf:Env}{s:Shared}{Q:Value->Shared->Prop}{pos:Pos}{y:Ev}{E:Value->Shared->Prop}{I:Addr}{e:c8H}{r:En}{wr:List Addr}{D:Addr}{m:Nat}{c:Cx}
noncomputable def a2R (lc:Program) (w:World) (G:Gi) (tup:Bool) (H:Hp) (s:Shared) (Q:Src->Hp->Prop) (itv:Value) (s':Shared):Prop :=
 ∃ I wr src St H',itv=.ref I/\a0h lc w G I wr src tup St/\St 0 s'.heap/\(∀ b∈wr,s.heap.get? b=none/\H' b=none/\G.base b=none)/\n7 G w S5 H s H' s'/\Q src H'
theorem a2R.after {tup:Bool} {H F:Hp} {s R U:Shared} {Q:Src->Hp->Prop} (st:c8T S5 H s F R) (r:a2R lc w G tup F R Q v U):a2R lc w G tup H s Q v U:=by
 obtain ⟨I,Z,src,St,V,e,Y,W,J,B,q⟩:=r;refine ⟨I,Z,src,St,V,e,Y,W,λb O=>⟨?_,(J b O).2⟩,st.trans B,q⟩;cases e:s.heap.get? b with
 | none=>rfl
 | some o =>
  have:=st.ext.there b (by rw[e];rfl) (λz=>z)
  rw [(J b O).1] at this;exact nomatch this
theorem K7 (R:c8J H h) (B:h.objs.size<=k):h.get? k=none/\H k=none/\G.base k=none:=by
 have e:h.get? k=none:=by
  cases q:h.get? k with
  | none=>rfl
  | some o=>exact c7Y (c7v (c7c q) B) (c7J _)
 refine ⟨e,?_,?_⟩
 ·cases q:H k with
  | none=>rfl
  | some F=>exact c7Y (c7v (R.lt q) B) (c7J _)
 ·cases q:G.base k with
  | none=>rfl
  | some o=>rw [(R.base k o q).1] at e;exact nomatch e
theorem a0e {src:Src} {St:Nat->Heap->Prop} {tup:Bool} {Q:Src->Hp->Prop} (R:c8J H s.heap) (F:c8W s.heap.objs.size [s.heap.objs.size] src tup St) (h0:St 0 (s.heap.push o)) (q:Q src H) :
  a2R lc w G tup H s Q (.ref s.heap.objs.size) {s with heap:=s.heap.push o,toks:=t}:=by
 refine ⟨_,_,src,St,H,rfl,F,h0,λb B=>?_,.push R,q⟩;simp only [List.mem_singleton] at B;subst B;exact K7 R (c7l _)
theorem a78 {Q:Src->Hp->Prop} (g:Gk G) (R:c8J H s.heap) (q:j7 G s.heap p v) (h:itV p H Q) :
  wpAny c8L A (pyIter v) (a2R lc w G false H s Q) D7 s:=by
 rcases h with ⟨l,rfl,h⟩ | ⟨x,rfl,h⟩ | ⟨a,V,rfl,e,h⟩
 ·replace q:=Y0 q;refine j9 q λa U O t r=>?_;clear q;subst O;exact wpAny_pyIter_tuple t (a0e R b1E ⟨⟨_,c68 _ rfl,rfl,rfl⟩,U5 t,r.mono λ_ _=>U5⟩ h)
 ·replace q:=a1w q;refine eE q λt J=>?_;clear q;subst J;cases B:(Str.ofString x).cps.all (· < 128)
  ·exact wpAny_pyIter_wide B (a0e R (b0A (.inr rfl)) ⟨_,c68 _ rfl,rfl,rfl⟩ h)
  ·exact wpAny_pyIter_ascii B (a0e R (b0A (.inl rfl)) ⟨_,c68 _ rfl,rfl,rfl⟩ h)
 ·replace q:=U8 q;subst q;exact A6 (R.objs _ _ e) λU k F r=>wpAny_pyIter_list ⟨_,F,rfl,_,rfl⟩ (a0e R (b3G (c7F (c7c F))) ⟨_,c68 _ rfl,rfl,rfl⟩ h)
theorem S8 {x y:Str} (h:C8 c x y=true):x=y/\c.kind x=.glob/\c.fns.contains x=false/\c.clss.contains x=false:=by
 exact eA ((Bool.and_eq_true_iff).mp h) λq h=>eA ((Bool.and_eq_true_iff).mp h) λB h=>eA ((Bool.and_eq_true_iff).mp h) λF J=>⟨c8j q,a3D B,Bool.not_eq_true' _▸F,Bool.not_eq_true' _▸J⟩
theorem b2o {vs:List f5} {us:List Value} {Q:Src->Hp->Prop} (R:c8J H s.heap) (J:m4 G s.heap vs us) (h:itR vs H Q) :
  wpAny c8L A (call (.type "range") us) (λx z=>wpAny c8L A (pyIter x) (a2R lc w G false H s Q) D7 z) D7 s:=by
 have q:(o9:Int) < 2 ^ 62:=by decide
 rcases h with ⟨B,rfl,c,d,h⟩ | ⟨F,B,rfl,c,d,p,r,h⟩
 ·skip
  replace J:=F9 J;refine j9 J λu m v o e=>?_;clear J;subst v;refine eE o λt y=>?_;clear o;subst y;subst e;refine call_range_1 (wpAny_pyIter_range (IsRange.new ..) (small_one (by decide) (by decide) (by exact c8a (Int.neg_le_neg (Int.le_of_lt q)) c) (by exact Int.lt_of_le_of_lt d q)) ?_)
  have Y:=R.push {cls:=.type "range",data:=.fields #[.int 0 s.toks,.int B t,.int 1 (s.toks+1)]};have U:c8T S5 H s H {s with heap:=s.heap.push {cls:=.type "range",data:=.fields #[.int 0 s.toks,.int B t,.int 1 (s.toks+1)]},toks:=s.toks+1+1}:=.push R
  have O:Builtin.Range.rangeSize 0 B 1=((B - 0).toNat:Int):=a48 _ _;refine (a0e (s:={s with heap:=s.heap.push {cls:=.type "range",data:=.fields #[.int 0 s.toks,.int B t,.int 1 (s.toks+1)]},toks:=s.toks+1+1}) Y (a5Q (a:=0) (n:=(B - 0).toNat)) ?_ h).after U
  have Z:(0:Int)+((0:Nat):Int)=0:=by simp
  have b:(((B - 0).toNat:Nat):Int) - ((0:Nat):Int)=((B - 0).toNat:Int):=by simp
  rw[O];rw[Z];rw[b];exact c68 _ rfl
 ·skip
  replace J:=F9 J;refine a3y J λu m f V D C i W k=>?_;clear J;subst f;refine eE V λt g=>?_;clear V;subst g;subst i;refine eE W λl j=>?_;clear W;subst j;subst k;refine call_range_2 (wpAny_pyIter_range (IsRange.new ..) (small_one (by exact c8a (Int.neg_le_neg (Int.le_of_lt q)) c) (by exact Int.lt_of_le_of_lt d q) (by exact c8a (Int.neg_le_neg (Int.le_of_lt q)) p) (by exact Int.lt_of_le_of_lt r q)) ?_)
  have Y:=R.push {cls:=.type "range",data:=.fields #[.int F t,.int B l,.int 1 s.toks]};have U:c8T S5 H s H {s with heap:=s.heap.push {cls:=.type "range",data:=.fields #[.int F t,.int B l,.int 1 s.toks]},toks:=s.toks+1}:=.push R
  have O:Builtin.Range.rangeSize F B 1=((B - F).toNat:Int):=a48 _ _;refine (a0e (s:={s with heap:=s.heap.push {cls:=.type "range",data:=.fields #[.int F t,.int B l,.int 1 s.toks]},toks:=s.toks+1}) Y (a5Q (a:=F) (n:=(B - F).toNat)) ?_ h).after U
  have Z:F+((0:Nat):Int)=F:=by simp
  have b:(((B - F).toNat:Nat):Int) - ((0:Nat):Int)=((B - F).toNat:Int):=by simp
  rw[O];rw[Z];rw[b];exact c68 _ rfl
noncomputable def SIt (lc:Program) (w:World) (G:Gi) (n m:Nat) (c:Cx) (e:c8H) (it:It):Prop :=
 ∀ (A:Around) (s:Shared) (H:Hp) (r:En) (lf:Env) (Q:Src->Hp->Prop),AOk n m A->A7 G w H s.heap->R7 G w lf c r H s.heap->it.iv (j3 G.F n) r H Q ->
  (∀ x,foldedSetIterable e lf x=pure x)/\wpAny (model lc w) A (eval e lf) (λx s1=>wpAny (model lc w) A (pyIter x) (a2R lc w G it.tup H s Q) D7 s1) D7 s
abbrev c8Y:=SIt lc w G n
theorem b0U {J:It} (g:Gok G c) (V:∀ e x,T3 k c e=some x->c8I m c e x) (B:a5P e=false) (h:(T3 k c e).map D8=some J):c8Y m c e J:=by
 refine j5 (n9 h) λx W a=>?_;subst a;intro A s H r Y Q U R F q;refine ⟨λv=>?_,m3 (V e x W A s H r Y _ U R F q) λp v d f b O Z=>c62 (a78 g.toGk O.rel b Z) (λ_ _ z=>a2R.after O z) λ_ _ e=>e⟩;cases e <;> first | rfl | exact nomatch B
theorem a67 {V:It} (g:Gok G c) (U:∀ e x,T3 k c e=some x->c8I m c e x) (h:a5g (T3 k c) c e=some V):c8Y m c e V:=by
 unfold a5g at h;cases B:a5P e with
 | true=>rw [B] at h;exact A3 h
 | false =>
  rw [B] at h;cases J:a3r e with
  | none=>rw [J] at h;exact b0U g U B h
  | some p =>
   rw [J] at h;obtain ⟨f,args⟩:=p;refine eEE (a3X J) λt pos y=>?_;subst y;replace h:b43 (T3 k c) c (.Call (.Name f t) args [] pos) f args=some V:=h;unfold b43 at h;cases O:C8 c f V8 with
   | true =>
    rw [O] at h;refine b3d (S8 O) λC n i j=>?_;subst C;refine j5 (n9 h) λl Y w=>?_;subst w;intro A s H r o Q Z R F q;refine ⟨λv=>rfl,?_⟩;refine eA (g.blt V8 (.type "range") rfl i j) λb d=>wpAny_Call_NameR (wpAny_Name (a8k g R F n b d ?_) (by decide +kernel))
    refine S6 (P:=G.K.In) (V4 Y) (λh _=>a1S (λa e=>by cases e) h) ?_
    refine m3 (a15 U args l Y A s H r o pos _ Z R F q) (λL us E I D W u=>⟨W.rel.In g,?_⟩);exact c62 (b2o W.rel D.1 u) (λ_ _ z=>c62 z (λ_ _ z=>a2R.after W z) λ_ _ e=>e) λ_ _ e=>e
   | false =>
    rw [O] at h;exact b0U g U B h
variable {X:Addr->Prop}{v:f5}
theorem U7 {x:Nm}:(r.set x v) x=some v:=by unfold En.set;rw[(Nat.beq_refl ..)];rfl
theorem Q4 {x y:Nm} (h:y≠x):(r.set x v) y=r y:=by unfold En.set;rw[(a83 h)];rfl
theorem b5X:FX lf lf.locals:=.inl rfl
noncomputable def XS (lf:Env) (c:Cx) (loc:Bool):Addr->Prop:=λa=>if loc then a=lf.locals else FX lf a
theorem XS.fx {q:Bool} (h:XS lf c q a):FX lf a:=by
 cases q with
 | true=>exact .inl h
 | false=>exact h
noncomputable def KS (c:Cx) (loc:Bool) (x:Str):Bool:=bif loc then Y5 c x else c.var x
theorem a22 (h:Y5 c x=true):c.names.lookup x=some .local:=c8j h
theorem KS.var {q:Bool} (h:KS c q x=true):c.kind x=.var:=by
 cases q with
 | true=>unfold Cx.kind;rw[(a22 h)];rfl
 | false=>exact a5i h
theorem a3k (i:Bool) {Q:Unit->Shared->Prop} (R:c8J H s.heap) (F:c8K lf c r H s.heap) (ks:KS c i x=true) (S:B1 x=true) (rv:j7 G s.heap v u)
  (q:∀ s',c8K lf c (r.set (nm x) v) H s'.heap->c8T (XS lf c i) H s H s'->Q () s'):wpAny c8L A (bindName lf x u) Q D7 s:=by
 refine wpAny_bindName ?_;have k:=KS.var ks;obtain ⟨kind,glob,blt,B,⟨mm,o,ho,hn,ns,T⟩,p,⟨o1,o2,o3⟩,inj,a1,W⟩:=F;have g:∀ y,B1 y=true->c.dom.contains y=false->(r.set (nm x) v) (nm y)=none:=λy J hd=>by
  rw[(Q4 λe=>by have:=Q2 J S e;subst this;rw [W y k] at hd;cases hd)]
  exact a1 y J hd
 have a4:∀ b,FX lf b->H b=none/\G.base b=none/\∃ o,s.heap.get? b=some o/\K6 o:=by
  rintro b (rfl | ⟨y,J⟩)
  ·exact ⟨o1,o2,o,ho,hn⟩
  ·exact T5 (o3 y b J) λE I l U d p4 p5=>⟨E,I,d,p4,λY n e=>by rw [p5] at e;cases e⟩
 have j:W3 (XS lf c i) s.heap:=λa o Y n hX O ec Z=>by
  refine a1x (a4 a (XS.fx hX)) λ_ _ o' K L=>?_;rw [O] at K;have q3:=E0 K;clear K;subst q3;exact L _ _ Z
 rcases a25 k with k | k
 ·refine wpAny_storeName_local (B _ _ k) ns (λh' a0 f=>?_) (by rw[kind];rfl)
  refine a0M (id a0) λo' a6 a5 P a2 rest=>?_;have a3:K6 o':=λY n e=>by rw [a2] at e;cases e
  have w:=R.but (X:=XS lf c i) (h':=h') ho hn o1 o2 (by unfold XS;cases i;exact b5X;rfl) f (by rw[P];rfl)
  have tup:∀ b Y,IsTup s.heap b Y->IsTup h' b Y:=λb Y t=>w.2.tup R j t;refine q {s with heap:=h',toks:=s.toks+1} ⟨kind,glob,blt,B,⟨_,o',P,a3,a0,λy m J V e=>?_⟩,λy V=>?_,⟨o1,o2,λy a e=>?_⟩,inj,g,W⟩ ⟨w.1,w.2,rfl,rfl⟩
  ·by_cases h:y=x
   ·subst h;rw [U7] at e;have q1:=E0 e;clear e;subst q1;exact ⟨u,c7X rfl,rv.mono tup⟩
   ·rw [Q4 λe=>h (Q2 J S e)] at e;exact j5 (T y m J V e) λU O Z=>⟨U,by rw[(c7W h)];exact O,Z.mono tup⟩
  ·refine j9 (p y V) λa U O q6 L=>j5 q6 λd Z K=>?_;clear q6;have D:=(o3 y a O).2.2.1;refine ⟨a,U,O,⟨d,(f.2 a D).trans Z,K⟩,λJ m e=>?_⟩;rw [Q4 λe=>by have:=Q2 J S e;subst this;rw [k] at V;cases V] at e
   exact j5 (L J m e) λz M e6=>⟨z,M,e6.mono tup⟩
  ·exact T5 (o3 y a e) λE I l U d p4 p5=>⟨E,I,l,U,d,(f.2 a l).trans p4,p5⟩
 ·refine j9 (p x k) λa u0 O Z K=>b3d (o3 x a O) λE I l _=>wpAny_storeName_cell kind (B _ _ k) O Z (λh' C f=>?_);refine j5 (id Z) λd L M=>?_;have N:i=false:=by
   cases i with
   | false=>rfl
   | true=>rw [a22 ks] at k;cases k
  have w:=R.but (X:=XS lf c i) (h':=h') L (λY n e=>by rw [M] at e;cases e) E I (by subst N;exact .inr ⟨x,O⟩) f (Heap.IsCell.is C)
  have tup:∀ b Y,IsTup s.heap b Y->IsTup h' b Y:=λb Y t=>w.2.tup R j t;refine q {s with heap:=h'} ⟨kind,glob,blt,B,⟨mm,o,(f.2 _ (Ne.symm l)).trans ho,hn,ns.sameBut f (Ne.symm l),λy m J V e=>?_⟩,λy V=>?_,⟨o1,o2,λy b e=>?_⟩,inj,g,W⟩ ⟨w.1,w.2,rfl,rfl⟩
  ·rw [Q4 λe=>by have:=Q2 J S e;subst this;rw [k] at V;cases V] at e
   exact j5 (T y m J V e) λU O Z=>⟨U,O,Z.mono tup⟩
  ·by_cases h:y=x
   ·subst h;refine ⟨a,some u,O,C,λ_ m e=>?_⟩;rw [U7] at e;have q2:=E0 e;clear e;subst q2;exact ⟨u,rfl,rv.mono tup⟩
   ·refine j9 (p y V) λb U g1 q7 g4=>j5 q7 λd g2 g3=>?_;clear q7;have D:b≠a:=λe=>h (inj y x b g1 (e▸O));refine ⟨b,U,g1,⟨d,(f.2 b D).trans g2,g3⟩,λJ m e=>?_⟩;rw [Q4 λe=>h (Q2 J S e)] at e;exact j5 (g4 J m e) λz M e6=>⟨z,M,e6.mono tup⟩
  ·refine T5 (o3 y b e) λE I l U d p4 p5=>⟨E,I,l,?_⟩;by_cases h:b=a
   ·subst h;exact ⟨_,C⟩
   ·exact ⟨U,d,(f.2 b h).trans p4,p5⟩
theorem b5P {src:Src} {St:Nat->Heap->Prop} (p:A.handled=none) (c:c8W I wr src false St) (r:∀ i,src.next H i l[i]?) (own:∀ b∈wr,H b=none/\G.base b=none) :
  ∀ (k i:Nat) (s:Shared) (Q:List Value->Shared->Prop),c8J H s.heap->St i s.heap->i+k<=l.length ->
   (∀ us U,m4 G U.heap ((l.drop i).take k) us->c8T (·∈wr) H s H U->St (i+k) U.heap->Q us U)->wpAny c8L A (draw (.ref I) k) Q D7 s:=by
 intro k;induction k with
 | zero=>intro i s Q R Z Y q;exact c61 (q [] s (by rw[List.take_zero];exact .nil) (.refl R) Z)
 | succ k t =>
  intro i s Q R Z Y q;have F:i < l.length:=by exact Nat.lt_of_add_right_lt Y
  refine c60 (c62 (c.next A i s H _ p R Z own (r i)) (λo z W=>?_) λ_ _ e=>e);rw [List.getElem?_eq_getElem F] at W;refine a2U W λu w y B J _ _=>?_;clear W;subst w;refine c60 (c63 (t (i+1) z _ B.rel (J rfl) (c5y Y) λus C x O h=>c61 (q _ C ?_ (B.trans O) (by rw[(show i+(k+1)=i+1+k by exact b9z)];exact h))))
  have m:l.drop i=l[i] :: l.drop (i+1):=List.drop_eq_getElem_cons F;rw[m];rw[List.take_succ_cons];refine .cons (O.ext.vrep B.rel (λa o K n j d D f=>?_) y) x;refine j5 (c.nons (i+1) _ (J rfl) a j) λE V g=>?_;rw [d] at V;have v:=E0 V;clear V;subst v;exact g _ _ f
variable {es:List c8H}{one:Bool}{tg:c8H}
theorem b2j (h:a14 H p l):itV p H λsrc q=>q=H/\∀ i,src.next H i l[i]?:=by
 rcases h with rfl | ⟨a,rfl,e⟩
 ·exact .inl ⟨l,rfl,rfl,λi=>rfl⟩
 ·exact .inr (.inr ⟨a,l,rfl,e,rfl,λi=>⟨l,e,rfl⟩⟩)
theorem a9J {v:Value} {Q:Bool->Shared->Prop} (R:c8J H s.heap) (B:j7 G s.heap p v) (h:a14 H p l) (q:Q false s):wpAny c8L A (notIterableAtAll v) Q D7 s:=by
 rcases h with rfl | ⟨a,rfl,e⟩
 ·replace B:=Y0 B;refine j9 B λa U O t _=>?_;clear B;subst O;exact c60 (wpAny_specialOf t.typeIs PySem.F.slot_tuple_iter.lookup (c61 q))
 ·replace B:=U8 B;subst B;exact A6 (R.objs _ _ e) λU k J _=>c60 (wpAny_specialOf (a9t J) slot_list_iter.lookup (c61 q))
theorem a0v {v:Value} {Q:List Value->Shared->Prop} (g:Gk G) (y:A.handled=none) (R:c8J H s.heap) (D:j7 G s.heap p v) (h:a14 H p l) (W:l.length=k)
  (q:∀ us f,m4 G f.heap l us->c8T S5 H s H f->Q us f):wpAny c8L A (unpackItems v k none) Q D7 s:=by
 refine c60 (a9J R D h ?_);refine c60 (c63 (c62 (a78 g R D (b2j h)) (λX s1 r=>?_) λ_ _ e=>e));obtain ⟨I,t,src,St,F,rfl,d,N,u,E,rfl,z⟩:=r;have U:∀ b∈t,F b=none/\G.base b=none:=λb T=>(u b T).2;refine c60 (c63 (b5P y d z U k 0 s1 _ E.rel N (c2N W) λus i C B w=>?_));have O:m4 G i.heap l us:=by rw [List.drop_zero,List.take_of_length_le (by exact Nat.le_of_eq W)] at C;exact C
 have J:us.length=k:=by refine w3 O.length ?_;rw[W];rfl
 rw[(c7W (by exact J▸c7J _))]
 refine c60 (c63 (c62 (d.next A (0+k) i F _ y B.rel w U (z _)) (λo j c=>?_) λ_ _ e=>e));rw [List.getElem?_eq_none (c2l W)] at c;refine eA c λq6 V=>?_;clear c;subst q6;have m:=B.trans V;have ns:W3 (·∈t) i.heap:=λa o vs n P K ec L=>by
  refine j5 (d.nons _ _ w a P) λo' Y M=>?_;rw [K] at Y;have q3:=E0 Y;clear Y;subst q3;exact M _ _ L
 have Z:c8T S5 F s F j:=by
  have x:c8T (·∈t) F s F j:=(E.no).trans m;exact ⟨x.rel,x.ext.compress λa S=>.inr (u a S).1,x.gens,x.os⟩
 exact c61 (q us j (V.ext.vreps B.rel ns O) Z)
noncomputable def a1G (G:Gi) (w:World) (lf:Env) (c:Cx) (H:Hp) (s:Shared) (Q:En->Hp->Prop) (_:Unit) (s':Shared):Prop :=
 ∃ r' H',R7 G w lf c r' H' s'.heap/\n7 G w (FX lf) H s H' s'/\Q r' H'
theorem a29 (F:c8K lf c r H h):W3 (FX lf) h:=λa o g n R O b q=>by
 rcases R with rfl | ⟨y,V⟩
 ·refine j9 F.loc λ_ d B U _=>?_;rw [O] at B;have Y:=E0 B;clear B;subst Y;exact U _ _ q
 ·refine T5 (F.own.2.2 y a V) λ_ _ _ f e J W=>?_;rw [O] at J;have Z:=E0 J;clear J;subst Z;rw [W] at q;cases q
theorem a6S {q:Bool} (F:c8K lf c r H h):W3 (XS lf c q) h:=λa o U n R B O J=>a29 F a o U n (XS.fx R) B O J
theorem b4d (J:Bool):∀ (es:List c8H) (W:List Nm) (l:List f5) (us:List Value) (s:Shared) (H:Hp) (r:En) (Q:Unit->Shared->Prop),a3m es=some W->(es.all λe=>((Y1 e).map (KS c J)).getD false)=true ->
  l.length=W.length->c8J H s.heap->c8K lf c r H s.heap->m4 G s.heap l us ->
  (∀ k,c8K lf c (bindL W l r) H k.heap->c8T (XS lf c J) H s H k->Q () k) ->
  wpAny c8L A (assignInOrder ((assignEach es lf).map (·.2)) us) Q D7 s:=by
 intro es;induction es with
 | nil =>
  intro W l us s H r Q h _ Y R F B q;have C:=E0 h;clear h;subst C;cases l with
  | cons _ _=>exact nomatch Y
  | nil =>
   replace B:=a1a B;subst B;exact c61 (q s F (.refl R))
 | cons e es z =>
  intro W l us s H r Q h d Y R F B q;refine j9 (A2 h) λa b Z w j=>?_;subst j;refine j5 (f8 Z) λx t Z=>eE (a0C t) λp g=>?_;subst g;refine eA (B8 Z) λy D=>?_;subst D;refine eA (c8u d) λf d=>?_;cases l with
  | nil=>exact nomatch Y
  | cons v l =>
   replace B:=F9 B;revert B;intro V;refine j9 V λu U i E B=>?_;clear V;subst i;show wpAny _ _ (holding U (assign (.Name x p) lf u)>>=λ_=>assignInOrder ((assignEach es lf).map (·.2)) U) _ _ _;refine c60 (c63 ?_);rw[(arm_assign_Name ..)];refine c60 (c65 (a3k J R F f y E λI n O=>?_));exact z b l U I H _ Q w d (Nat.succ.inj Y) O.rel n (O.ext.vreps R (a6S F) B) λK o m=>q K o (O.trans m)
theorem b3l:∀ {es:List c8H} {q:List Nm} {lf:Env},a3m es=some q->(assignEach es lf).findIdx? (·.1)=none/\(assignEach es lf).length=q.length:=by
 intro es;induction es with
 | nil=>intro q lf h;have W:=E0 h;clear h;subst W;exact ⟨rfl,rfl⟩
 | cons e es V =>
  intro q lf h;refine j9 (A2 h) λa b O U J=>?_;subst J;refine j5 (f8 O) λx B O=>eE (a0C B) λp F=>?_;subst F;obtain ⟨B,R⟩:=V U;show ((false,assign (.Name x p) lf) :: assignEach es lf).findIdx? (·.1)=none/\((false,assign (.Name x p) lf) :: assignEach es lf).length=_;refine b9 List.findIdx?_cons ?_;exact ⟨by rw[B];rfl,c7o (·+1) R⟩
theorem b4X (B:Bool) {r d:En} {t:List Nm} {Q:Unit->Shared->Prop} (g:Gk G) (w:A.handled=none) (h:a0T tg=some (t,one)) (b:X9 (KS c B) tg=true) (Z:a0k t one v r d)
  (R:c8J H s.heap) (F:c8K lf c r H s.heap) (f:j7 G s.heap v u) (q:∀ V,c8K lf c d H V.heap->c8T (XS lf c B) H s H V->Q () V):wpAny c8L A (assign tg lf u) Q D7 s:=by
 cases tg with
 | Name x p =>
  refine j5 (n9 h) λa o e=>?_;cases e;refine eA (B8 o) λz D=>?_;subst D;rcases Z with ⟨_,y,C,rfl⟩ | ⟨U,_⟩
  ·cases C;rw[(arm_assign_Name ..)];exact c60 (c65 (a3k B R F b z f q))
  ·exact nomatch U
 | Tuple j k p =>
  refine j5 (n9 h) λL O e=>?_;cases e;rcases Z with ⟨U,_⟩ | ⟨_,l,rfl,J,rfl⟩
  ·exact nomatch U
  ·rw[(arm_assign_Tuple ..)];refine eA (b3l (lf:=lf) O) λm n=>c60 (c65 ?_);unfold unpack;rw[m];rw[n];refine c60 (c63 (a0v g w R f (.inl rfl) J λus I E W=>?_));exact b4d B j t l us I H r Q O b J W.rel (F.step R W) E λK i Y=>q K i (W.no.trans Y)
 | _=>exact A3 h
variable {l:List Int}{must:List Str}{acc:List f5}
noncomputable def S7 (lf:Env):List (Str×NameKind)->List (Str×Addr)->List (Str×Addr)
 | [],acc=>acc
 | (x,k) :: r,acc=>if k==.free then S7 lf r ((x,(lf.cells.lookup x).getD 0) :: acc) else S7 lf r acc
theorem a3Y:∀ (l:List (Str×NameKind)) (acc:List (Str×Addr)),(∀ p∈l,p.2=.free->(lf.cells.lookup p.1).isSome=true)->(∀ x a,acc.lookup x=some a->lf.cells.lookup x=some a)->∀ x a,(S7 lf l acc).lookup x=some a->lf.cells.lookup x=some a:=by
 intro r;induction r with
 | nil =>
  intro acc _ h x a e;exact h x a e
 | cons W r O =>
  intro acc F h x a e;obtain ⟨y,k⟩:=W;unfold S7 at e
  split at e
  ·rename_i U;refine O _ (λp B=>F p (c7i _ B)) (λz b e=>?_) x a e;rw [List.lookup_cons] at e
   split at e
   ·rename_i V;have:=c8j V;subst this;have R:=F (z,k) c7j (by simpa using U)
    refine eE (c8y R) λq J=>?_;simp only at J;rw [J] at e ⊢;exact e
   ·exact h z b e
  ·exact O acc (λp B=>F p (c7i _ B)) h x a e
theorem a89:∀ (l:List (Str×NameKind)) (acc:List (Str×Addr)) (x:Str),(acc.lookup x).isSome=true->((S7 lf l acc).lookup x).isSome=true:=by
 intro r;induction r with
 | nil =>
  intro acc x h;exact h
 | cons B r q =>
  intro acc x h;obtain ⟨y,k⟩:=B;unfold S7
  split
  ·refine q _ x ?_;rw[c71];split
   ·rfl
   ·exact h
  ·exact q acc x h
theorem b1j:∀ (l:List (Str×NameKind)) (acc:List (Str×Addr)) (x:Str),(x,NameKind.free)∈l->((S7 lf l acc).lookup x).isSome=true:=by
 intro l;induction l with
 | nil=>intro acc x h;exact (c7E h).elim
 | cons z r q =>
  intro acc x h;obtain ⟨y,k⟩:=z;unfold S7;rcases c8z h with e | h
  ·cases e;refine a89 r _ _ ?_;rw[c71];simp
  ·split <;> exact q _ x h
theorem a9a {q:Scope} (Y:∀ p∈q.names,p.2=.free->(lf.cells.lookup p.1).isSome=true):closureFor q lf=pure (S7 lf q.names []):=by
 simp only [closureFor];have R:∀ (l:List (Str×NameKind)) (acc:List (Str×Addr)),(∀ p∈l,p.2=.free->(lf.cells.lookup p.1).isSome=true) ->
   (forIn l acc λ(x:Str×NameKind) r=>match x with | (name,kind)=>if (kind==NameKind.free)=true then do let a<-cellOf lf name;pure (ForInStep.yield ((name,a) :: r)) else pure (ForInStep.yield r))=(pure (S7 lf l acc):Sem _):=by
  intro l;induction l with
  | nil=>intro acc _;rfl
  | cons p l U =>
   intro acc J;obtain ⟨x,k⟩:=p;rw[(List.forIn_cons ..)];unfold S7;by_cases F:(k==NameKind.free)=true
   ·have W:=J (x,k) c7j (by simpa using F)
    refine eE (c8y W) λa B=>?_;simp only at B;have V:cellOf lf x=pure a:=by unfold cellOf;rw[B];rfl
    simp only [F,if_true,V,B,Option.getD_some,pure_bind];exact U _ λp O=>J p (c7i _ O)
   ·simp only [F,if_false,pure_bind];exact U _ λp O=>J p (c7i _ O)
 have:=R q.names [] Y
 first
  | (rw[this];rfl)
  | (simp only [this,pure_bind])
  | simpa using this
noncomputable def T7 (must:List Str) (r:En):En:=λy=>if y∈must.map nm then Option.none else r y
theorem a1f {q:Scope} (h:a1e c q must=true):q.kind=.function/\(∀ p∈q.names,p.2≠.cell/\(p.2=.free->c.names.lookup p.1=some .cell)/\(p.2=.local->q.names.lookup p.1=some .local)) /\
  ∀ p∈a46 q,p.2=.local->must.contains p.1=true\/c.dom.contains p.1=false:=by
 unfold a1e at h;simp only [Bool.and_eq_true,beq_iff_eq,List.all_eq_true,Bool.or_eq_true,bne_iff_ne,ne_eq,Bool.not_eq_true'] at h;refine eA h λF U=>?_;clear h;refine eA F λO R=>?_;clear F;refine ⟨O,λp B=>?_,λp B V=>?_⟩
 ·refine eA (R p B) λJ d=>eA J λa b=>?_;clear J;exact ⟨a,λe=>b.resolve_left (λz=>z e),λe=>d.resolve_left (λz=>z e)⟩
 ·rcases U p B with (a | a) | a
  ·exact c7Y V a
  ·exact .inl a
  ·exact .inr a
theorem O5 {α:Type} {l:List (Str×α)} {k:α} (h:l.lookup x=some k):(x,k)∈l:=mem_of_lookup h
theorem a1t {R:Scope} {k:NameKind} (h:(sub c R).names.lookup x=some k):x≠a3h/\∃ q,(x,q)∈R.names/\R.names.lookup x=some q/\(if q=.free/\c.names.lookup x=some .cell then k=.cell else k=q):=by
 have a:∀ l:List (Str×NameKind),(U6 c (l.filter λp=>p.1 != a3h)).lookup x=some k->x≠a3h/\∃ q,(x,q)∈l/\l.lookup x=some q/\(if q=.free/\c.names.lookup x=some .cell then k=.cell else k=q):=by
  intro l;induction l with
  | nil=>intro h;simp [U6] at h
  | cons p l b =>
   intro h;obtain ⟨y,B⟩:=p;by_cases O:y=a3h
   ·have e:((y,B) :: l).filter (λp=>p.1 != a3h)=l.filter λp=>p.1 != a3h:=by
     (rewrite [List.filter_cons_of_neg];try rfl);simp [O]
    rw [e] at h;refine a1y (b h) λF q U V W=>⟨F,q,c7i _ U,?_,W⟩;rw[c71];have:(x==y)=false:=by simpa [O] using F
    rw[this];exact V
   ·have e:((y,B) :: l).filter (λp=>p.1 != a3h)=(y,B) :: l.filter λp=>p.1 != a3h:=by
     (rewrite [List.filter_cons_of_pos];try rfl);simpa using O
    rw [e] at h;unfold U6 at h;rw [List.map_cons,List.lookup_cons] at h;by_cases Y:x=y
    ·subst Y;refine ⟨O,B,c7j,by simp,?_⟩
     simp only at h;by_cases J:B=.free/\c.names.lookup x=some .cell
     ·rw[(c7X J)];have:(B==NameKind.free&&c.names.lookup x==some NameKind.cell)=true:=by simp [J.1,J.2]
      rw [this] at h;simpa using h.symm
     ·rw[(c7W J)];have:(B==NameKind.free&&c.names.lookup x==some NameKind.cell)=false:=by
       refine O0 (Bool.and_eq_false_iff ..) ?_;by_cases F:B=.free
       ·right;simpa using λe=>J ⟨F,e⟩
       ·left;simpa using F
      rw [this] at h;simpa using h.symm
    ·have Z:(x==(if (B==NameKind.free&&c.names.lookup y==some NameKind.cell)=true then (y,NameKind.cell) else (y,B)).1)=false:=by
      split <;> simpa using Y
     simp only at h;rw [Z] at h;refine a1y (b h) λF q U V W=>⟨F,q,c7i _ U,?_,W⟩;rw[c71];have:(x==y)=false:=by simpa using Y
     rw[this];exact V
 exact a R.names h
variable {t:List Nm}{sc:Scope}
theorem a4V {α:Type} (f:Str×α->Str×α) (q:∀ p,(f p).1=p.1):∀ (l:List (Str×α)) (x:Str),(l.map f).lookup x=(l.lookup x).map λk=>(f (x,k)).2:=by
 intro l;induction l with
 | nil =>
  intro x;exact rfl
 | cons F l B =>
  intro x;obtain ⟨y,k⟩:=F;rw[c7Z];rw[c71];have e:f (y,k)=(y,(f (y,k)).2):=Prod.ext (q (y,k)) rfl;rw[e];by_cases h:x=y
  ·subst h;simp
  ·have:(x==y)=false:=by simpa using h
   rw[this];rw[c71];rw[this];exact B x
theorem a5O {y:Nm} (h:r y=Option.none):T7 must r y=Option.none:=by unfold T7;split <;> first | rfl | exact h
theorem b1A (h:must.contains x=true):T7 must r (nm x)=Option.none:=by
 unfold T7;(rewrite [if_pos];try rfl);exact List.mem_map_of_mem (List.contains_iff_mem.mp h)
theorem b23 {H j:Hp} {h B:Heap} {C:Addr} (F:c8K lf c r H h) (R:c8J H h) (ok:a1e c sc must=true) (x:Ext S5 H h j B) (S:h.get? C=none) (i:B.Ns C λ_=>none) (N:j C=none) (P:G.base C=none) :
  c8K (compEnvC sc (S7 lf sc.names []) C lf) (sub c sc) (T7 must r) j B:=by
 refine eAA (a1f ok) λE W I=>?_;have K:=F.ext R x;have Y:∀ y a,lf.cells.lookup y=some a->True:=λ_ _ _=>trivial;have V:∀ p∈sc.names,p.2=.free->(lf.cells.lookup p.1).isSome=true:=λp X e=>by
  refine A6 (F.cel p.1 ((W p X).2.1 e)) λa u B _=>?_;rw[B];rfl
 have sound:=a3Y (lf:=lf) sc.names [] V (λx a e=>by cases e)
 have O:∀ y,(sub c sc).names.lookup y=some .cell->c.names.lookup y=some .cell/\(y,NameKind.free)∈sc.names:=λy e=>by
  refine a1y (a1t e) λ_ g Z s q=>?_
  split at q
  ·rename_i J;exact ⟨J.2,J.1▸Z⟩
  ·rename_i J;subst q;exact c7Y rfl (W _ Z).1
 refine ⟨?_,F.glob,F.blt,λy k e=>?_,?_,λy e=>?_,⟨N,P,λy a e=>?_⟩,λy z a l m=>F.inj y z a (sound y a l) (sound z a m),λy f t=>?_,λy w=>?_⟩
 ·exact E
 ·refine a1y (a1t e) λB g Z s q=>?_;show ((relabel sc lf).names.lookup y)=some k;unfold relabel
  (rewrite [a4V _ (λp=>by obtain ⟨a,b⟩:=p;dsimp only;split <;> rfl)];rw[s])
  simp only [Option.map_some];by_cases d:g=.free
  ·have J:=(W _ Z).2.1 d;rw [if_pos ⟨d,J⟩] at q;have:(g==NameKind.free&&lf.scope.kind==ScopeKind.function&&lf.kindOf y==some NameKind.cell)=true:=by
    rw[F.kind];rw[(F.kinds y _ J)];rw[d];rfl
   rw[this];simp [q]
  ·rw [if_neg (λz=>d z.1)] at q;have:(g==NameKind.free)=false:=by simpa using d
   rw[this];simp [q]
 ·refine a0M (id i) λo es ep T t rest=>?_;have D:K6 o:=λvs n e=>by rw [t] at e;cases e
  refine ⟨λ_=>Option.none,o,T,D,i,λy v f w e=>?_⟩;exfalso;refine a1y (a1t w) λB g Z s q=>?_
  split at q
  ·cases q
  ·subst q;have hm:(y,NameKind.local)∈a46 sc:=List.mem_filter.mpr ⟨Z,by simpa using B⟩
   rcases I _ hm rfl with a | a
   ·rw [b1A a] at e;cases e
   ·rw [a5O (F.dom y f a)] at e;cases e
 ·refine eA (O y e) λJ hm=>j9 (K.cel y J) λa u l m Q=>?_;have hs:=b1j (lf:=lf) sc.names [] y hm;refine eE (c8y hs) λb M=>?_;have:=sound y b M;rw [l] at this;have q1:=E0 this;clear this;subst q1;refine ⟨a,u,M,m,λf v e=>Q f v ?_⟩;unfold T7 at e
  split at e
  ·cases e
  ·exact e
 ·refine b0p (K.own.2.2 y a (sound y a e)) λp1 p2 p3 u hu=>⟨p1,p2,?_,u,hu⟩;intro U;refine T5 (F.own.2.2 y _ (sound y _ e)) λ_ _ _ u0 o0 L _=>?_;replace U:a=C:=U;rw [U,S] at L;cases L
 ·refine a5O (F.dom y f ?_);have:(c.dom++a2O (U6 c (a46 sc))).contains y=false:=t;rw [List.contains_eq_mem,decide_eq_false_iff_not,List.mem_append,not_or] at this;rw[(List.contains_eq_mem ..)];refine O0 (decide_eq_false_iff_not ..) ?_;exact this.1
 ·have A:=a25 w;have hm:(y,NameKind.local)∈U6 c (a46 sc)\/(y,NameKind.cell)∈U6 c (a46 sc):=A.imp O5 O5;show (c.dom++a2O (U6 c (a46 sc))).contains y=true;refine O0 (List.contains_iff_mem ..) ?_;refine O0 (List.mem_append ..) ?_
  right
  unfold a2O;refine O0 (List.mem_map ..) ?_;rcases hm with hm | hm
  ·exact ⟨_,List.mem_filter.mpr ⟨hm,rfl⟩,rfl⟩
  ·exact ⟨_,List.mem_filter.mpr ⟨hm,rfl⟩,rfl⟩
variable {ifs:List c8H}
theorem R7.sub {r Z:En} (F:c8K lf c Z H h) (V:∀ y v,r y=some v->Z y=some v):c8K lf c r H h:=by
 obtain ⟨kind,glob,blt,q,⟨k,o,j,i,l,W⟩,O,Y,inj,R,J⟩:=F;refine ⟨kind,glob,blt,q,⟨k,o,j,i,l,λy v B U e=>W y v B U (V _ _ e)⟩,λy U=>?_,Y,inj,λy B g=>?_,J⟩
 ·exact j9 (O y U) λa u b d f=>⟨a,u,b,d,λB v e=>f B v (V _ _ e)⟩
 ·cases e:r (nm y) with
  | none=>rfl
  | some v=>have:=V _ _ e;rw [R y B g] at this;cases this
theorem a55 {r q:En} {t:Nm} {B:List Nm} (h:∀ y,y∉t :: B->q y=r y) (y:Nm) (F:y∉B):(q.set t v) y=(r.set t v) y:=by
 by_cases e:y=t
 ·subst e;rw[U7];rw[U7];rfl
 ·rw[(Q4 e)];rw[(Q4 e)];exact h y λz=>(c8z z).elim e F
theorem a9m:∀ (q:List Nm) (l:List f5) (r F:En),l.length=q.length->(∀ y,y∉q->F y=r y)->bindL q l F=bindL q l r:=by
 intro q;induction q with
 | nil =>
  intro _ r F _ h;exact funext λy=>h y c7E
 | cons _ q J =>
  intro O;cases O with
  | cons _ l =>
   intro _ _ B h;exact J l _ _ (Nat.succ.inj B) (a55 h)
  | nil =>
   intro _ _ B _;exact nomatch B
theorem a7v {r B J:En} (h:a0k t one v r J) (ha:∀ y,y∉t->B y=r y):a0k t one v B J:=by
 rcases h with ⟨q,x,rfl,rfl⟩ | ⟨q,l,O,F,rfl⟩
 ·exact .inl ⟨q,x,rfl,funext λy=>(a55 ha y c7E).symm⟩
 ·exact .inr ⟨q,l,O,F,(a9m _ l r B F ha).symm⟩
theorem a73:∀ (q:List Nm) (l:List f5) (r:En) (y:Nm),y∉q->bindL q l r y=r y:=by
 intro q;induction q with
 | nil =>
  intro _ r y _;exact rfl
 | cons t q B =>
  intro F;cases F with
  | nil =>
   intro r y _;exact rfl
  | cons v l =>
   intro r y h;exact (B l _ y λz=>h (c7i _ z)).trans (Q4 λe=>h (e▸c7j))
theorem a5G {r B:En} (h:a0k t one v r B) {y:Nm} (q:y∉t):B y=r y:=by
 rcases h with ⟨F,x,rfl,rfl⟩ | ⟨F,l,J,O,rfl⟩
 ·exact Q4 λe=>q (e▸c7j)
 ·exact a73 _ _ _ _ q
theorem b4c:∀ {es:List c8H} {t:List Nm},a3m es=some t->(es.filterMap Y1).map nm=t:=by
 intro es;induction es with
 | nil=>intro t h;have O:=E0 h;clear h;subst O;rfl
 | cons e es J =>
  intro t h;refine j9 (A2 h) λa b q F R=>?_;subst R;refine j5 (f8 q) λx B q=>?_;rw[(List.filterMap_cons_some B)];rw[c7Z];rw[(J F)];rw[((B8 q).2)];rfl
theorem T2 (h:a0T tg=some (t,one)):(a0u tg).map nm=t:=by
 cases tg with
 | Name x p =>
  refine j5 (n9 h) λa B e=>?_;cases e;exact c7o (λx=>[x]) (B8 B).2
 | Tuple F k p =>
  refine j5 (n9 h) λJ q e=>?_;cases e;exact b4c q
 | _=>exact A3 h
noncomputable def c51 (G:Gi) (w:World) (H:Hp) (s:Shared) (Q:Bool->Hp->Prop) (b:Bool) (s':Shared):Prop:=∃ H',n7 G w S5 H s H' s'/\Q b H'
theorem a8N:∀ (ifs:List c8H) (s:Shared) (Q:Bool->Shared->Prop),Q false s ->
  wpAny c8L A (forIn ifs false λc r=>if r=true then do let ok<-isTrue c lf (eval c lf);pure (ForInStep.yield ok) else pure (ForInStep.yield r)) Q D7 s:=by
 intro ifs;induction ifs with
 | nil=>intro s Q h;rw[List.forIn_nil];exact c61 h
 | cons e ifs q =>
  intro s Q h;rw[(List.forIn_cons ..)];exact c60 (c61 (q s Q h))
theorem b4V (g:∀ e x,trC k c e=some x->c8P m c e x):∀ (ifs:List c8H) (l:List Cv),G2 (trC k c) ifs=some l->∀ (s:Shared) (H:Hp) (Q:Bool->Hp->Prop),AOk n m A->c8J H s.heap->c8K lf c r H s.heap ->
  (a1E l) c8Q r H Q ->
  wpAny c8L A (forIn ifs true λc r=>if r=true then do let ok<-isTrue c lf (eval c lf);pure (ForInStep.yield ok) else pure (ForInStep.yield r)) (c51 G w H s Q) D7 s:=by
 intro ifs;induction ifs with
 | nil =>
  intro l h s H Q J R F q;have O:=E0 h;clear h;subst O;rw[List.forIn_nil];exact c61 ⟨H,.refl R,q⟩
 | cons e ifs j =>
  intro l h s H Q J R F q
  ·refine j9 (A2 h) λx o i f t=>?_;subst t;rw[(List.forIn_cons ..)];refine c60 (c60 (m3 (g e x i A s H r lf _ J R F q) (λp b W Z U B Y=>c61 ?_)));have U:p=b:=U;subst U;cases p with
   | true=>exact c62 (j o f Z W Q J B.rel (F.step R B) (Y.1 rfl)) (λb u a=>by refine j5 a λd V O=>?_;clear a;exact ⟨d,B.trans V,O⟩) λ_ _ e=>e
   | false=>exact a8N ifs Z _ ⟨W,B,Y.2 rfl⟩
variable {x:Ev}{cenv:Env}
theorem R7.extX {H g:Hp} {h h':Heap} (F:c8K lf c r H h) (R:c8J H h) (x:Ext X H h g h') (nt:W3 X h) (i:∀ a,X a->¬ FX lf a):c8K lf c r g h':=by
 obtain ⟨kind,glob,blt,q,⟨I,o,O,G,j,Y⟩,U,⟨d,K,l⟩,inj,V,J⟩:=F;have b:¬ X lf.locals:=λz=>i _ z (.inl rfl);have Z:∀ y a,lf.cells.lookup y=some a->¬ X a:=λy a e z=>i _ z (.inr ⟨y,e⟩);refine ⟨kind,glob,blt,q,⟨I,o,x.keep _ _ O d b,G,?_,λy v a k e=>?_⟩,λy k=>?_,⟨x.none d (by rw[O];rfl) b,K,λy a e=>?_⟩,inj,V,J⟩
 ·refine a5M j λQ E D e rest=>?_;clear j;rw [O] at e;have P:=E0 e;clear e;subst P;exact ⟨o,E,D,x.keep _ _ O d b,rest⟩
 ·exact j5 (Y y v a k e) λu B W=>⟨u,B,x.vrep R nt W⟩
 ·refine j9 (U y k) λa u B p w=>j5 p λf W t=>?_;clear p;refine ⟨a,u,B,⟨f,x.keep _ _ W (l y a B).1 (Z y a B),t⟩,λs v e=>?_⟩;exact j5 (w s v e) λz A C=>⟨z,A,x.vrep R nt C⟩
 ·exact T5 (l y a e) λm L M u f n N=>⟨x.none m (by rw[n];rfl) (Z y a e),L,M,u,f,x.keep _ _ n m (Z y a e),N⟩
inductive AK | list | dict (κ:Nat)
noncomputable def b2J:AK->List f5->a0z->Prop
 | .list,acc,mo=>mo=.list acc
 | .dict κ,acc,mo=>∃ l ep,acc=l.map a51/\(∀ p∈l,G6 7 p.1=true/\I7 p.1=κ)/\mo=.dict (I0 l) ep
noncomputable def Acc (ak:AK) (G:Gi) (w:World) (H:Hp) (h:Heap) (D:Addr) (acc:List f5):Prop:=∃ mo,b2J ak acc mo/\a2t G w h D mo/\H D=none/\G.base D=none
theorem Acc.ext {B:AK} {H q:Hp} {h h':Heap} (a:Acc B G w H h D acc) (R:c8J H h) (x:Ext X H h q h') (nt:W3 X h) (J:¬ X D):Acc B G w q h' D acc:=by
 refine N1 a λW e r F U=>?_;clear a;exact j5 r.at_ λo O _=>⟨W,e,r.mono (λ_ _=>x.tup R nt) λo V=>x.keep _ _ V F J,x.none F (by rw[O];rfl) J,U⟩
theorem Acc.nt {B:AK} (a:Acc B G w H h D acc):W3 (·=D) h:=λb o d n O q F V=>by
 refine N1 a λZ e r W Y=>?_;clear a;refine j5 r.at_ λc J R=>?_;rw [show b=D from O,J] at q;have U:=E0 q;clear q;subst U;exact R F
theorem b2L {h':Heap} {t:Nat} (R:c8J H s.heap) (O:H D=none) (U:G.base D=none) (q:Heap.SameBut D s.heap h') (tup:∀ b vs,IsTup s.heap b vs->IsTup h' b vs):c8T (·=D) H s H {s with heap:=h',toks:=t}:=by
 refine ⟨⟨λb o e=>?_,λb V e=>?_⟩,⟨λb o e _ g=>(q.2 b g).trans e,λ_ e=>.inl e,λ_ e=>e,λb e g=>?_⟩,rfl,rfl⟩
 ·exact eA (R.base b o e) λB F=>⟨(q.2 b (by rintro rfl;rw [U] at e;cases e)).trans B,F⟩
 ·exact (R.objs b V e).mono tup λo J=>(q.2 b (by rintro rfl;rw [O] at e;cases e)).trans J
 ·rw[(q.2 b g)];exact e
theorem b2K {x:f5} (a:Acc .list G w H s.heap D acc) (R:c8J H s.heap) (j:j7 G s.heap x u) (hz:acc.length<=2 * o9)
  (q:∀ U,Acc .list G w H U.heap D (acc++[x])->c8T (·=D) H s H U->Q .none U):wpAny c8L A (call (.builtin "list.append") [.ref D,u]) Q D7 s:=by
 refine N1 a λk i c W Y=>?_;clear a;subst i;refine A6 c λB z O r=>?_;clear c;have g:acc.length=B.size:=by rw[r.length];rw[c7K];rfl
 refine call_meets PySem.F.slot_list_append (a9t O) PySem.F.entry_list_append (PySem.F.args_list_append_2 _ _) (list_append D B z u (by refine w3 g ?_;rw[sizeLine_eq];unfold o9 at hz;exact c7g hz (c7d rfl))) ⟨O,?_⟩
 have J:=IsL.update O (λx=>x.push u);have Z:Heap.SameBut D s.heap (s.heap.update D (Obj.mapSeq λx=>x.push u)):=c7b ..;have tup:∀ b B,IsTup s.heap b B->IsTup (s.heap.update D (Obj.mapSeq λx=>x.push u)) b B:=λb B d=>by
  refine P7 d λo e V n f=>?_;clear d;refine ⟨o,(Z.2 b ?_).trans e,V,n,f⟩
  rintro rfl
  rw [O] at e;have h:=E0 e;clear e;subst h;simp at V
 exact q _ ⟨_,rfl,⟨B.push u,_,J,by rw[Array.toList_push];exact (r.mono tup).append (.cons (j.mono tup) .nil)⟩,W,Y⟩ (b2L (t:=s.toks) R W Y Z tup)
structure Cl (G:Gi) (w:World) (cenv:Env) (wr:List Addr) (D:Addr):Prop where
 dw:D∉wr
 dj:∀ b∈wr,¬ FX cenv b
 dd:¬ FX cenv D
noncomputable def CX (cenv:Env) (wr:List Addr) (D:Addr):Addr->Prop:=λa=>a∈wr\/a=D\/a=cenv.locals
structure Inv (lc:Program) (w:World) (G:Gi) (c':Cx) (cenv:Env) (r0:En) (D:Addr) (H:Hp) (s:Shared) (acc:List f5):Prop where
 rel:A7 G w H s.heap
 frm:R7 G w cenv c' r0 H s.heap
 acc:Acc .list G w H s.heap D acc
variable {xs:List f5}
noncomputable def YX (cenv:Env) (D:Addr):Addr->Prop:=λa=>a=D\/a=cenv.locals
abbrev c80:=Inv lc w G
theorem a8y {H B:Hp} {s J:Shared} (st:c8T X H s B J) (own:∀ b∈wr,H b=none/\G.base b=none) (there:∀ b∈wr,∃ o,s.heap.get? b=some o/\K6 o) (F:∀ b∈wr,¬ X b):∀ b∈wr,B b=none/\G.base b=none:=λb q=>by
 exact j5 (there b q) λo e _=>⟨st.ext.none (own b q).1 (by rw[e];rfl) (F b q),(own b q).2⟩
theorem a4s {src:Src} {tup:Bool} {St:Nat->Heap->Prop} {i:Nat} {H F:Hp} {s B:Shared} (O:c8W I wr src tup St) (R:c8J H s.heap) (h:St i s.heap) (st:c8T X H s F B) (own:∀ b∈wr,H b=none/\G.base b=none) (J:∀ b∈wr,¬ X b) (nt:W3 X s.heap):St i B.heap :=
 O.frame i _ _ h (λb q o e=>st.ext.keep b o e (own b q).1 (J b q)) λa U t=>st.ext.tup R nt t
theorem Inv.noTup {J:Cx} (I:c80 J cenv r D H s acc):W3 (YX cenv D) s.heap:=λa o Y n R B O F=>by
 rcases R with rfl | rfl
 ·exact I.acc.nt _ _ _ _ rfl B O F
 ·refine j9 I.frm.loc λ_ W q U _=>?_;rw [B] at q;have V:=E0 q;clear q;subst V;exact U _ _ F
theorem a43 {src:Src} {tup:Bool} {St:Nat->Heap->Prop} {i:Nat} (R:c8W I wr src tup St) (st:St i h):W3 (·∈wr) h:=λa o W n O B _ F=>by
 refine j5 (R.nons _ _ st a O) λV q J=>?_;rw [B] at q;have U:=E0 q;clear q;subst U;exact J _ _ F
theorem Inv.back {r B:En} {q:Cx} (I:c80 q cenv r D H s acc) (h:∀ y v,B y=some v->r y=some v):c80 q cenv B D H s acc:=⟨I.rel,I.frm.sub h,I.acc⟩
theorem a5H {B J:En} (q:∀ y∈t,B y=none) (R:a0k t one v B J) (y:Nm) (O:f5) (e:B y=some O):J y=some O:=by
 by_cases F:y∈t
 ·rw [q y F] at e;cases e
 ·rw[(a5G R F)];exact e
noncomputable def b0h (lc:Program) (w:World) (A:Around) (c0:Code) (I:Addr) (tg:c8H) (cenv:Env) (rest:Sem Fin):Prop :=
 ∀ (s:Shared) (Q:Fin->Shared->Prop),wpAny (model lc w) A (pyNext (.ref I)) (λo s1=>match o with
   | none=>Q (.done .next) s1
   | some u=>wpAny (model lc w) A (letOwnedTupleGo tg (.ref I) u) (λ_ s2=>wpAny (model lc w) A (assign tg cenv u) (λ_ s3=>wpAny (model lc w) A rest Q D7 s3) D7 s2) D7 s1) D7 s ->
  wpAny (model lc w) (A.under c0) ((model lc w).den c0) Q (λ_ _=>False) s
theorem a3s {k:Cx} {c0:Code} {src:Src} {tup:Bool} {St:Nat->Heap->Prop} {rest:Sem Fin} {X:En} {R:Result->Shared->Prop}
  {Y:f5->Hp->(List f5->Hp->Prop)->Prop} {body:En->Hp->(List f5->Hp->Prop)->Prop} (g:Gk G) (hh:A.handled=none) (hq:c0.quiet=true) (hT:b0h lc w A c0 I tg cenv rest) (C:c8W I wr src tup St) (Z:Cl G w cenv wr D)
  (a5:a0T tg=some (t,one)) (M:X9 (Y5 k) tg=true) (N:tup=true->a6J tg=true) (x:∀ v H P,Y v H P->∃ j,a0k t one v X j/\body j H P) {pre:List f5} (a9:pre.length<=o9)
  (y:∀ (s:Shared) (H:Hp) (j:En) (v:f5) (acc:List f5) (P:List f5->Hp->Prop),c80 k cenv j D H s acc->acc.length<=pre.length+o9->a0k t one v X j->body j H P ->
   wpAny c8L A rest (λd V=>d=.again c0/\∃ xs c,c80 k cenv X D c V (acc++xs)/\c8T (YX cenv D) H s c V/\P xs c) D7 s) :
  ∀ (nf i:Nat) (acc:List f5) (s:Shared) (H:Hp) (Q:List f5->Hp->Prop),c80 k cenv X D H s (pre++acc)->St i s.heap->(∀ b∈wr,H b=none/\G.base b=none)->a1L Y src nf i acc H Q ->
   (∀ O c V,c80 k cenv X D c V (pre++O)->c8T (CX cenv wr D) H s c V->Q O c->R (.ok .next) V)->codeAny c8L A c0 R s:=by
 intro nf;induction nf with
 | zero=>intro _ _ _ _ _ _ _ _ q _;exact q.elim
 | succ nf ih =>
  intro i acc s H Q F st U q hR;refine y4 q λo hn q1 q2=>?_;clear q;refine codeAny_of_tree (c62 (hT s (λd V=>match d with | .done f=>R (.ok f) V | .again c1=>c1.quiet=true/\codeAny c8L A c1 R V) ?_) (λ_ _ h=>h) λ_ _ e=>e.elim)
  cases o with
  | none =>
   refine c62 (C.next A i s H none hh F.rel st U hn) (λo s1 K=>?_) λ_ _ e=>e;refine eA K λq4 B=>?_;clear K;subst q4;have nt:=a43 C st;exact hR acc H s1 ⟨B.rel,F.frm.extX F.rel B.ext nt Z.dj,F.acc.ext F.rel B.ext nt Z.dw⟩ (B.weaken λa h=>.inl h) (q1 rfl)
  | some v =>
   refine eA (q2 v rfl) λhz q=>c62 (C.next A i s H (some v) hh F.rel st U hn) (λo s1 K=>?_) λ_ _ e=>e;refine a2U K λu q6 ru B _ a6 a4=>?_;clear K;subst q6;have nt:=a43 C st;refine a4 tg _ N λs2 J a0=>j5 (x v H _ q) λj r q=>?_;have f1:=F.frm.extX F.rel B.ext nt Z.dj;have a1:=F.acc.ext F.rel B.ext nt Z.dw;have z:W3 (·∈wr) s1.heap:=λa o vs n hX e1 _ e2=>by
    refine j5 (a6 a hX) λo' e3 e4=>?_;rw [e1] at e3;have q3:=E0 e3;clear e3;subst q3;exact e4 _ _ e2
   have f2:=f1.extX B.rel J.ext z Z.dj;have a2:=a1.ext B.rel J.ext z Z.dw;have a7:=J.ext.vrep B.rel z ru;refine b4X true g hh a5 M r J.rel f2 a7 λs3 f3 W=>?_;have nw:∀ b∈wr,¬ XS cenv k true b:=λb r e=>Z.dj b r (XS.fx e);have nD:¬ XS cenv k true D:=λe=>Z.dd (XS.fx e);have a3:=a2.ext J.rel W.ext (a6S f2) nD;have b0:=U;have l:St (i+1) s3.heap:=a4s C J.rel a0 W U nw (a6S f2)
   have m:c80 k cenv j D H s3 (pre++acc):=⟨W.rel,f3,a3⟩;refine c62 (y s3 H j v (pre++acc) _ m (by rw[c7P];exact Nat.add_le_add_iff_left.mpr hz) r q) (λd s4 h4=>?_) λ_ _ e=>e
   refine b8o h4 λq5 xs H4 p E q4=>?_;clear h4;subst q5;have S:∀ b∈wr,¬ YX cenv D b:=λb r e=>by
    rcases e with rfl | rfl
    ·exact Z.dw r
    ·exact Z.dj _ r (.inl rfl)
   have L:St (i+1) s4.heap:=a4s C W.rel l E U S m.noTup;have T:=a8y E U (C.nons _ _ l) S;rw [List.append_assoc] at p;refine ⟨hq,ih (i+1) (acc++xs) s4 H4 Q p L T q4 λO c V i5 a8 q5=>?_⟩;refine hR O c V i5 ?_ q5;refine (B.weaken λa h=>.inl h).trans ((J.weaken λa h=>.inl h).trans ((W.weaken λa h=>.inr (.inr h)).trans ((E.weaken λa h=>.inr h).trans a8)))
variable {p:Pos}{elt iter:c8H}
noncomputable def a8E (ifs:List c8H) (elt:c8H) (cenv:Env) (D:Addr) (c0:Code):Sem Fin :=
 (forIn ifs true λc r=>if r=true then do let ok<-isTrue c cenv (eval c cenv);pure (ForInStep.yield ok) else pure (ForInStep.yield r))>>=λok =>
  if ok=true then (eval elt cenv>>=λx=>call (.builtin "list.append") [.ref D,x]>>=λ_=>pure ())>>=λ_=>again c0 else again c0
theorem a93 :
  b0h lc w A (.compLoop (.ListComp elt [⟨tg,iter,ifs,0⟩] sc pos) 0 (.ref I) (.ref D) cenv) I tg cenv (a8E ifs elt cenv D (.compLoop (.ListComp elt [⟨tg,iter,ifs,0⟩] sc pos) 0 (.ref I) (.ref D) cenv)):=by
 intro s Q h;show wpAny _ A ((compTurn (.ListComp elt [⟨tg,iter,ifs,0⟩] sc pos) 0 (.ref I) (.ref D) cenv).onRaise (λx=>do noteFrame x cenv;theTreesLotGoes x)) _ _ s
 refine wpAny_noted ?_;rw[(compTurn_list ..)];refine c60 (c65 (c60 (c62 h (λo O B=>?_) λ_ _ e=>e.elim)));cases o with
 | none=>exact c61 B
 | some u =>
  refine c60 (c62 B (λ_ R F=>c60 (c62 F (λ_ U J=>?_) λ_ _ e=>e.elim)) λ_ _ e=>e.elim);exact c62 J (λ_ _ q=>q) λ_ _ e=>e.elim
theorem a53 {R:Cx} {l:List Cv} {i:Code} (G:∀ e x,trC k R e=some x->c8P m R e x) (I:c8I m R elt x) (K:G2 (trC k R) ifs=some l) (g:AOk n m A)
  (C:¬ FX cenv D) (s:Shared) (H:Hp) (V o:En) (acc:List f5) (P:List f5->Hp->Prop) (F:c80 R cenv V D H s acc) (hz:acc.length<=2 * o9) (U:∀ y v,o y=some v->V y=some v)
  (q:a2E x (a1E l) c8Q V H P) :
  wpAny c8L A (a8E ifs elt cenv D i) (λZ p=>Z=.again i/\∃ xs W,c80 R cenv o D W p (acc++xs)/\c8T (YX cenv D) H s W p/\P xs W) D7 s:=by
 refine c60 (c62 (b4V G ifs l K s H _ g F.rel F.frm q) (λb N r=>?_) λ_ _ e=>e);refine j5 r λc B j=>?_;clear r;have Y:=F.frm.step F.rel B;have d:=F.acc.ext F.rel B.ext .no (λz=>z);cases b with
 | false =>
  rw[(c7W c7u)];refine c61 ⟨rfl,[],c,⟨B.rel,Y.sub U,by rw[(c8d ..)];exact d⟩,B.no,j.2 rfl⟩
 | true =>
  rw[(c7X rfl)];refine c60 (c60 (m3 (I A N c V cenv _ g B.rel Y (j.1 rfl)) (λy u t Q M J L=>?_)));have E:=Y.step B.rel J;have f:=d.ext B.rel J.ext .no (λz=>z);refine c60 (b2K f J.rel M hz λS w O=>c61 (c61 ⟨rfl,[y],t,⟨O.rel,R7.sub ?_ U,w⟩,?_,L⟩))
  ·exact E.extX J.rel O.ext f.nt (λa h=>by rw[(show a=D from h)];exact C)
  ·exact (B.no).trans ((J.no).trans (O.weaken λa h=>.inl h))
variable {it:It}
noncomputable def a5m (G:Gi) (w:World) (lf:Env) (c:Cx) (H:Hp) (s:Shared) (P:En->Hp->Prop) (s':Shared):Prop:=∃ r' H',n7 G w (FX lf) H s H' s'/\R7 G w lf c r' H' s'.heap/\P r' H'
theorem a9K {m:Str->Option Value} (x:h.Ns a m):∃ o,h.get? a=some o/\K6 o:=by
 refine a0M x λo J F B q _=>?_;clear x;exact ⟨o,B,λO n e=>by rw [q] at e;cases e⟩
theorem A7.but0 {h h':Heap} (R:c8J H h) (e:h.get? a=some o) (U:K6 o) (f:H a=none) (b:G.base a=none) (x:X a) (s:Heap.SameBut a h h') :
  c8J H h'/\Ext X H h H h':=by
 have tup:∀ b B,IsTup h b B->IsTup h' b B:=λb B t=>by
  refine P7 t λV q c n d=>?_;clear t;exact ⟨V,(s.2 b (by rintro rfl;rw [e] at q;have W:=E0 q;clear q;subst W;exact U _ _ d)).trans q,c,n,d⟩
 refine ⟨⟨λc o q=>?_,λc O q=>?_⟩,⟨λc o q g y=>?_,λc q=>.inl q,λc q=>q,λc q y=>?_⟩⟩
 ·exact eA (R.base c o q) λF J=>⟨(s.2 c (by rintro rfl;rw [b] at q;cases q)).trans F,J⟩
 ·exact (R.objs c O q).mono tup λo e=>(s.2 c (by rintro rfl;rw [f] at q;cases q)).trans e
 ·exact (s.2 c (by rintro rfl;exact y x)).trans q
 ·rw[(s.2 c (by rintro rfl;exact y x))];exact q
theorem a5f {H B:Hp} {s q:Shared} {C:Addr} {m:Str->Option Value} {h':Heap} (st:c8T X H s B q) (e:q.heap.Ns C m) (O:B C=none) (R:G.base C=none) (J:s.heap.get? C=none) (W:Heap.SameBut C q.heap h') :
  c8T X H s B {q with heap:=h'}/\c8T (·=C) B q B {q with heap:=h'}:=by
 refine j5 (a9K e) λo V no=>?_;have b:=st.rel.but0 (X:=(·=C)) V no O R rfl W;have F:c8T (·=C) B q B {q with heap:=h'}:=⟨b.1,b.2,rfl,rfl⟩
 refine ⟨?_,F⟩;have t:=(st.weaken (Y:=λa=>X a\/a=C) λ_=>.inl).trans (F.weaken λ_=>.inr);exact ⟨t.rel,t.ext.compress λa U=>U.imp id λe=>by rw[e];exact J,t.gens,t.os⟩
noncomputable def a6j:AK->Obj
 | .list=>{cls:=.type "list",data:=.seq #[]}
 | .dict _=>{cls:=.type "dict",data:=.dict #[]}
noncomputable def b76:AK->a0z
 | .list=>.list []
 | .dict _=>.dict [] 0
theorem b0i (q:AK):b2J q [] (b76 q):=by
 cases q with
 | list=>rfl
 | dict=>exact ⟨[],0,rfl,λp B=>by simp at B,rfl⟩
theorem a4w (q:AK) (e:h.get? a=some (a6j q)):a2t G w h a (b76 q):=by
 cases q with
 | list=>exact ⟨#[],0,e,.nil⟩
 | dict=>exact ⟨c8g,⟨λp B=>by simp at B,λp B=>by simp at B⟩,#[],e,rfl⟩
noncomputable def b2G (lc:Program) (w:World) (G:Gi) (A:Around) (e:c8H) (tup:Bool) (c':Cx) (r0:En) (turnM:f5->Hp->(List f5->Hp->Prop)->Prop) (Qc:List f5->Hp->Prop):Prop :=
 ∀ (I:Addr) (wr:List Addr) (src:Src) (St:Nat->Heap->Prop) (cenv:Env) (D:Addr) (nf:Nat) (s:Shared) (H:Hp) (Rr:Result->Shared->Prop),a0h lc w G I wr src tup St->Cl G w cenv wr D->Inv lc w G c' cenv r0 D H s []->St 0 s.heap ->
  (∀ b∈wr,H b=none/\G.base b=none)->a1L turnM src nf 0 [] H Qc->(∀ acc' H' s',Inv lc w G c' cenv r0 D H' s' acc'->n7 G w (CX cenv wr D) H s H' s'->Qc acc' H'->Rr (.ok .next) s') ->
  codeAny (model lc w) A (.compLoop e 0 (.ref I) (.ref D) cenv) Rr s
theorem a4C {O:Sem Value} {g:PySem.Comprehension} {gs:List PySem.Comprehension} {use:Option (Value->Sem Unit)}
  {E:f5->Hp->(List f5->Hp->Prop)->Prop} {Qc:List f5->Hp->Prop} {Qm:f5->Hp->Prop}
  (d1:clausesOf e=g :: gs) (c0:a1e c sc must=true) (e5:SIt lc w G n m c g.iter it) (al:AOk n m A) (R:c8J H s.heap) (F:c8K lf c r H s.heap)
  (q:it.iv (j3 G.F n) r H λsrc H1=>∃ nf,a1L E src nf 0 [] H1 Qc) (d0:∀ xs K mo,Qc xs K->b2J .list xs mo->alloc mo K Qm)
  (b8:∀ (s:Shared) (Q:Value->Shared->Prop),Q (.ref s.heap.objs.size) {s with heap:=s.heap.push (a6j .list)}->wpAny c8L A O Q D7 s)
  (T:∀ (I D:Addr) (cenv:Env) (s:Shared) (Rr:Result->Shared->Prop),(∀ Q:Value->Shared->Prop,Q (.ref I) s->wpAny c8L A (pyIter (.ref I)) Q D7 s)->codeAny c8L A (.compLoop e 0 (.ref I) (.ref D) cenv) Rr s->codeAny c8L A (.compStart e 0 (.ref I) (.ref D) cenv) Rr s)
  (b0:b2G lc w G A e it.tup (sub c sc) (T7 must r) E Qc)
  (b1:use=none->∀ D H' s',c8T S5 H s H' s'->Qm (.ref D) H'->Q (.ref D) s')
  (b2:∀ u,use=some u->∃ P,(∀ D H' s',c8T S5 H s H' s'->Qm (.ref D) H'->wpAny c8L A (u (.ref D)) (λ_ e0=>a5m G w lf c H' s' P e0) D7 s')/\∀ s',a5m G w lf c H s P s'->Q .none s') :
  wpAny c8L A (comprehension e sc lf pos O false (eval g.iter lf) use) Q D7 s:=by
 refine eAA (a1f c0) λc1 b4 f1=>eA (e5 A s H r lf _ al R F q) λs1 s2=>?_;have f:∀ p∈sc.names,p.2=.free->(lf.cells.lookup p.1).isSome=true:=λp hp e=>by
  refine A6 (F.cel p.1 ((b4 p hp).2.1 e)) λa u h1 _=>?_;rw[h1];rfl
 refine wpAny_comprehension_free d1 s1 (a9a f) c1 (λp hp e=>(b4 p hp).2.2 e) (c62 s2 (λx t1 h1=>c62 h1 (λv V h2=>?_) λ_ _ e=>e) λ_ _ e=>e);refine a1j h2 λI wr src St H1 q4 ok h0 fr a0 nf q=>?_;clear h2;subst q4;refine b8 V _ (wpAny_newFunctionEnv (λx hx=>(b4 x hx).1) (by intro y hy;simp at hy) (λh3 S i=>?_) c1)
 dsimp only at S i ⊢;generalize hP:V.heap.push (a6j .list)=HP at S i ⊢;have R2:=a0.rel;have RP:c8J H1 HP:=by refine w3 hP ?_;exact R2.push _
 have Z:HP.objs.size=V.heap.objs.size+1:=by refine w3 hP ?_;rw[(Heap.size_push ..)];rfl
 generalize hD:V.heap.objs.size=D at Z;generalize hC:HP.objs.size=C at S i Z;have a8:D≠C:=by rw[Z];exact c7F (c7y _)
 refine eAA (K7 (k:=D) R2 (c7z hD)) λa7 c4 c5=>eAA (K7 (k:=C) R2 (by rw[Z];refine w3 hD ?_;exact Nat.le_succ _)) λM b5 N=>?_
 refine eAA (K7 (k:=C) RP (c7z hC)) λe8 _ _=>?_;have old:∀ b o,V.heap.get? b=some o->h3.get? b=some o:=λb o e=>by
  have hb:=c7c e;refine (i.extBut b o (by rw[Z];refine w3 hD ?_;exact c7F (c8n hb)) (c67 _ ?_))
  refine w3 hP ?_;exact c67 _ e
 have c7:h3.get? D=some (a6j .list):=by
  refine i.extBut _ _ a8 (c67 _ ?_);refine w3 hP ?_;refine w3 hD ?_;exact c68 _ rfl
 have tup:∀ b vs,IsTup V.heap b vs->IsTup h3 b vs:=λb vs z1=>by refine j5 z1 λo e r=>?_;clear z1;exact ⟨o,old b o e,r⟩
 have c2:∀ t:Nat,c8T S5 H1 V H1 {V with heap:=h3,toks:=t}:=λt=>by
  refine ⟨⟨λb o e=>⟨old b o (R2.base b o e).1,(R2.base b o e).2⟩,λb mo e=>(R2.objs b mo e).mono tup λo ho=>old b o ho⟩,⟨λb o e _ _=>old b o e,λ_ e=>.inl e,λ_ e=>e,λb e _=>?_⟩,rfl,rfl⟩;refine eE (c8y e) λo eo=>?_;rw[(old b o eo)];rfl
 have a6:=a0.trans (c2 (V.toks+([]:List (Str×Value)).length));have B:∀ a,V.heap.get? a=none->s.heap.get? a=none:=λa e=>by
  cases q:s.heap.get? a with
  | none=>rfl
  | some o =>
   have:=a0.ext.there a (by rw[q];rfl) (λz=>z)
   rw [e] at this;exact nomatch this
 have e9:H C=none:=by
  cases q:H C with
  | none=>rfl
  | some mo=>have:=a0.ext.grow C (by rw[q];rfl);rw [b5] at this;exact nomatch this
 have F3:c8K (compEnvC sc (S7 lf sc.names []) C lf) (sub c sc) (T7 must r) H1 h3:=by
  refine b23 F R c0 (a6.ext) (B C M) ?_ b5 N;have:(λx=>List.lookup x ([]:List (Str×Value)).reverse)=λ_=>(none:Option Value):=rfl;refine w3 this ?_;exact S
 have L:∀ x a,(S7 lf sc.names []).lookup x=some a->lf.cells.lookup x=some a:=a3Y (lf:=lf) sc.names [] f (λx a e=>by cases e)
 have c6:∀ a,FX (compEnvC sc (S7 lf sc.names []) C lf) a->a=C\/∃ o,s.heap.get? a=some o:=λa h=>by
  rcases h with rfl | ⟨x,e⟩
  ·exact .inl rfl
  ·exact T5 (F.own.2.2 x a (L x a e)) λ_ _ _ u o W _=>.inr ⟨o,W⟩
 have j:∀ a,s.heap.get? a=none->a≠C->¬ FX (compEnvC sc (S7 lf sc.names []) C lf) a:=λa e d2 h=>by
  rcases c6 a h with rfl | ⟨o,W⟩
  ·exact d2 rfl
  ·rw [e] at W;cases W
 have c3:∀ b∈wr,∃ o,V.heap.get? b=some o:=λb hb=>by refine j5 (ok.nons _ _ h0 b hb) λo e _=>?_;exact ⟨o,e⟩
 have cl:Cl G w (compEnvC sc (S7 lf sc.names []) C lf) wr D:=by
  refine ⟨λhm=>?_,λb hb=>?_,j D (B D a7) a8⟩
  ·refine eE (c3 D hm) λo e=>?_;rw [a7] at e;cases e
  ·refine j b (fr b hb).1 ?_
   rintro rfl
   refine eE (c3 _ hb) λo e=>?_;rw [M] at e;cases e
 have d4:c80 (sub c sc) (compEnvC sc (S7 lf sc.names []) C lf) (T7 must r) D H1 {V with heap:=h3,toks:=V.toks+([]:List (Str×Value)).length} [] :=
  ⟨(c2 _).rel,F3,b76 .list,b0i .list,a4w .list c7,c4,c5⟩
 have b7:St 0 h3:=ok.frame 0 _ _ h0 (λb _ o e=>old b o e) tup;refine T I D _ _ _ (λQ' c9=>ok.self A 0 _ _ b7 c9) (b0 I wr src St (compEnvC sc (S7 lf sc.names []) C lf) D nf _ H1 _ ok cl d4 b7 (λb hb=>(fr b hb).2) q λxs K s5 J e6 q5=>N1 J.acc λmo a1 a2 a3 a4=>?_);have hm:=d0 xs K mo q5 a1 D a3;have r6:c8J (K.set D mo) s5.heap:=by
  refine ⟨λa o e=>⟨(J.rel.base a o e).1,?_⟩,λa d5 e=>?_⟩
  ·unfold Hp.set;rw[(c7W (by rintro rfl;rw [a4] at e;cases e))]
   exact (J.rel.base a o e).2
  ·unfold Hp.set at e
   split at e
   ·rename_i h;subst h;have q1:=E0 e;clear e;subst q1;exact a2
   ·exact J.rel.objs a d5 e
 have e7:c8T (·=D) K s5 (K.set D mo) s5:=by
  refine ⟨r6,⟨λa o e _ _=>e,λa e=>?_,λa e=>?_,λa e _=>e⟩,rfl,rfl⟩
  ·unfold Hp.set at e
   split at e
   ·rename_i h;exact .inr (.inr h)
   ·exact .inl e
  ·unfold Hp.set
   split
   ·rfl
   ·exact e
 have a5:c8T S5 H s (K.set D mo) s5:=by
  have t:=(a6.no (Y:=CX (compEnvC sc (S7 lf sc.names []) C lf) wr D)).trans (e6.trans (e7.weaken λa h=>.inr (.inl h)));refine ⟨t.rel,t.ext.compress λa ha=>.inr ?_,t.gens,t.os⟩;rcases ha with ha | rfl | rfl
  ·exact (fr a ha).1
  ·exact B _ a7
  ·exact B _ M
 have sC:s.heap.get? C=none:=B C M;obtain ⟨mm,oC,d3,f0,X,_⟩:∃ mm oC,s5.heap.get? C=some oC/\K6 oC/\s5.heap.Ns C mm/\True:=by
  exact J6 J.frm.loc λmm oC a b d _=>⟨mm,oC,a,b,d,trivial⟩
 have a9:(K.set D mo) C=none:=by
  unfold Hp.set;rw[(c7W a8.symm)];exact J.frm.own.1
 have b3:¬ FX lf C:=λh=>by
  rcases h with e | ⟨x,e⟩
  ·refine A6 F.loc λ_ o ho _=>?_;rw [<- e,sC] at ho;cases ho
  ·refine T5 (F.own.2.2 x C e) λ_ _ _ u o W _=>?_;rw [sC] at W;cases W
 cases use with
 | none =>
  refine ⟨mm,X,λh' sb=>?_⟩;exact b1 rfl D _ _ (a5f a5 X a9 N sC sb).1 hm
 | some u =>
  refine j5 (b2 u rfl) λP hu c8=>c62 (hu D _ _ a5 hm) (λ_ s8 h8=>?_) λ_ _ e=>e;refine j9 h8 λr' H8 l F8 p8=>?_;clear h8;have U:s8.heap.Ns C mm:=by
   refine a5M X λo' es ep e rest=>?_;clear X;exact ⟨o',es,ep,l.ext.keep _ _ e a9 b3,rest⟩
  have b6:H8 C=none:=l.ext.none a9 (by rw[d3];rfl) b3
  refine ⟨mm,U,λh' sb=>c8 _ ⟨r',H8,(a5f (a5.no.trans l) U b6 N sC sb).1,?_,p8⟩⟩;have b:=a5f (a5.no.trans l) U b6 N sC sb;refine F8.extX l.rel b.2.ext (λa o vs n hX W ec e2=>?_) λa h=>by rw[(show a=C from h)];exact b3
  refine j5 (a9K U) λo' e3 e4=>?_;rw [show a=C from hX,e3] at W;have q3:=E0 W;clear W;subst q3;exact e4 _ _ e2
theorem a21 {y:Nm} (h:y∉must.map nm):T7 must r y=r y:=by unfold T7;rw[(c7W h)];rfl
theorem a6D {y:Nm} (h:y∈must.map nm):T7 must r y=none:=by unfold T7;rw[(c7X h)];rfl
theorem a3E {r B:En} (q:a0T tg=some (t,one)) (h:a0k t one v r B):a0k t one v (T7 (a0u tg) r) B :=
 a7v h λy F=>a21 (by rw[(T2 q)];exact F)
theorem a7c (q:a0T tg=some (t,one)) (h:a2J it one=true):it.tup=true->a6J tg=true:=λB=>by
 unfold a2J at h;rw [B] at h;cases tg with
 | Name x p=>refine j5 (n9 q) λ_ _ e=>?_;cases e;exact nomatch h
 | Tuple _ _ _=>rfl
 | _=>exact A3 q
theorem a9B {l:List Cv} {W:List f5->Hp->Prop} (g:Gk G) (Y:AOk n m A)
  (d:∀ e x,trC k (sub c sc) e=some x->c8P m (sub c sc) e x) (f:c8I m (sub c sc) elt x) (j:G2 (trC k (sub c sc)) ifs=some l)
  (B:a0T tg=some (t,one)) (J:X9 (Y5 (sub c sc)) tg=true) (R:a2J it one=true) :
  b2G lc w G A (.ListComp elt [⟨tg,iter,ifs,0⟩] sc pos) it.tup (sub c sc) (T7 (a0u tg) r) (a5h t one r (a2E x (a1E l) c8Q)) W:=by
 intro I E src St cenv D p s H C u Z F z U q i;refine a3s (pre:=[]) g Y.h rfl a93 u Z B J (a7c B R) (λv H P b=>by refine j5 b λV O q=>?_;clear b;exact ⟨V,a3E B O,q⟩) (c7q _) (λs H V v acc P F a O q=>?_) p 0 [] s H W F z U q i
 exact a53 d f j Y Z.dd s H V _ acc P F (by simp only [List.length_nil] at a;exact c2n a) (a5H (λy o=>a6D (by rw[(T2 B)];exact o)) O) q
theorem Gok.sub (g:Gok G c):Gok G (Mine.Internal.sub c sc):={g with cl:=g.cl,at_:=g.at_,me:=g.me,fn:=g.fn,cls:=g.cls,fun_:=λq name B h=>by refine y4 (g.fun_ q name B h) λf a b d=>?_;exact ⟨f,a,b.cx,d⟩,keepf:=g.keepf,nolim:=g.nolim,blt:=g.blt}
noncomputable def SU (lc:Program) (w:World) (G:Gi) (n m:Nat) (c:Cx) (e:c8H) (x:Ev):Prop :=
 ∀ (A:Around) (s:Shared) (H:Hp) (r:En) (lf:Env) (Qm:f5->Hp->Prop) (P:En->Hp->Prop) (u:Value->Sem Unit),AOk n m A->A7 G w H s.heap->R7 G w lf c r H s.heap->x (j3 G.F n) r H Qm ->
  (∀ D H' s',n7 G w S5 H s H' s'->Qm (.ref D) H'->wpAny (model lc w) A (u (.ref D)) (λ_ s''=>a5m G w lf c H' s' P s'') D7 s')->wpAny (model lc w) A (evalThenUse e lf u) (λ_ s'=>a5m G w lf c H s P s') D7 s
abbrev c85:=SU lc w G n
theorem b3R {l:List Cv} (g:Gok G c)
  (o:∀ e x,trC k (sub c sc) e=some x->c8P m (sub c sc) e x) (p:c8I m (sub c sc) elt x) (v:G2 (trC k (sub c sc)) ifs=some l) (f:c8Y m c iter it)
  (a:a1e c sc (a0u tg)=true) (b:a0T tg=some (t,one)) (W:X9 (Y5 (sub c sc)) tg=true) (Z:a2J it one=true) :
  c8I m c (.ListComp elt [⟨tg,iter,ifs,0⟩] sc pos) (A9 x t one it (a1E l))/\c85 m c (.ListComp elt [⟨tg,iter,ifs,0⟩] sc pos) (A9 x t one it (a1E l)):=by
 have Y:∀ (A:Around) (s:Shared) (H:Hp) (r:En) (J:Env) (U:f5->Hp->Prop) (use:Option (Value->Sem Unit)) (Q:Value->Shared->Prop),AOk n m A->c8J H s.heap->c8K J c r H s.heap->(A9 x t one it (a1E l)) c8Q r H U ->
   (use=none->∀ D O B,c8T S5 H s O B->U (.ref D) O->Q (.ref D) B) ->
   (∀ u,use=some u->∃ P,(∀ D O B,c8T S5 H s O B->U (.ref D) O->wpAny c8L A (u (.ref D)) (λ_ d=>a5m G w J c O B P d) D7 B)/\∀ B,a5m G w J c H s P B->Q .none B) ->
   wpAny c8L A (comprehension (.ListComp elt [⟨tg,iter,ifs,0⟩] sc pos) sc J (firstIterPos [⟨tg,iter,ifs,0⟩] pos) (PySem.newList []) false (eval iter J) use) Q D7 s:=by
  intro A s H r J U use Q V R F q i j;refine a4C (g:=⟨tg,iter,ifs,0⟩) (gs:=[]) rfl a f V R F q (λL M C h e=>?_) (λs Q h=>c66 h) (λI D cenv s N y h=>codeAny_compStart_list h (c62 (y _ h) (λ_ _ h=>h) λ_ _ e=>e.elim)) (a9B g.toGk V o p v b W Z) i j;rw[(show C=.list L from e)];exact h
 refine ⟨λA s H r J Q V R F q=>?_,λA s H r J U P u V R F q z=>?_⟩
 ·exact Y A s H r J Q none (Got G w (j7 G) H s Q) V R F q (λ_ D O B K q=>⟨.ref D,O,.ref,K,q⟩) λu e=>nomatch e
 ·exact c60 (Y A s H r J U (some u) (λ_ B=>wpAny c8L A (pure ()) (λ_ B=>a5m G w J c H s P B) D7 B) V R F q (λe=>nomatch e) λS e=>by have E:=E0 e;clear e;subst E;exact ⟨P,z,λB h=>c61 h⟩)
variable {tg2 iter2:c8H}
noncomputable def b4u (e:c8H) (iter2:c8H) (cenv:Env) (D:Addr) (c0:Code):Sem Fin :=
 (eval iter2 cenv>>=λx=>standAt iter2.pos>>=λ_=>foldedSetIterable iter2 cenv x>>=λx=>holding [x] (pyIter x)>>=λi=>runOwn (.compStart e 1 i (.ref D) cenv) cenv>>=λ_=>again c0)
theorem a6n (elt F iter B q:c8H) (ifs:List c8H) (O:Scope) (pos:Pos) (J:Value) (D:Addr) (lf:Env) :
  compTurn (.ListComp elt [⟨F,iter,[],0⟩,⟨B,q,ifs,0⟩] O pos) 0 J (.ref D) lf=(standAt iter.pos>>=λ_=>pyNext J>>=λr=>match r with
   | none=>pure (.done .next)
   | some v=>letOwnedTupleGo F J v>>=λ_=>assign F lf v>>=λ_ =>
     b4u (.ListComp elt [⟨F,iter,[],0⟩,⟨B,q,ifs,0⟩] O pos) q lf D (.compLoop (.ListComp elt [⟨F,iter,[],0⟩,⟨B,q,ifs,0⟩] O pos) 0 J (.ref D) lf)):=by rfl
theorem a7C (elt O iter B q:c8H) (ifs:List c8H) (J:Scope) (pos:Pos) (F:Value) (D:Addr) (lf:Env) :
  compTurn (.ListComp elt [⟨O,iter,[],0⟩,⟨B,q,ifs,0⟩] J pos) 1 F (.ref D) lf=(standAt q.pos>>=λ_=>pyNext F>>=λr=>match r with
   | none=>pure (.done .next)
   | some v=>letOwnedTupleGo B F v>>=λ_=>assign B lf v>>=λ_ =>
     a8E ifs elt lf D (.compLoop (.ListComp elt [⟨O,iter,[],0⟩,⟨B,q,ifs,0⟩] J pos) 1 F (.ref D) lf)):=by rfl
theorem b2y :
  b0h lc w A (.compLoop (.ListComp elt [⟨tg,iter,[],0⟩,⟨tg2,iter2,ifs,0⟩] sc pos) 0 (.ref I) (.ref D) cenv) I tg cenv
   (b4u (.ListComp elt [⟨tg,iter,[],0⟩,⟨tg2,iter2,ifs,0⟩] sc pos) iter2 cenv D (.compLoop (.ListComp elt [⟨tg,iter,[],0⟩,⟨tg2,iter2,ifs,0⟩] sc pos) 0 (.ref I) (.ref D) cenv)):=by
 intro s Q h;show wpAny _ A ((compTurn (.ListComp elt [⟨tg,iter,[],0⟩,⟨tg2,iter2,ifs,0⟩] sc pos) 0 (.ref I) (.ref D) cenv).onRaise (λx=>do noteFrame x cenv;theTreesLotGoes x)) _ _ s
 refine wpAny_noted ?_;rw[(a6n ..)];refine c60 (c65 (c60 (c62 h (λo O B=>?_) λ_ _ e=>e.elim)));cases o with
 | none=>exact c61 B
 | some u =>
  refine c60 (c62 B (λ_ R F=>c60 (c62 F (λ_ U J=>?_) λ_ _ e=>e.elim)) λ_ _ e=>e.elim);exact c62 J (λ_ _ q=>q) λ_ _ e=>e.elim
theorem b46 :
  b0h lc w A (.compLoop (.ListComp elt [⟨tg,iter,[],0⟩,⟨tg2,iter2,ifs,0⟩] sc pos) 1 (.ref I) (.ref D) cenv) I tg2 cenv
   (a8E ifs elt cenv D (.compLoop (.ListComp elt [⟨tg,iter,[],0⟩,⟨tg2,iter2,ifs,0⟩] sc pos) 1 (.ref I) (.ref D) cenv)):=by
 intro s Q h;show wpAny _ A ((compTurn (.ListComp elt [⟨tg,iter,[],0⟩,⟨tg2,iter2,ifs,0⟩] sc pos) 1 (.ref I) (.ref D) cenv).onRaise (λx=>do noteFrame x cenv;theTreesLotGoes x)) _ _ s
 refine wpAny_noted ?_;rw[(a7C ..)];refine c60 (c65 (c60 (c62 h (λo O B=>?_) λ_ _ e=>e.elim)));cases o with
 | none=>exact c61 B
 | some u =>
  refine c60 (c62 B (λ_ R F=>c60 (c62 F (λ_ U J=>?_) λ_ _ e=>e.elim)) λ_ _ e=>e.elim);exact c62 J (λ_ _ q=>q) λ_ _ e=>e.elim
theorem b4P {J:Result->Shared->Prop} (O:∀ Q:Value->Shared->Prop,Q (.ref I) s->wpAny c8L A (pyIter (.ref I)) Q D7 s)
  (h:codeAny c8L A (.compLoop (.ListComp elt [⟨tg,iter,[],0⟩,⟨tg2,iter2,ifs,0⟩] sc pos) 1 (.ref I) (.ref D) cenv) J s):codeAny c8L A (.compStart (.ListComp elt [⟨tg,iter,[],0⟩,⟨tg2,iter2,ifs,0⟩] sc pos) 1 (.ref I) (.ref D) cenv) J s:=by
 refine codeAny_of_tree ?_;show wpAny _ _ ((compStart (.ListComp elt [⟨tg,iter,[],0⟩,⟨tg2,iter2,ifs,0⟩] sc pos) 1 (.ref I) (.ref D) cenv).onRaise (λx=>do noteFrame x cenv;standAt theWindowsPlace)) _ _ s
 refine wpAny_notedAt (c60 (wpAny_askSetting (wpAny_ite ?_)));have B:wpAny c8L A (pyIter (.ref I)) (λq F=>codeAny c8L A (.compLoop (.ListComp elt [⟨tg,iter,[],0⟩,⟨tg2,iter2,ifs,0⟩] sc pos) 1 q (.ref D) cenv) J F) (notedBy c8L A cenv λx F=>J (.error x) F) s:=c62 (O _ h) (λ_ _ h=>h) λ_ _ e=>e.elim
 split
 ·first
   | exact c60 (c61 (c61 (And.intro rfl h)))
   | exact c61 (And.intro rfl h)
 ·first
   | exact c60 (wpAny_rule (c60 (c65 (c60 (c62 B (λq F B=>c61 (And.intro rfl B)) λ_ _ x=>x)))))
   | (refine c60 (wpAny_rule ?_);show wpAny _ _ (standAt iter2.pos>>=_) _ _ s;exact c60 (c65 (c60 (c62 B (λq F B=>c61 (And.intro rfl B)) λ_ _ x=>x))))
theorem b1T (A:Around):A.mark none=A:=rfl
variable {one2:Bool}{t2:List Nm}
theorem b4v {F:Cx} {l:List Cv} {L:Code} {V:It} (g:Gk G)
  (hC:∀ e x,trC k F e=some x->c8P m F e x) (hE:c8I m F elt x) (hl:G2 (trC k F) ifs=some l) (C:c8Y m F iter2 V) (f:AOk n m A)
  (J:a0T tg2=some (t2,one2)) (c:X9 (Y5 F) tg2=true) (p:a2J V one2=true)
  (dd:¬ FX cenv D) (s:Shared) (H:Hp) (O r0:En) (acc:List f5) (P:List f5->Hp->Prop) (B:c80 F cenv O D H s acc) (hz:acc.length<=o9) (j:∀ y v,r0 y=some v->(T7 (a0u tg2) O) y=some v)
  (q:b00 x t2 one2 V (a1E l) c8Q O H P) :
  wpAny c8L A (b4u (.ListComp elt [⟨tg,iter,[],0⟩,⟨tg2,iter2,ifs,0⟩] sc pos) iter2 cenv D L) (λi r=>i=.again L/\∃ xs W,c80 F cenv r0 D W r (acc++xs)/\c8T (YX cenv D) H s W r/\P xs W) D7 s:=by
 refine eA (C A s H O cenv _ f B.rel B.frm q) λs1 s2=>c60 (c62 s2 (λxv t1 h1=>c60 (c65 (c60 (wpAny_of_eq (s1 xv) (c60 (c63 (c62 h1 (λv t2 T=>?_) λ_ _ e=>e))))))) λ_ _ e=>e);refine a1j T λI wr src St K q1 ok S Z R nf q=>?_;clear T;subst q1;have f1:=B.frm.step B.rel R;have a1:=B.acc.ext B.rel R.ext .no (λz=>z)
 have d:c80 F cenv (T7 (a0u tg2) O) D K t2 (acc++[]):=⟨R.rel,f1.sub λy v e=>by
  unfold T7 at e
  split at e
  ·cases e
  ·exact e,by rw[(c8d ..)];exact a1⟩
 have M:Cl G w cenv wr D:=by
  refine ⟨λhm=>?_,λb U h=>?_,dd⟩
  ·refine y4 B.acc λmo _ a2 _=>j5 a2.at_ λo e _=>?_;rw [(Z D hm).1] at e;cases e
  ·rcases h with e | ⟨x,e⟩
   ·refine A6 B.frm.loc λ_ o X _=>?_;rw [<- e,(Z b U).1] at X;cases X
   ·refine T5 (B.frm.own.2.2 x b e) λ_ _ _ u o N _=>?_;rw [(Z b U).1] at N;cases N
 refine c60 (wpAny_runOwn ?_);rw[(b1T ..)];refine b4P (λQ hQ=>ok.self A 0 _ _ S hQ) (a3s (pre:=acc) (rest:=a8E ifs elt cenv D _) (body:=a2E x (a1E l) c8Q) g f.h rfl b46 ok M J c (a7c J p) (λv H P z1=>by refine j5 z1 λO U q=>?_;clear z1;exact ⟨O,a3E J U,q⟩) hz (λs H O v acc P B hz U q=>?_) nf 0 [] t2 K P d S (λb U=>(Z b U).2) q λxs W r i5 E q5=>?_)
 ·exact a53 hC hE hl f M.dd s H O _ acc P B (c4h ‹_› hz) (a5H (λy hy=>a6D (by rw[(T2 J)];exact hy)) U) q
 ·refine c61 ⟨rfl,xs,W,i5.back j,?_,q5⟩;have t:=(R.no (Y:=CX cenv wr D)).trans E;refine ⟨t.rel,t.ext.compress λa ha=>?_,t.gens,t.os⟩;rcases ha with ha | ha
  ·exact .inr (Z a ha).1
  ·exact .inl ha
theorem b1R {l:List Cv} {z R:It} {j:List f5->Hp->Prop} (g:Gk G) (o:AOk n m A)
  (E:∀ e x,trC k (sub c sc) e=some x->c8P m (sub c sc) e x) (K:c8I m (sub c sc) elt x) (M:G2 (trC k (sub c sc)) ifs=some l)
  (i:c8Y m (sub c sc) iter2 R) (F:a0T tg2=some (t2,one2)) (J:X9 (Y5 (sub c sc)) tg2=true) (W:a2J R one2=true)
  (B:a0T tg=some (t,one)) (Y:X9 (Y5 (sub c sc)) tg=true) (b:a2J z one=true) (V:∀ y∈t2,y∉t->r y=none) :
  b2G lc w G A (.ListComp elt [⟨tg,iter,[],0⟩,⟨tg2,iter2,ifs,0⟩] sc pos) z.tup (sub c sc) (T7 (a0u tg) r) (a5h t one r (b00 x t2 one2 R (a1E l) c8Q)) j:=by
 intro I X src St cenv D N s H T Q p O S d q L;refine a3s (pre:=[]) g o.h rfl b2y Q p B Y (a7c B b) (λv H P C=>by refine j5 C λf a q=>?_;clear C;exact ⟨f,a3E B a,q⟩) (c7q _) (λs H f v acc P O u a q=>?_) N 0 [] s H j O S d q L
 refine b4v g E K M i o F J W p.dd s H f _ acc P O (by simp only [List.length_nil] at u;exact c2o u) (λy v e=>?_) q
 have U:y∉t:=λU=>by rw [a6D (by rw[(T2 B)];exact U)] at e;cases e
 rw [a21 (by rw[(T2 B)];exact U)] at e
 have Z:y∉t2:=λZ=>by rw [V y Z U] at e;cases e
 refine b9 (a21 (by rw[(T2 F)];exact Z)) ?_;rw[(a5G a U)];refine b9 (a21 (by rw[(T2 B)];exact U)) ?_
 exact e
variable {xs:Array Nat}
theorem b1W:∀ {es:List c8H} {t:List Nm},a3m es=some t->(es.all λe=>((Y1 e).map (Y5 c)).getD false)=true->∀ y∈t,∃ x,y=nm x/\B1 x=true/\c.names.lookup x=some .local:=by
 intro es;induction es with
 | nil=>intro t h _ y hy;have U:=E0 h;clear h;subst U;exact nomatch hy
 | cons e es R =>
  intro t h F y hy;refine j9 (A2 h) λa b B O Y=>?_;subst Y;refine j5 (f8 B) λx q B=>eE (a0C q) λp W=>?_;subst W;refine eA (B8 B) λq V=>?_;subst V;refine eA (c8u F) λF J=>?_;rcases c8z hy with rfl | hy
  ·exact ⟨x,rfl,q,a22 F⟩
  ·exact R O J y hy
theorem b4W (h:a0T tg=some (t,one)) (B:X9 (Y5 c) tg=true):∀ y∈t,∃ x,y=nm x/\B1 x=true/\c.names.lookup x=some .local:=by
 cases tg with
 | Name x p =>
  intro y O;refine j5 (n9 h) λa J e=>?_;cases e;refine eA (B8 J) λF R=>?_;subst R;exact ⟨x,c8x O,F,a22 B⟩
 | Tuple U k p =>
  refine j5 (n9 h) λV q e=>?_;cases e;exact b1W q B
 | _=>exact A3 h
theorem b50 (F:c8K lf c r H h) (J:a1e c sc (a0u tg)=true) (O:a0T tg=some (t,one)) (q:a0T tg2=some (t2,one2)) (Y:X9 (Y5 (sub c sc)) tg2=true) :
  ∀ y∈t2,y∉t->r y=none:=λy b Z=>by
 refine y4 (b4W q Y y b) λx d V W=>?_;subst d;refine a1y (a1t W) λR f U e B=>?_
 split at B
 ·cases B
 ·subst B;rcases (a1f J).2.2 (x,.local) (List.mem_filter.mpr ⟨U,by simpa using R⟩) rfl with a | a
  ·exact c7Y (by refine w3 (T2 O) ?_;exact List.mem_map_of_mem (List.contains_iff_mem.mp a)) Z
  ·exact F.dom x V a
theorem b3S {l:List Cv} {i O:It} (g:Gok G c)
  (E:∀ e x,trC k (sub c sc) e=some x->c8P m (sub c sc) e x) (K:c8I m (sub c sc) elt x) (L:G2 (trC k (sub c sc)) ifs=some l) (y:c8Y m c iter i)
  (o:c8Y m (sub c sc) iter2 O) (W:a0T tg2=some (t2,one2)) (J:X9 (Y5 (sub c sc)) tg2=true) (a:a2J O one2=true)
  (d:a1e c sc (a0u tg)=true) (f:a0T tg=some (t,one)) (b:X9 (Y5 (sub c sc)) tg=true) (p:a2J i one=true) :
  c8I m c (.ListComp elt [⟨tg,iter,[],0⟩,⟨tg2,iter2,ifs,0⟩] sc pos) (a3x x t one i t2 one2 O (a1E l))/\c85 m c (.ListComp elt [⟨tg,iter,[],0⟩,⟨tg2,iter2,ifs,0⟩] sc pos) (a3x x t one i t2 one2 O (a1E l)):=by
 have j:∀ (A:Around) (s:Shared) (H:Hp) (r:En) (U:Env) (Y:f5->Hp->Prop) (use:Option (Value->Sem Unit)) (Q:Value->Shared->Prop),AOk n m A->c8J H s.heap->c8K U c r H s.heap->(a3x x t one i t2 one2 O (a1E l)) c8Q r H Y ->
   (use=none->∀ D V B,c8T S5 H s V B->Y (.ref D) V->Q (.ref D) B) ->
   (∀ u,use=some u->∃ P,(∀ D V B,c8T S5 H s V B->Y (.ref D) V->wpAny c8L A (u (.ref D)) (λ_ v=>a5m G w U c V B P v) D7 B)/\∀ B,a5m G w U c H s P B->Q .none B) ->
   wpAny c8L A (comprehension (.ListComp elt [⟨tg,iter,[],0⟩,⟨tg2,iter2,ifs,0⟩] sc pos) sc U (firstIterPos [⟨tg,iter,[],0⟩,⟨tg2,iter2,ifs,0⟩] pos) (PySem.newList []) false (eval iter U) use) Q D7 s:=by
  intro A s H r U Y use Q Z R F q z C;refine a4C (g:=⟨tg,iter,[],0⟩) (gs:=[⟨tg2,iter2,ifs,0⟩]) rfl d y Z R F q (λxs H5 S h e=>?_) (λs Q h=>c66 h) (λI D cenv s Rr M h=>codeAny_compStart_list h (c62 (M _ h) (λ_ _ h=>h) λ_ _ e=>e.elim)) (b1R g.toGk Z E K L o W J a f b p (b50 F d f W J)) z C;rw[(show S=.list xs from e)];exact h
 refine ⟨λA s H r U Q Z R F q=>?_,λA s H r U Y P u Z R F q N=>?_⟩
 ·exact j A s H r U Q none (Got G w (j7 G) H s Q) Z R F q (λ_ D V B X q=>⟨.ref D,V,.ref,X,q⟩) λu e=>nomatch e
 ·exact c60 (j A s H r U Y (some u) (λ_ B=>wpAny c8L A (pure ()) (λ_ B=>a5m G w U c H s P B) D7 B) Z R F q (λe=>nomatch e) λu' e=>by have T:=E0 e;clear e;subst T;exact ⟨P,N,λB h=>c61 h⟩)
variable {t:c8H}{i j:Nat}
theorem b12:∀ {l m:List (f5×f5)},l.map a51=m.map a51->l=m:=by
 intro l;induction l with
 | nil =>
  intro O;cases O with
  | nil =>
   intro _;exact rfl
  | cons _ _ =>
   intro h;exact nomatch h
 | cons q l J =>
  intro B;cases B with
  | nil =>
   intro h;obtain ⟨a,b⟩:=q;exact nomatch h
  | cons F m =>
   intro h;obtain ⟨a,b⟩:=q;obtain ⟨R,U⟩:=F;injection h with h1 h2
   injection h1 with h1
   injection h1 with h1 h3
   injection h3 with h3
   cases h1;cases h3;rw[(J h2)];rfl
theorem b3a {es:List (f5×f5)} {k v:f5} {p:f5×f5} (h:p∈K2 es k v):p.1=k\/∃ q∈es,q.1=p.1:=by
 unfold K2 at h
 split at h
 ·refine j5 (c8s h) λq B e=>.inr ⟨q,B,?_⟩
  split at e <;> (subst e;first | rfl | assumption | simp_all)
 ·rcases c8w h with h | h
  ·exact .inr ⟨p,h,rfl⟩
  ·simp only [List.mem_singleton] at h;exact .inl (by rw[h];rfl)
theorem a7L {es:List (f5×f5)} {k v:f5}:(K2 es k v).length<=es.length+1:=by
 unfold K2
 split <;> simp
theorem a5q {l:List (f5×f5)} {k v:f5}:I0 (l++[(k,v)])=K2 (I0 l) k v:=by
 unfold I0;rw[List.foldl_append];rfl
theorem a4D {κ:Nat}:∀ (l:List (f5×f5)) (es:List (f5×f5)),(∀ p∈l,G6 7 p.1=true/\I7 p.1=κ)->(∀ p∈es,G6 7 p.1=true/\I7 p.1=κ)->∀ p∈l.foldl (λes p=>K2 es p.1 p.2) es,G6 7 p.1=true/\I7 p.1=κ:=by
 intro l;induction l with
 | nil=>intro es _ h p B;exact h p B
 | cons q l O=>intro es F h p B;exact O _ (λp B=>F p (c7i _ B)) (λp B=>by
  rcases b3a B with e | ⟨z,J,e⟩
  ·rw[e];exact F q c7j
  ·refine w3 e ?_;exact h z J) p B
theorem a4a:∀ (l:List (f5×f5)) (es:List (f5×f5)),(l.foldl (λes p=>K2 es p.1 p.2) es).length<=es.length+l.length:=by
 intro l;induction l with
 | nil=>intro es;simp
 | cons q l F =>
  intro es;have:=F (K2 es q.1 q.2);have B:=a7L (es:=es) (k:=q.1) (v:=q.2);simp only [List.foldl_cons,List.length_cons];exact c5L this B
theorem A7.own {mo:a0z} (R:c8J H h) (J:H D=none) (B:G.base D=none) (r:a2t G w h D mo):c8J (H.set D mo) h:=by
 refine ⟨λa o e=>⟨(R.base a o e).1,?_⟩,λa q e=>?_⟩
 ·unfold Hp.set;rw[(c7W (by rintro rfl;rw [B] at e;cases e))]
  exact (R.base a o e).2
 ·unfold Hp.set at e
  split at e
  ·rename_i h;subst h;have F:=E0 e;clear e;subst F;exact r
  ·exact R.objs a q e
theorem A7.disown {mo:a0z} (R:c8J (H.set D mo) h) (O:H D=none) (F:G.base D=none):c8J H h/\a2t G w h D mo:=by
 refine ⟨⟨λa o e=>?_,λa B e=>?_⟩,R.objs D mo (by unfold Hp.set;rw[(c7X rfl)];rfl)⟩
 ·refine eA (R.base a o e) λJ q=>⟨J,?_⟩;unfold Hp.set at q
  split at q
  ·cases q
  ·exact q
 ·refine R.objs a B ?_;unfold Hp.set;rw[(c7W (by rintro rfl;rw [O] at e;cases e))]
  exact e
theorem b5A {κ:Nat} {x y:f5} {d u:Value} {Q:Unit->Shared->Prop} (n:A.units+64 < cLine) (a:Acc (.dict κ) G w H s.heap D acc) (R:c8J H s.heap) (Y:G6 7 x=true/\I7 x=κ) (C:j7 G s.heap x d) (E:j7 G s.heap y u) (hz:acc.length<=o9)
  (q:∀ O,Acc (.dict κ) G w H O.heap D (acc++[a51 (x,y)])->c8T (·=D) H s H O->Q () O):wpAny c8L A (dictSet D d u) Q D7 s:=by
 refine N1 a λI i r V W=>?_;clear a;refine j9 i λl U B c t=>?_;clear i;subst t;have j:=R.own V W r;have Z:∀ p∈I0 l,G6 7 p.1=true/\I7 p.1=κ:=a4D l [] c (λp B=>(c7E B).elim);refine a5K (H:=H.set D (.dict (I0 l) U)) n j (by unfold Hp.set;rw[(c7X rfl)];rfl) (k:=x) ⟨Y.1,λp B=>(Z p B).2.trans Y.2.symm⟩ C E ?_ λO F=>?_
 ·have:=a4a l [];rw [B,List.length_map] at hz;unfold I0;simp only [List.length_nil] at this;exact c4g hz this
 ·have J:(H.set D (.dict (I0 l) U)).set D (.dict (K2 (I0 l) x y) (dep (I0 l) x U))=H.set D (.dict (K2 (I0 l) x y) (dep (I0 l) x U)):=by
   funext b
   unfold Hp.set
   split <;> rfl
  rw [J] at F;refine eA (F.rel.disown V W) λm v=>q O ⟨_,⟨l++[(x,y)],_,by rw[B];rw[c7T];rfl,λp B=>?_,by rw[a5q];rfl⟩,v,V,W⟩ ⟨m,⟨λb o e f g=>?_,λ_ e=>.inl e,λ_ e=>e,λb e g=>?_⟩,F.gens,F.os⟩
  ·rcases c8w B with h | h
   ·exact c p h
   ·simp only [List.mem_singleton] at h;rw[h];exact Y
  ·refine F.ext.keep b o e ?_ (λz=>z);unfold Hp.set;rw[(c7W g)];exact f
  ·exact F.ext.there b e λz=>z
end Mine.Internal
namespace Mine.Internal
variable {k:Nat}{t:c8H}{x:Ev}{H:Hp}{o:Obj}{v:f5}{u:Value}{h:Heap}{a:Addr}{vs:Array Value}{p:Pos}{xs:Array Nat}{l:List Int}{A:Around}{s:Shared}{es:List c8H}{Q:Value->Shared->Prop}{y:Ev}{E:Value->Shared->Prop}{I:Addr}{e:c8H}{r:En}{D:Addr}{i j m:Nat}{c:Cx}
theorem n7.kept {h':Heap} {tk:Nat} {d:Drawn} (R:c8J H s.heap) (q:∀ b o,s.heap.get? b=some o->h'.get? b=some o):c8T S5 H s H {s with heap:=h',toks:=tk,drawn:=d}:=by
 have tup:∀ b F,IsTup s.heap b F->IsTup h' b F:=λb F J=>by refine j5 J λo B r=>?_;clear J;exact ⟨o,q b o B,r⟩
 refine ⟨⟨λa o e=>⟨q a o (R.base a o e).1,(R.base a o e).2⟩,λa O e=>(R.objs a O e).mono tup λo B=>q a o B⟩,⟨λa o e _ _=>q a o e,λ_ e=>.inl e,λ_ e=>e,λa e _=>?_⟩,rfl,rfl⟩;refine eE (c8y e) λo e=>?_;rw[(q a o e)];rfl
theorem n7.give {H B:Hp} {s F:Shared} {mo:a0z} (st:c8T S5 H s B F) (R:s.heap.get? a=none) (J:B a=none) (O:G.base a=none) (r:a2t G w F.heap a mo):c8T S5 H s (B.set a mo) F:=by
 refine ⟨st.rel.own J O r,⟨λb o e f g=>st.ext.keep b o e f g,λb e=>?_,λb e=>?_,st.ext.there⟩,st.gens,st.os⟩
 ·unfold Hp.set at e
  split at e
  ·rename_i q;subst q;exact .inr (.inl R)
  ·exact st.ext.fresh b e
 ·unfold Hp.set
  split
  ·rfl
  ·exact st.ext.grow b e
noncomputable def b2P (b:BI):Value:=match b with
 | .len=>.builtin "len" | .sum=>.builtin "sum" | .max=>.builtin "max" | .min=>.builtin "min" | .sorted=>.builtin "sorted"
 | .list=>.type "list" | .tuple=>.type "tuple" | .int=>.type "int" | .abs=>.builtin "abs" | .str=>.type "str"
noncomputable def a2P (lc:Program) (w:World) (G:Gi) (n m:Nat) (b:BI):Prop:=∀ (A:Around) (s:Shared) (H:Hp) (vs:List f5) (us:List Value) (Q:f5->Hp->Prop),AOk n m A->A7 G w H s.heap->m4 G s.heap vs us->biW b vs H Q ->
 wpAny (model lc w) A (call (b2P b) us) (Got G w (j7 G) H s Q) D7 s
abbrev c86:=a2P lc w G n
theorem a0U {us:List Value} (r:m4 G h [v] us):∃ u,us=[u]/\j7 G h v u:=by
 replace r:=F9 r;revert r;intro q;refine j9 q λu J B r F=>?_;clear q;subst B;subst F;exact ⟨u,rfl,r⟩
theorem a8g (h:k<=o9):k<=sizeLine:=by rw[sizeLine_eq];unfold o9 at h;exact c7g h (c7d rfl)
theorem a6M (h:k<=o9):((k:Int) < 2 ^ 63):=by unfold o9 at h;exact c1k h
theorem b4p:∀ {es:List (f5×f5)} {q:List DictEntry} {l:List Int},M8 G w h es q->es.map (·.1)=l.map f5.int ->
  ∃ B:List (Int×Value),B.map (·.1)=l/\Pairs (PySem.intKind lc w) q B/\∀ e∈q,∃ k,(PySem.intKind lc w).is k e.key=true/\e.hash=(PySem.intKind lc w).hash k:=by
 intro es;induction es with
 | nil =>
  intro q l r e;cases b3f r;exact ⟨[],(List.map_eq_nil_iff.mp e.symm).symm,.nil,λ_ h=>nomatch h⟩
 | cons p es W =>
  intro q l r e;refine B0 (a2V r) λx t O F _ R b=>?_;subst O;cases l with
  | nil=>exact nomatch e
  | cons i l =>
   refine eA (List.cons.inj e) λJ U=>y4 (W b U) λB Y Z a=>?_;have J:p.1=.int i:=J;rw [J] at F R;refine eE (J0 F) λc F=>?_;have is:(PySem.intKind lc w).is i x.key=true:=by rw[F];exact c8b i
   exact ⟨(i,x.val) :: B,c7o (i :: ·) Y,.cons is rfl Z,λy V=>(c8z V).elim (λe=>e▸⟨i,is,R⟩) (a y)⟩
theorem b0o {a:Nat} (R:c8J H s.heap) (e:b0n H a l):∃ (q:List (Int×Value)) (J:Nat),q.map (·.1)=l/\s.heap.DictAt (PySem.intKind lc w) a q J:=by
 revert e;intro F;refine A6 F λc J e O=>?_;clear F;refine a1x (R.objs _ _ e) λV _ B Y W=>y4 (b4p W O) λq U Z b=>⟨q,J,U,_,B,Y,⟨rfl,rfl,rfl⟩,rfl,λe h=>b e (Array.mem_toList_iff.mpr h),Z,?_⟩;rw[U];rw [O] at V;exact (List.pairwise_map.mp V).imp λh e=>h (c7o f5.int e)
theorem b8c (g:Gk G):c86 m .len:=λA s H w us Q n R j h=>by
 revert h;intro F;refine J6 F λv c U f J h=>?_;clear F;subst U;refine j5 (a0U j) λu O Y=>?_;subst O;rcases f with (rfl | ⟨a,rfl,e⟩) | ⟨a,l,rfl,e,rfl⟩
 ·refine j9 (Y0 Y) λa Z V t r=>?_;subst V;have q:(c.length:Int)=(Z.toArray.size:Int):=by rw[r.length];rw[c8l];rfl
  rw [q] at h;exact PyProof.Rows.len_tuple t (by refine w3 q ?_;exact a6M J) ⟨_,H,.int,.toks R,h⟩
 ·cases U8 Y;refine A6 (R.objs _ _ e) λZ k i r=>?_;have q:(c.length:Int)=(Z.size:Int):=by rw[r.length];rw[c7K];rfl
  rw [q] at h;exact call_len_list ⟨_,i,rfl,_,rfl⟩ (by refine w3 q ?_;exact a6M J) ⟨_,H,.int,.toks R,h⟩
 ·cases U8 Y;refine A6 (b0o R e) λB o W d=>?_;subst W;have q:((B.map (·.1)).map f5.int).length=B.length:=by rw[(c7f ..)];rw[(c7f ..)];rfl
  rw [q] at h J;revert e;intro b;refine A6 b λp _ e _=>?_;clear b;exact call_len_dict (R.sysm g e) d.dictOf (a6M J) ⟨_,H,.int,.toks R,h⟩
theorem a4Q {ws:Array Value} (q:IntsAre ws.toList l):∃ xs:Array (Int×Tok),ws=intItems xs/\xs.size=l.length/\∀ i,i < l.length->numAt xs i=l.getD i 0:=by
 obtain ⟨ws⟩:=ws;have:∀ (ws:List Value) (l:List Int),IntsAre ws l->∃ xs:List (Int×Tok),ws=xs.map (λp=>Value.int p.1 p.2)/\xs.map (·.1)=l:=by
  intro ws l h;induction h with
  | nil=>exact ⟨[],rfl,rfl⟩
  | cons i t _ J=>refine j5 J λxs B F=>?_;clear J;exact ⟨(i,t) :: xs,by rw[c7Z];rw[B];rfl,by rw[c7Z];rw[F];rfl⟩
 refine j5 (this ws l q) λxs B F=>?_;subst F;refine ⟨xs.toArray,by show _=intItems _;unfold intItems;rw[List.map_toArray];rw[B];rfl,by simp,λi q=>?_⟩
 unfold numAt;simp only [List.length_map] at q;simp [q]
theorem a8A (l:List Int) (f:Nat->Int) (h:∀ i,i < l.length->f i=l.getD i 0):preSum f l.length=l.sum:=by
 have:∀ k,k<=l.length->preSum f k=(l.take k).sum:=by
  intro k;induction k with
  | zero=>intro _;simp [preSum]
  | succ k B =>
   intro q;show preSum f k+f k=_;rw[(B (by exact Nat.le_of_succ_le q))];rw[(h k (by exact Nat.lt_of_succ_le q))];rw[List.take_add_one];rw[List.sum_append]
   simp [List.getD_eq_getElem?_getD,List.getElem?_eq_getElem (show k < l.length by exact Nat.lt_of_succ_le q)]
 rw[(this _ (c7l _))];rw[c8c];rfl
theorem b8g:c86 m .sum:=λA s H g us Q O R b h=>by
 revert h;intro q;refine j9 q λa l B e h=>?_;clear q;subst B;refine j5 (a0U b) λu F Z=>?_;subst F;cases U8 Z;refine A6 (R.objs _ _ e) λi k W r=>y4 (a4Q r.toInts) λj J Y V=>?_;subst J;refine sum_intListG O.h ⟨_,W,rfl,_,rfl⟩ λc f d U=>?_;rw[Y];rw[(a8A l _ V)];exact ⟨_,H,.int,.kept R U,h⟩
theorem b1v (l:List Int):∀ x,x<=l.foldl max x/\(∀ y∈l,y<=l.foldl max x)/\(l.foldl max x=x\/l.foldl max x∈l):=by
 induction l with
 | nil=>intro x;exact ⟨Int.le_refl _,λy hy=>(c7E hy).elim,.inl rfl⟩
 | cons a l F =>
  intro x;refine eAA (F (max x a)) λq B h3=>⟨c8a (Int.le_max_left _ _) q,λy hy=>?_,?_⟩
  ·rcases c8z hy with rfl | hy
   ·exact c8a (Int.le_max_right _ _) q
   ·exact B y hy
  ·rcases h3 with h3 | h3
   ·show List.foldl max (max x a) l=x\/_;rewrite [h3];rcases Int.le_total x a with h | h
    ·right;rw[List.foldl_cons];rw[h3];rw[(Int.max_eq_right h)];exact c7j
    ·left;exact Int.max_eq_left h
   ·exact .inr (c7i _ h3)
theorem b30 (h:l≠[]):a9A l∈l/\∀ y∈l,y<=a9A l:=by
 cases l with
 | nil=>exact c7Y rfl h
 | cons x r =>
  exact eAA (b1v r x) λq B F=>⟨F.elim (λe=>List.mem_cons.mpr (.inl e)) (c7i _),λy J=>(c8z J).elim (λe=>e▸q) (B y)⟩
theorem b3q (h:i < l.length):l.getD i 0∈l:=by
 rw[c7w];rw[(c7h h)];exact List.getElem_mem h
theorem b37 {y:Int} (h:y∈l):∃ i,i < l.length/\l.getD i 0=y:=by
 obtain ⟨i,q,e⟩:=List.mem_iff_getElem.mp h;exact ⟨i,q,by rw[c7w];rw[(c7h q)];exact e⟩
theorem b5f {v F:f5} {us:List Value} (r:m4 G h [v,F] us):∃ u q,us=[u,q]/\j7 G h v u/\j7 G h F q:=by
 refine j9 (F9 r) λu U B J R=>?_;subst B;refine j5 (a0U R) λq e O=>?_;subst e;exact ⟨u,q,rfl,J,O⟩
theorem b3A {i j k:Int} {t t':Tok} {c:Prop} [Decidable c] (B:c->k=j) (F:¬ c->k=i):j7 G h (.int k) (if c then .int j t' else .int i t):=by
 by_cases q:c
 ·rw[(c7X q)];rw[(B q)];exact .int
 ·rw[(c7W q)];rw[(F q)];exact .int
theorem b8d:c86 m .max:=λA s H S us Q b R n h=>by
 rcases h with ⟨a,l,rfl,e,B,h⟩ | ⟨i,j,rfl,h⟩
 ·refine j5 (a0U n) λu V I=>?_;subst V;cases U8 I;refine A6 (R.objs _ _ e) λT k z r=>y4 (a4Q r.toInts) λq Z O g=>?_;subst Z;have f:0 < l.length:=List.length_pos_iff.mpr B;refine max_intList b.h ⟨_,z,rfl,_,rfl⟩ (c2j O f) λv w M C J=>eA (argBest_gt (numAt q) (q.size - 1)) λx y=>eE (intItems_at C) λt W=>?_;subst W;have c:argBest (λi j=>decide (numAt q i > numAt q j)) (q.size - 1) < l.length:=by exact c4d O f x
  have o:numAt q (argBest (λi j=>decide (numAt q i > numAt q j)) (q.size - 1))=a9A l:=by
   refine eA (b30 B) λD E=>j5 (b37 D) λi d p=>Int.le_antisymm ?_ ?_
   ·rw[(g _ c)];exact E _ (b3q c)
   ·refine w3 p ?_;refine w3 (g i d) ?_;exact y i (by exact Nat.le_sub_one_of_lt (Nat.lt_of_lt_of_eq d O.symm))
  rw[o];exact ⟨_,H,.int,.kept R J,h⟩
 ·refine j9 (b5f n) λu P Y K L=>?_;subst Y;refine eE (J0 K) λt G=>?_;subst G;refine eE (J0 L) λN U=>?_;subst U;exact max_two_ints b.h λw M J=>⟨_,H,b3A (λF=>Int.max_eq_right (Int.le_of_lt F)) λF=>Int.max_eq_left (Int.not_lt.mp F),.kept R J,h⟩
theorem b8e:c86 m .min:=λA s H f us Q O R a h=>by
 revert h;intro J;refine A6 J λi j V h=>?_;clear J;subst V;refine j9 (b5f a) λu e F Y Z=>?_;subst F;refine eE (J0 Y) λt W=>?_;subst W;refine eE (J0 Z) λc B=>?_;subst B;exact min_two_ints O.h λb d U=>⟨_,H,b3A (λq=>Int.min_eq_right (Int.le_of_lt q)) λq=>Int.min_eq_left (Int.not_lt.mp q),.kept R U,h⟩
theorem b79:c86 m .abs:=λA s H Z us Q W R V h=>by
 revert h;intro q;refine y4 q λi B J h=>?_;clear q;subst B;refine j5 (a0U V) λu F U=>?_;subst F;refine eE (J0 U) λt O=>?_;subst O;refine call_abs_int λu Y=>?_;rw[(c7W (Int.not_lt.mpr J))];exact ⟨_,H,.int,.toks R,h⟩
theorem b8b:c86 m .int:=λA s H W us Q V R U h=>by
 revert h;intro B;refine j5 B λi F h=>?_;clear B;subst F;refine j5 (a0U U) λu q O=>?_;subst q;refine eE (J0 O) λt J=>?_;subst J;exact call_int_int ⟨_,H,.int,.refl R,h⟩
theorem b75 {i:Int} {n:Nat} (h:-(n:Int) < i/\i < n):i.natAbs < n:=by omega
theorem b8f:c86 m .str:=λA s H b us Q a R Z h=>by
 revert h;intro q;refine y4 q λi F W h=>?_;clear q;subst F;refine j5 (a0U Z) λu J Y=>?_;subst J;refine eE (J0 Y) λt B=>?_;subst B;refine PySem.P.str_of_int ?_ ⟨_,H,.str,.toks R,h⟩;have U:((2 ^ 60:Nat):Int)=2 ^ 60:=by decide
 have V:i.natAbs < 2 ^ 60:=b75 (by rw[U];exact W)
 by_cases O:i.natAbs=0
 ·rw[O];decide
 ·have:=(Nat.log2_lt O).mpr V;exact c7g this (c7d rfl)
theorem b5H:c86 m .list:=λA s H j us Q i R g h=>by
 revert h;intro B;refine j9 B λa W J e h=>?_;clear B;subst J;refine j5 (a0U g) λu O f=>?_;subst O;cases U8 f;refine A6 (R.objs _ _ e) λV k d r=>?_;have Z:W.length=V.size:=by rw[r.length];rw[c7K];rfl
 refine call_list_seq a (.inl rfl) d rfl rfl (λb Y c q=>?_) (by refine w3 Z ?_;exact a8g h.1)
 have U:c8T S5 H s H {s with heap:=b}:=n7.kept (tk:=s.toks) R c
 have F:=K7 R (c7l s.heap.objs.size);exact ⟨.ref _,_,.ref,U.give (mo:=.list W) F.1 F.2.1 F.2.2 ⟨V,Y,q,U.vreps R r⟩,h.2 _ F.2.1⟩
theorem b2Q:c86 m .tuple:=λA s H j us Q i R f h=>by
 revert h;intro B;refine J6 B λv g U F d h=>?_;clear B;subst U;refine j5 (a0U f) λu O q=>?_;subst O;rcases F with rfl | ⟨a,rfl,e⟩
 ·have V:=q;replace q:=Y0 q;refine j9 q λa Z J t r=>?_;clear q;subst J;exact call_tuple_tup t ⟨_,H,V,.refl R,h⟩
 ·cases U8 q;refine A6 (R.objs _ _ e) λZ k c r=>?_;have b:g.length=Z.size:=by rw[r.length];rw[c7K];rfl
  refine call_tuple_list ⟨_,c,rfl,_,rfl⟩ (λY F=>?_) (by refine w3 b ?_;exact a8g d)
  have W:c8T S5 H s H {s with heap:=Y}:=n7.kept (tk:=s.toks) R F
  exact (a6B (s:={s with heap:=Y}) (t:=s.toks) (Q:=Q) W.rel (W.vreps R r) h).after W
variable {lf:Env}{pos:Pos}{tg:c8H}
theorem a1G.after {H J:Hp} {s R O:Shared} {Q:En->Hp->Prop} {u:Unit} (st:c8T (FX lf) H s J R) (x:a1G G w lf c J R Q u O):a1G G w lf c H s Q u O :=
 by refine j9 x λV U F B q=>?_;clear x;exact ⟨V,U,F,st.trans B,q⟩
noncomputable def ST (lc:Program) (w:World) (G:Gi) (n m:Nat) (c:Cx) (tg:c8H) (t:Tv):Prop :=
 ∀ (A:Around) (s:Shared) (H:Hp) (r:En) (lf:Env) (v:f5) (u:Value) (Q:En->Hp->Prop),AOk n m A->A7 G w H s.heap->R7 G w lf c r H s.heap->j7 G s.heap v u ->
  t (j3 G.F n) v r H Q->wpAny (model lc w) A (assign tg lf u) (a1G G w lf c H s Q) D7 s
theorem a49 {l k:List Value} {Q:Unit->Shared->Prop} (h:Q () s):wpAny c8L A (release l k) Q E s:=λΓ p _=>by rw[(Sem.wp_release ..)];exact h
theorem b3T {ws:Array Value} {z:Nat} {k:Int} {t:Tok} {y:Value} {Q:Unit->Shared->Prop} (O:s.heap.get? a=some {cls:=.type "list",data:=.seq ws z}) (h0:0<=k) (q:k < 2 ^ 63) (F:k < ws.size)
  (U:Q () {s with heap:=s.heap.update a (Obj.mapSeq (·.setIfInBounds k.toNat y))}):wpAny c8L A (setItem (.ref a) (.int k t) y) Q E s:=by
 have J:s.heap.IsList a ws:=⟨_,O,rfl,z,rfl⟩;unfold setItem
 try with_reducible refine c63 ?_
 first | refine c60 (c61 ?_) | skip
 refine c60 (wpAny_sequenceKey J.typeIs (by decide) ?_)
 refine c60 (wpAny_callSpecial?_slot (name:=Str.ofString "__setitem__") J.typeIs slot_list_setitem (c64 slot_list_setitem J.typeIs entry_list_setitem ?_ (args_list_setitem _ _ _)));show wpAny _ _ (Builtin.List.listSubscript? (.int k t)>>=_) _ _ s;refine c60 (wpAny_listSubscript_int (fitsIndex_of h0 q) ?_);clear q;refine eE (Int.eq_ofNat_of_zero_le h0) λj R=>?_;subst R
 have F:j < ws.size:=by exact Int.ofNat_lt.mp F
 have B:ws[j]?=some ws[j]:=c7M F;refine c60 (c60 (wpAny_seqItemAt O rfl (c61 ?_)));rw[B];refine c60 (wpAny_setSeqItemAt O rfl ?_)
 first
  | exact c60 (c61 (c61 ⟨.none,rfl,c61 U⟩))
  | exact c61 ⟨.none,rfl,c61 U⟩
theorem a9V {p q x:f5} {v u y:Value} {Q:Hp->Prop} (f:AOk n m A) (R:c8J H s.heap) (V:j7 G s.heap p v) (W:j7 G s.heap q u) (Y:j7 G s.heap x y) (h:c0u p q x H Q) :
  wpAny c8L A (setItem v u y) (λ_ Z=>∃ J,c8T S5 H s J Z/\Q J) D7 s:=by
 have j:A.units+65 < cLine:=by have:=f.units;exact b5n this
 rcases h with ⟨a,d,k,rfl,e,rfl,g,O,B,h⟩ | ⟨a,D,C,rfl,e,i,B,h⟩
 ·cases U8 V;refine eE (J0 W) λt F=>?_;subst F;refine A6 (R.objs _ _ e) λc z U r=>?_;have l:d.length=c.size:=by rw[r.length];rw[c7K];rfl
  refine b3T U g (by unfold o9 at B;exact c0K O B) (by exact lt_of_lt_of_eq O (c7o Nat.cast l)) ?_
  have b:=R.update (h':=s.heap.update a (Obj.mapSeq λw=>w.setIfInBounds k.toNat y)) (mo':=.list (d.set k.toNat x)) e (c7b ..) λtup=>⟨c.setIfInBounds k.toNat y,_,IsL.update U _,by
   rw[Array.toList_setIfInBounds];exact (r.mono tup).set _ (Y.mono tup)⟩
  exact ⟨_,⟨b.1,b.2,rfl,rfl⟩,h⟩
 ·cases U8 V;exact b2k j R e i W Y B λZ o=>⟨_,o,h⟩
theorem b6T {x:Str} {a:Nm} (h:a08 x=some a) (k:c.var x=true):ST lc w G n m c (.Name x pos) (m5 a):=λA s H r Y v u Q W R F U q=>by
 refine eA (B8 h) λO B=>?_;subst B;rw[(arm_assign_Name ..)];exact c60 (c65 (a3k false R F k O U λZ J V=>⟨_,H,J,V.weaken λ_ z=>z,q⟩))
theorem b9d {o i:c8H} {a b:Ev} (ha:c8I m c o a) (g:c8I m c i b):ST lc w G n m c (.Subscript o i pos) (a0B a b):=λA s H r Z v u Q U R F x q=>by
 rw[(arm_assign_Subscript ..)];refine c60 (c63 (m3 (ha A s H r Z _ U R F q) λp ov d y l B h=>?_));refine c60 (c63 (m3 (g A y d r Z _ U B.rel (F.step R B) h) λD C z E t J j=>?_));have V:=B.trans J;refine c60 (c65 (c60 (c63 (c62 (a9V U V.rel (J.vrep B.rel l) t (V.vrep R x) j) (λ_ I Y=>?_) λ_ _ e=>e))))
 refine j5 Y λf W k=>?_;clear Y;have O:=V.trans W;exact a49 ⟨r,f,F.step R O,O.no,k⟩
theorem b6S {o:c8H} {a:Ev} {x:Str} {y:Nm} (g:Gok G c) (ha:c8I m c o a) (ht:a08 x=some y) (Z:c.attrs.contains x=true):ST lc w G n m c (.Attribute o x pos) (T1 a y):=λA s H r d v u Q Y R F j q=>by
 refine eA (B8 ht) λb O=>?_;subst O;rw[(arm_assign_Attribute ..)];refine c60 (c63 (m3 (ha A s H r d _ Y R F q) λp ov k l i B f=>?_));refine c60 (c65 (c60 (c63 (c62 (a9U g B.rel b Z i (B.vrep R j) f) (λ_ t V=>?_) λ_ _ e=>e))));refine j5 V λW U h=>?_;clear V;have J:=B.trans U;exact a49 ⟨r,W,F.step R J,J.no,h⟩
theorem b4O {t:Tv} (g:Gok G c) (J:∀ e x,T3 k c e=some x->c8I m c e x) (h:a8S k c tg=some t):ST lc w G n m c tg t:=by
 cases tg with
 | Name x p =>
  refine eA (r9 h) λB h=>j5 (n9 h) λa q O=>?_;subst O;exact b6T q B
 | Subscript o i p =>
  refine eA (r9 h) λB h=>j5 (f8 h) λa q h=>j5 (f8 h) λb F h=>?_;have R:=E0 h;clear h;subst R;exact b9d (J _ _ q) (J _ _ F)
 | Attribute o x p =>
  refine eA (r9 h) λB h=>j5 (f8 h) λa q h=>j5 (f8 h) λb F h=>?_;have U:=E0 h;clear h;subst U;exact b6S g (J _ _ q) F B
 | _=>exact A3 h
theorem a2p {t:Tv} (h:a8S k c (.Starred e p)=some t):False:=A3 h
theorem R8 (h:∀ q p,e≠.Starred q p):assignEach (e :: es) lf=(false,assign e lf) :: assignEach es lf:=by
 cases e <;> first | rfl | exact c7Y rfl (h _ _)
theorem b1q:∀ {es:List c8H} {q:List Tv},G2 (a8S k c) es=some q->(assignEach es lf).findIdx? (·.1)=none/\(assignEach es lf).length=q.length:=by
 intro es;induction es with
 | nil=>intro q h;have W:=E0 h;clear h;subst W;exact ⟨rfl,rfl⟩
 | cons e es V =>
  intro q h;refine j9 (A2 h) λa b O R B=>?_;subst B;refine eA (V R) λF J=>?_;rw[(R8 λY p U=>by subst U;exact a2p O)];refine b9 List.findIdx?_cons ?_
  exact ⟨by rw[F];rfl,c7o (·+1) J⟩
theorem b77 (g:Gok G c) (z:∀ e x,T3 k c e=some x->c8I m c e x) (o:AOk n m A):∀ (es:List c8H) (V:List Tv) (vs:List f5) (us:List Value) (s:Shared) (H:Hp) (r:En) (Q:En->Hp->Prop),G2 (a8S k c) es=some V ->
  c8J H s.heap->c8K lf c r H s.heap->m4 G s.heap vs us->b6W c8Q V vs r H Q->wpAny c8L A (assignInOrder ((assignEach es lf).map (·.2)) us) (a1G G w lf c H s Q) D7 s:=by
 intro es;induction es with
 | nil =>
  intro V vs us s H r Q h R F B q;have E:=E0 h;clear h;subst E;revert q;intro i;refine eA i λI q=>?_;clear i;subst I;replace B:=a1a B;subst B;exact c61 ⟨r,H,F,.refl R,q⟩
 | cons e es C =>
  intro V vs us s H r Q h R F B q;refine j9 (A2 h) λt b ht W a=>?_;subst a;revert q;intro O;refine A6 O λv N Y q=>?_;clear O;subst Y;replace B:=F9 B;revert B;intro U;refine j9 U λu d Z L B=>?_;clear U;subst Z;rw[(R8 λP p y=>by subst y;exact a2p ht)]
  refine c60 (c63 (c62 (b4O g z ht A s H r lf v u _ o R F L q) (λ_ M f=>?_) λ_ _ e=>e));refine j9 f λK l j J D=>?_;clear f;exact c62 (C b N d M l K Q W J.rel j (J.ext.vreps R (a29 F) B) D) (λ_ _ x=>a1G.after J x) λ_ _ e=>e
theorem c0x {t:Tv} (g:Gok G c) (Y:∀ e x,T3 k c e=some x->c8I m c e x) (h:trT k c tg=some t):ST lc w G n m c tg t:=by
 cases B:a4x tg with
 | none=>unfold trT at h;rw [B] at h;exact b4O g Y h
 | some C =>
  unfold trT at h;rw [B] at h;refine j5 (n9 h) λy J U=>?_;subst U;cases tg with
  | Tuple Z D p =>
   have i:=E0 B;clear B;subst i;intro A s H r lf v u Q W R F l q;revert q;intro O;refine y4 O λz f d q=>?_;clear O;rw[(arm_assign_Tuple ..)];refine eA (b1q (lf:=lf) J) λa b=>c60 (c65 ?_);unfold unpack;rw[a];rw[b];refine c60 (c63 (a0v g.toGk W.h R l f d λus o j V=>?_));exact c62 (b77 g Y W _ y z us o H r Q J V.rel (F.step R V) j q) (λ_ _ x=>a1G.after V.no x) λ_ _ e=>e
  | _=>exact A3 B
noncomputable def c59 (G:Gi) (h:Heap) (f:Fl) (x:Flow):Prop:=match f with
 | .next=>x=.next
 | .ret v=>∃ u,x=.ret u/\j7 G h v u
 | .brk=>x=.brk
noncomputable def a38 (G:Gi) (w:World) (lf:Env) (c:Cx) (H:Hp) (s:Shared) (Q:v9) (x:Flow) (s':Shared):Prop :=
 ∃ f r' H',c59 G s'.heap f x/\n7 G w (FX lf) H s H' s'/\R7 G w lf c r' H' s'.heap/\Q f r' H'
theorem a38.after {H q:Hp} {s F B:Shared} {Q:v9} {x:Flow} (st:c8T (FX lf) H s q F) (g:a38 G w lf c q F Q x B):a38 G w lf c H s Q x B :=
 by refine a1i g λf O J a b d e=>?_;clear g;exact ⟨f,O,J,a,st.trans b,d,e⟩
noncomputable def SS (lc:Program) (w:World) (G:Gi) (n m:Nat) (c:Cx) (st:Stmt) (x:Bv):Prop :=
 ∀ (A:Around) (s:Shared) (H:Hp) (r:En) (lf:Env) (Q:v9),AOk n m A->A7 G w H s.heap->R7 G w lf c r H s.heap ->
  x (j3 G.F n) r H Q->wpAny (model lc w) A (exec st lf) (a38 G w lf c H s Q) D7 s
noncomputable def SB (lc:Program) (w:World) (G:Gi) (n m:Nat) (c:Cx) (l:List Stmt) (x:Bv):Prop :=
 ∀ (A:Around) (s:Shared) (H:Hp) (r:En) (lf:Env) (Q:v9),AOk n m A->A7 G w H s.heap->R7 G w lf c r H s.heap ->
  x (j3 G.F n) r H Q->wpAny (model lc w) A (execs l lf) (a38 G w lf c H s Q) D7 s
abbrev c9a:=SB lc w G n
theorem b8R:c9a m c [] (toB []):=λA s H r B Q _ R F q=>wpAny_execs_nil ⟨.next,r,H,rfl,.refl R,F,q⟩
abbrev c9b:=SS lc w G n
theorem b6y {st:Stmt} {x:Bv} {l:List Stmt} {b:Bv} (h:c9b m c st x) (d:c9a m c l b):c9a m c (st :: l) (d9 x b):=λA s H r Z Q Y R F q=>by
 refine wpAny_execs_cons (c62 (h A s H r Z _ Y R F q) (λf k g=>?_) λ_ _ e=>e);refine a1i g λa W U J B O V=>?_;clear g;cases a with
 | next =>
  cases (show f=.next from J);exact c62 (d A k U W Z Q Y B.rel O V) (λ_ _ g=>g.after B) λ_ _ e=>e
 | ret v =>
  refine j5 J λu i j=>?_;clear J;subst i;exact ⟨.ret v,W,U,⟨u,rfl,j⟩,B,O,V⟩
 | brk=>cases (show f=.brk from J);exact ⟨.brk,W,U,rfl,B,O,V⟩
theorem a8F {q:Cx->Stmt->Option Bv} (V:∀ st x,q c st=some x->c9b m c st x):∀ {l:List Stmt} {b:Bv},a5C q c l=some b->c9a m c l b:=by
 intro l b h;refine j5 (n9 h) λZ B F=>?_;subst F;clear h;induction l generalizing Z with
 | nil=>have Y:=E0 B;clear B;subst Y;exact b8R
 | cons st l W =>
  refine j9 (A2 B) λx O R U J=>?_;subst J;exact b6y (V st x R) (W O U)
theorem a9g:∀ (k:Nat) (l:List Str),l.length<=k->l.eraseDups.length<=l.length/\(l.eraseDups.length=l.length->l.Nodup):=by
 intro k;induction k with
 | zero =>
  intro l h;cases l with
  | nil=>exact ⟨c7l _,λ_=>c8g⟩
  | cons _ _=>exact c7Y h (Nat.not_succ_le_zero _)
 | succ k V =>
  intro B;cases B with
  | nil =>
   intro _;exact ⟨c7l _,λ_=>c8g⟩
  | cons a l =>
   intro h;rw[List.eraseDups_cons];have q:=List.length_filter_le (λb=>!b==a) l;simp only [List.length_cons] at h ⊢;refine eA (V (l.filter λb=>!b==a) (c33 h q)) λO R=>⟨by exact c4i q O,λe=>?_⟩
   have F:(l.filter λb=>!b==a).length=l.length:=by exact c3E q O e
   have J:l.filter (λb=>!b==a)=l:=List.filter_eq_self.mpr (List.length_filter_eq_length_iff.mp F);rw [J] at R;refine List.nodup_cons.mpr ⟨λU=>?_,R (by rw [J] at e;exact Nat.add_right_cancel e)⟩
   have:=List.length_filter_eq_length_iff.mp F a U;simp at this
theorem b4D {x y:Nm} {v u:f5} (h:x≠y):(r.set x v).set y u=(r.set y u).set x v:=by
 funext z
 by_cases q:z=x
 ·subst q;rw[(Q4 h)];rw[U7];rw[U7];rfl
 ·by_cases B:z=y
  ·subst B;rw[U7];rw[(Q4 q)];rw[U7];rfl
  ·rw[(Q4 B)];rw[(Q4 q)];rw[(Q4 q)];rw[(Q4 B)];rfl
theorem a8V {xs:List Nm}:∀ {vs:List f5} {x:Nm} {v u:f5},xs.Nodup->(x,v)∈xs.zip vs->(x,u)∈xs.zip vs->v=u:=by
 induction xs with
 | nil=>intro vs x v u _ h _;simp at h
 | cons a xs U =>
  intro vs x v u J B F;cases vs with
  | nil=>simp at B
  | cons b vs =>
   refine eA (List.nodup_cons.mp J) λR J=>?_;rw [List.zip_cons_cons] at B F;rcases c8z B with O | h1'
   ·rcases c8z F with q | h2'
    ·exact (c7o (·.2) O).trans (c7o (·.2) q).symm
    ·cases O;exact c7Y (List.of_mem_zip h2').1 R
   ·rcases c8z F with q | h2'
    ·cases q;exact c7Y (List.of_mem_zip h1').1 R
    ·exact U J h1' h2'
theorem a5o {xs:List Nm} {vs:List f5} (R:xs.Nodup) (O:xs.length=vs.length):bindL xs.reverse vs.reverse r=bindL xs vs r:=by
 unfold bindL;have e:xs.reverse.zip vs.reverse=(xs.zip vs).reverse:=(List.reverse_zipWith O).symm;rw[e];refine List.Perm.foldl_eq' (List.reverse_perm _) (λp F q J z=>?_) r;obtain ⟨x,v⟩:=p;obtain ⟨y,u⟩:=q;have F:=List.mem_reverse.mp F;have J:=List.mem_reverse.mp J;by_cases B:x=y
 ·subst B;rw[(a8V R F J)];rfl
 ·exact b4D B
theorem m4.reverse:∀ {l:List f5} {us:List Value},m4 G h l us->m4 G h l.reverse us.reverse:=by
 intro l;induction l with
 | nil=>intro us r;replace r:=a1a r;subst r;exact .nil
 | cons v l B =>
  intro us r;replace r:=F9 r;revert r;intro q;refine j9 q λu O F J r=>?_;clear q;subst F;rw[List.reverse_cons];rw[List.reverse_cons];exact (B r).append (.cons J .nil)
theorem b4k {xs:List Str} (h:xs.Nodup) (ha:∀ x∈xs,B1 x=true):(xs.map nm).Nodup:=by
 induction xs with
 | nil=>exact c8g
 | cons x xs O =>
  refine eA (List.nodup_cons.mp h) λB F=>List.nodup_cons.mpr ⟨λJ=>?_,O F λy q=>ha y (c7i _ q)⟩;exact j5 (c8s J) λy q e=>B (Q2 (ha y (c7i _ q)) (ha x c7j) e▸q)
theorem b2R:∀ (xs:List Str) (l:List f5) (us:List Value) (s:Shared) (H:Hp) (r:En) (Q:Unit->Shared->Prop),(∀ x∈xs,B1 x=true/\c.var x=true)->l.length=xs.length->c8J H s.heap->c8K lf c r H s.heap->m4 G s.heap l us ->
  (∀ W,c8K lf c (bindL (xs.map nm) l r) H W.heap->c8T (FX lf) H s H W->Q () W)->wpAny c8L A (assignInOrder (xs.map λn=>bindName lf n) us) Q D7 s:=by
 intro xs;induction xs with
 | nil =>
  intro l us s H r Q _ U R F J q;cases l with
  | cons _ _=>exact nomatch U
  | nil =>
   replace J:=a1a J;subst J;exact c61 (q s F (.refl R))
 | cons x xs i =>
  intro l us s H r Q a U R F J q;cases l with
  | nil=>exact nomatch U
  | cons v l =>
   replace J:=F9 J;revert J;intro O;refine j9 O λu Z V j J=>?_;clear O;subst V;refine eA (a x c7j) λf g=>c60 (c63 (a3k false R F g f j λb d B=>?_));have B:c8T (FX lf) H s H b:=B.weaken λ_ z=>z;exact i l Z b H _ Q (λy h=>a y (c7i _ h)) (Nat.succ.inj U) B.rel d (B.ext.vreps R (a29 F) J) λk e Y=>q k e (B.trans Y)
noncomputable def a0t (lf:Env) (line:Nat) (e:c8H):Option Str:=swappedStores.match_8 (λ_=>Option Str) e (λid pos=>if lf.kindOf id==some .local&&pos.line==line then some id else none) λ_=>none
theorem b15 {line:Nat} {x:Str} (h:a0t lf line e=some x):∃ p,e=.Name x p:=by
 cases e with
 | Name id p =>
  unfold a0t at h;dsimp only at h
  split at h
  ·have q:=E0 h;clear h;subst q;exact ⟨p,rfl⟩
  ·cases h
 | _=>exact A3 h
theorem b16 {line:Nat}:∀ {q:List c8H},(q.filterMap (a0t lf line)).length=q.length->∀ e∈q,∃ x,a0t lf line e=some x:=by
 intro q;induction q with
 | nil=>intro _ e he;exact (c7E he).elim
 | cons t q F =>
  intro h e he;have B:=List.length_filterMap_le (a0t lf line) q;cases ht:a0t lf line t with
  | none=>rw [List.filterMap_cons_none ht,List.length_cons] at h;exact (c2h h B).elim
  | some x =>
   rw [List.filterMap_cons_some ht,List.length_cons,List.length_cons] at h;rcases c8z he with rfl | he
   ·exact ⟨x,ht⟩
   ·exact F (Nat.succ.inj h) e he
theorem a9Z {line k:Nat} {K:Calls}:∀ {F:List c8H} {B:List Tv} {vs:List f5} {r:En} {H:Hp} {Q:En->Hp->Prop},(∀ e∈F,∃ x,a0t lf line e=some x)->G2 (a8S k c) F=some B->vs.length=B.length->b6W K B vs r H Q ->
  (∀ x∈F.filterMap (a0t lf line),B1 x=true/\c.var x=true)/\(F.filterMap (a0t lf line)).length=vs.length/\Q (bindL ((F.filterMap (a0t lf line)).map nm) vs r) H:=by
 intro F;induction F with
 | nil =>
  intro B vs r H Q _ h _ q;have s:=E0 h;clear h;subst s;revert q;intro Y;refine eA Y λu q=>?_;clear Y;subst u;exact ⟨λx J=>(c7E J).elim,rfl,q⟩
 | cons e F o =>
  intro B vs r H Q W h j q;refine j9 (A2 h) λt b ht O V=>?_;subst V;revert q;intro Z;refine A6 Z λv A w q=>?_;clear Z;subst w;refine eE (W e c7j) λx J=>eE (b15 J) λp z=>?_;subst z;refine eA (r9 ht) λd ht=>j5 (n9 ht) λa g U=>?_;subst U;refine eA (B8 g) λf R=>?_;subst R;refine eAA (o (λe i=>W e (c7i _ i)) O (Nat.succ.inj j) q) λl m n=>?_
  rw[(List.filterMap_cons_some J)];refine ⟨λy hy=>?_,c7o (·+1) m,n⟩;rcases c8z hy with rfl | hy
  ·exact ⟨f,d⟩
  ·exact l y hy
theorem b4S {q vs:List c8H} {k R:Nat} {p U:Pos} (V:vs.all (constantsAlone 8)=false):swappedStores [.Tuple q k p] (.Tuple vs R U) lf=pure none \/
  ∃ line,swappedStores [.Tuple q k p] (.Tuple vs R U) lf=pure (some (q.filterMap (a0t lf line)))/\(q.filterMap (a0t lf line)).length=q.length/\(q.filterMap (a0t lf line)).Nodup:=by
 by_cases F:(!(q.length==2||q.length==3)||vs.length != q.length||lf.blockKind != .function)=true
 ·exact .inl (c7X F)
 by_cases J:(vs.any λx=>swappedStores.match_5 (λ_=>Bool) x (λ_ _=>true) λ_=>false)=true
 ·exact .inl ((c7W F).trans (c7X J))
 by_cases B:((q.filterMap (a0t lf ((q.head?.map (·.pos.line)).getD 0))).length != q.length||(q.filterMap (a0t lf ((q.head?.map (·.pos.line)).getD 0))).eraseDups.length != (q.filterMap (a0t lf ((q.head?.map (·.pos.line)).getD 0))).length)=true
 ·exact .inl ((c7W F).trans ((c7W J).trans (c7X B)))
 by_cases O:vs.all (foldedForSure 8)=true
 ·exact .inl ((c7W F).trans ((c7W J).trans ((c7W B).trans (c7X O))))
 refine .inr ⟨_,(c7W F).trans ((c7W J).trans ((c7W B).trans ((c7W O).trans (c7W (by rw[V];exact c7u))))),?_⟩
 rw [Bool.not_eq_true,Bool.or_eq_false_iff,bne_eq_false_iff_eq,bne_eq_false_iff_eq] at B;exact ⟨B.1,(a9g _ _ (c7l _)).2 B.2⟩
inductive b7j (lf:Env):c8H->c8H->Prop
 | mk:∀ ts k p vs k' p' line,swappedStores [.Tuple ts k p] (.Tuple vs k' p') lf=pure (some (ts.filterMap (a0t lf line)))->(ts.filterMap (a0t lf line)).length=ts.length->(ts.filterMap (a0t lf line)).Nodup->b7j lf (.Tuple ts k p) (.Tuple vs k' p')
theorem a5B (q:a2e t e=false):swappedStores [t] e lf=pure none\/b7j lf t e:=by
 cases t with
 | List F p=>exact nomatch (show true=false from q)
 | Tuple F k p =>
  cases e with
  | Tuple R J O=>exact (b4S q).imp_right λB=>by refine y4 B λ_ a b c=>?_;clear B;exact ⟨_,_,_,_,_,_,_,a,b,c⟩
  | _=>exact .inl rfl
 | _=>exact .inl rfl
variable {X:Addr->Prop}{one:Bool}{iter:c8H}{it:It}{t2:List Nm}
theorem R7.plain (F:c8K lf c r H h):interactive lf=false:=by
 unfold interactive;rw[F.kind];rfl
theorem b6R (V:c8I m c e x) (U:a0F e=false):c9b m c (.Expr e pos) (r8 x):=λA s H r W Q O R F q =>
 wpAny_Expr_any (m3 (V A s H r W _ O R F q) λp v J a Z B Y=>⟨.next,r,J,rfl,B.no,F.step R B,Y⟩) F.plain (by cases e <;> first | rfl | exact nomatch U)
theorem b9c (U:c8I m c e x):c9b m c (.Return (some e) pos) (I9 x):=λA s H r V Q O R F q =>
 wpAny_Return_some (m3 (U A s H r V _ O R F q) λp v J Z Y B W=>⟨.ret p,r,J,⟨v,rfl,Y⟩,B.no,F.step R B,W⟩)
theorem c0w {z:Cv} {a b:List Stmt} {x y:Bv} (ht:c8P m c t z) (ha:c9a m c a x) (Y:c9a m c b y):c9b m c (.If t a b pos) (U9 z x y):=λA s H r O Q J R F q=>by
 refine wpAny_If (m3 (ht A s H r O _ J R F q) λp v U W Z B V=>?_);cases (show p=v from Z);cases p with
 | true=>exact c62 (ha A W U r O Q J B.rel (F.step R B) (V.1 rfl)) (λ_ _ g=>g.after B.no) λ_ _ e=>e
 | false=>exact c62 (Y A W U r O Q J B.rel (F.step R B) (V.2 rfl)) (λ_ _ g=>g.after B.no) λ_ _ e=>e
theorem a7x {f:Flow} {J:Shared} {P:En->Hp->Prop} {V:f5->En->Hp->Prop} {X:Flow->Prop} {B:En->Hp->Prop} (g:a38 G w lf c H s (λf q F=>a3P f (P q F) (λv=>V v q F) (B q F)) f J)
  (a:∀ q F,c8T (FX lf) H s F J->c8K lf c q F J.heap->P q F->X .next)
  (b:∀ v u q F,c8T (FX lf) H s F J->c8K lf c q F J.heap->j7 G J.heap v u->V v q F->X (.ret u))
  (d:∀ q F,c8T (FX lf) H s F J->c8K lf c q F J.heap->B q F->X .brk):X f:=by
 refine a1i g λZ q W R O U Y=>?_;clear g;cases Z with
 | next=>cases (show f=.next from R);exact a q W O U Y
 | ret v=>refine j5 R λu e h=>?_;clear R;subst e;exact b v u q W O U h Y
 | brk=>cases (show f=.brk from R);exact d q W O U Y
theorem b4N {z:Cv} {a:List Stmt} {x:Bv} (ht:c8P m c t z) (ha:c9a m c a x):c9b m c (.While t a [] pos) (a5z z x):=λA s H r U Q E R F q=>by
 revert q;intro W;refine eE W λk q=>?_;clear W;refine wpAny_While (codeAny_whileLoop (λk Z=>∃ J B,c8T (FX U) H s B Z/\c8K U c J B Z.heap/\b5j (z c8Q) (x c8Q) k J B Q) (λk Z I=>?_) k ⟨r,H,.refl R,F,q⟩);refine j9 I λJ B h y q=>?_;clear I;cases k with
 | zero=>exact q.elim
 | succ k =>
  refine c62 (ht A Z B J U _ E h.rel y q) (λb M K=>?_) λ_ _ e=>e.elim;refine j9 K λp D o O W=>?_;clear K;have o:p=b:=o;subst o;have C:=y.step h.rel O;cases p with
  | false =>
   rw[(c7W c7u)];exact wpAny_execs_nil ⟨.next,J,D,rfl,h.trans O.no,C,W.2 rfl⟩
  | true =>
   rw[(c7X rfl)];refine c62 (ha A M D J U _ E O.rel C (W.1 rfl)) (λf d g=>?_) λ_ _ e=>e.elim;have Y:=h.trans O.no;refine a7x (X:=λf=>match f with
      | .next | .cont=>∃ m,m < k+1/\∃ J B,c8T (FX U) H s B d/\c8K U c J B d.heap/\b5j (z c8Q) (x c8Q) m J B Q
      | .brk=>a38 G w U c H s Q .next d
      | .ret v=>a38 G w U c H s Q (.ret v) d) g (λn j V i l=>?_) (λv u n j V i L l=>?_) λ_ _ _ _ q=>q.elim
   ·exact ⟨k,c7y k,n,j,Y.trans V,i,l⟩
   ·exact ⟨.ret v,n,j,⟨u,rfl,L⟩,Y.trans V,i,l⟩
theorem b9b {k:Nat} {a:List Stmt} {x:Bv} {t:List Nm} (g:Gok G c) (a9:SIt lc w G n m c iter it) (ha:SB lc w G n m c a x) (a1:a0T tg=some (t,one)) (hk:X9 c.var tg=true) (a5:a2J it one=true) :
  SS lc w G n m c (.For tg iter a [] pos) (S4 t one it x):=λA s H r J Q al R F q=>by
 refine eA (a9 A s H r J _ al R F q) λM s2=>wpAny_For (c62 s2 (λxv t1 h1=>c62 h1 (λv t2 D=>?_) λ_ _ e=>e) λ_ _ e=>e) M;refine a1j D λI Z src St H1 q6 ok h0 fr a3 nf q=>?_;clear D;subst q6;have a46:∀ b∈Z,H1 b=none/\G.base b=none:=λb P=>(fr b P).2;have dj:∀ b∈Z,¬ FX J b:=λb P h=>by
  rcases h with e | ⟨x,e⟩
  ·refine A6 F.loc λ_ o ho _=>?_;rw [<- e,(fr b P).1] at ho;cases ho
  ·refine T5 (F.own.2.2 x b e) λ_ _ _ u o e1 _=>?_;rw [(fr b P).1] at e1;cases e1
 have y:∀ a,a∈Z->¬ FX J a:=dj;refine codeAny_forLoop_any (λk M=>∃ i L B,c8T (λa=>a∈Z\/FX J a) H s B M/\c8K J c L B M.heap/\St i M.heap/\(∀ b∈Z,B b=none/\G.base b=none)/\a4f t one (x (j3 G.F n)) src k i L B Q) (λk M I'=>?_) nf ⟨0,r,H1,a3.no,F.step R a3,h0,a46,q⟩;refine a7R I' λi L l st F1 a0 j q=>?_;clear I';have C:∀ {s':Shared} {H':Hp},c8T (λa=>a∈Z\/FX J a) H s H' s'->c8T (FX J) H s H' s':=λx=>⟨x.rel,x.ext.compress λa ha=>ha.elim (λh=>.inr (fr a h).1) .inl,x.gens,x.os⟩
 cases k with
 | zero=>exact q.elim
 | succ k =>
  refine y4 q λo hn q1 q2=>?_;clear q;refine c62 (ok.next A i M l o al.h st.rel a0 j hn) (λo' s2 D=>?_) λ_ _ e=>e.elim;have nt:=a43 ok a0;cases o with
  | none =>
   refine eA D λq3 O=>?_;clear D;subst q3;have N:=st.trans (O.weaken (Y:=λa=>a∈Z\/FX J a) λ_ h=>.inl h);exact wpAny_execs_nil ⟨.next,L,l,rfl,C N,F1.extX st.rel O.ext nt y,q1 rfl⟩
  | some v =>
   refine j5 (q2 v rfl) λr2 P q=>a2U D λu K ru O _ a6 a4=>?_;clear D;subst K;refine c62 (a4 tg (λ_ s3=>c8T (·∈Z) l s2 l s3/\St (i+1) s3.heap) (a7c a1 a5) λs3 U E=>⟨U,E⟩) (λ_ s3 h3=>?_) λ_ _ e=>e.elim;refine eA h3 λU E=>?_;clear h3;have F2:=F1.extX st.rel O.ext nt y;have a2:W3 (·∈Z) s2.heap:=λa o vs n hX e1 _ e2=>by
    refine j5 (a6 a hX) λo' e3 e4=>?_;rw [e1] at e3;have q1:=E0 e3;clear e3;subst q1;exact e4 _ _ e2
   have F3:=F2.extX O.rel U.ext a2 y;have a7:=U.ext.vrep O.rel a2 ru;have N:=st.trans ((O.trans U).weaken (Y:=λa=>a∈Z\/FX J a) λ_ h=>.inl h);refine c62 (b4X false g.toGk al.h a1 hk P U.rel F3 a7 (Q:=λ_ S=>c8K J c r2 l S.heap/\c8T (FX J) l s3 l S) λS F4 W=>⟨F4,W.weaken λ_ z=>z⟩) (λ_ S h4=>?_) λ_ _ e=>e.elim;refine eA h4 λF4 W=>?_;clear h4
   have nw:∀ b∈Z,¬ FX J b:=dj;have p:St (i+1) S.heap:=a4s ok U.rel E W j nw (a29 F3);have d:=N.trans (W.weaken λ_ h=>.inr h);refine c62 (ha A S l r2 J _ al W.rel F4 q) (λf s5 gg=>?_) λ_ _ e=>e.elim;refine a7x (X:=λf=>match f with
      | .next | .cont=>∃ m,m < k+1/\∃ i L B,c8T (λa=>a∈Z\/FX J a) H s B s5/\c8K J c L B s5.heap/\St i s5.heap/\(∀ b∈Z,B b=none/\G.base b=none)/\a4f t one (x (j3 G.F n)) src m i L B Q
      | .brk=>a38 G w J c H s Q .next s5
      | .ret v=>a38 G w J c H s Q (.ret v) s5) gg (λr5 H5 V T K=>?_) (λv u r5 H5 V T a8 K=>?_) λr5 H5 V T K=>?_
   ·exact ⟨k,c7y k,i+1,r5,H5,d.trans (V.weaken λ_ h=>.inr h),T,a4s ok W.rel p V j nw (a29 F4),a8y V j (ok.nons _ _ p) nw,K⟩
   ·exact ⟨.ret v,r5,H5,⟨u,rfl,a8⟩,C (d.trans (V.weaken λ_ h=>.inr h)),T,K⟩
   ·exact ⟨.next,r5,H5,rfl,C (d.trans (V.weaken λ_ h=>.inr h)),T,K⟩
variable {acc:List f5}
theorem b6D:c8I m c (.Dict [] [] pos) a2x:=λA s H r J Q B R F q =>
 wpAny_Dict_empty ⟨.ref _,_,.ref,.alloc (t:=s.toks) R (a4w (.dict 0) (c68 _ rfl)),q _ R.fresh⟩
noncomputable def KVs (G:Gi) (h:Heap):List String->List f5->List (Value×Value)->Prop
 | [],xs,ps=>xs=[]/\ps=[]
 | k :: ks,xs,ps=>∃ x xs' p ps',xs=x :: xs'/\ps=p :: ps'/\j7 G h (.str k) p.1/\j7 G h x p.2/\KVs G h ks xs' ps'
theorem KVs.mono {h h':Heap} (k:∀ a vs,IsTup h a vs->IsTup h' a vs):∀ {ks:List String} {xs:List f5} {ps:List (Value×Value)},KVs G h ks xs ps->KVs G h' ks xs ps:=by
 intro U;induction U with
 | nil =>
  intro _ _ e;exact e
 | cons _ _ R =>
  intro _ _ F;obtain ⟨x,B,p,q,J,O,a,b,d⟩:=F;exact ⟨x,B,p,q,J,O,a.mono k,b.mono k,R d⟩
theorem b4q (L:∀ e x,T3 k c e=some x->c8I m c e x) (t:AOk n m A):∀ (ks:List (Option c8H)) (es:List c8H) (O:List String) (l:List Ev) (s:Shared) (H:Hp) (Q:List f5->Hp->Prop),
  G2 a4T ks=some O->G2 (T3 k c) es=some l->ks.length=es.length->c8J H s.heap->c8K lf c r H s.heap->(a1u l) c8Q r H Q ->
  wpAny c8L A (evalPairs (pairTrees ks es lf pos)) (λps f=>∃ xs W,KVs G f.heap O xs ps/\c8T S5 H s W f/\Q xs W) D7 s:=by
 intro ks;induction ks with
 | nil =>
  intro es O l s H Q Z a b R F q;cases es with
  | cons _ _=>exact nomatch b
  | nil=>have d:=E0 Z;clear Z;subst d;have i:=E0 a;clear a;subst i;exact evalPairs_nil ⟨[],H,⟨rfl,rfl⟩,.refl R,q⟩
 | cons ke ks N =>
  intro es O l s H Q Z a b R F q;cases es with
  | nil=>exact nomatch b
  | cons e es =>
   refine j9 (A2 Z) λkk V E I h=>?_;subst h;refine j9 (A2 a) λx S Y K X=>?_;subst X;refine a5M (a31 E) λy P p g M=>?_;subst g;refine evalPairs_cons (m3 (b4B (m:=m) (c:=c) (k:=P) (pos:=p) M A s H r lf (λv z=>v=.str kk/\z=H) t R F ⟨rfl,rfl⟩) λw ku C f rk J d=>?_);refine eA d λj T=>?_;clear d;subst j;subst T;have o:=F.step R J;refine c60 (m3 (L e x Y A f C r lf _ t J.rel o q) λv u W s2 rv B i=>c60 (c65 (c61 ?_)))
   refine c62 (N es V S s2 W _ I K (Nat.succ.inj b) B.rel (o.step J.rel B) i) (λps s3 Y=>?_) λ_ _ e=>e;refine j9 Y λxs D w U j=>?_;clear Y;exact ⟨v :: xs,D,⟨v,xs,_,ps,rfl,rfl,U.vrep B.rel (B.vrep J.rel rk),U.vrep B.rel rv,w⟩,J.trans (B.trans U),j⟩
theorem b2q (e:AOk n m A):∀ (ks:List String) (xs:List f5) (ps:List (Value×Value)) (acc:List f5) (s:Shared) (H:Hp) (Q:PUnit->Shared->Prop),KVs G s.heap ks xs ps->Acc (.dict 1) G w H s.heap D acc->c8J H s.heap->acc.length+ks.length<=o9 ->
  (∀ U,Acc (.dict 1) G w H U.heap D (acc++((ks.map f5.str).zip xs).map a51)->c8T (·=D) H s H U->Q ⟨⟩ U) ->
  wpAny c8L A (PySem.storeAll D ps) Q D7 s:=by
 intro ks;induction ks with
 | nil =>
  intro xs ps acc s H Q F a R _ q;refine eA F λg h=>?_;clear F;subst g;subst h;unfold PySem.storeAll;rw[List.forIn_nil];exact c61 (q s (by rw[(show acc++(((([]:List String).map f5.str).zip ([]:List f5)).map a51)=acc from c8d _)];exact a) (.refl R))
 | cons k ks f =>
  intro xs ps acc s H Q F a R J q;obtain ⟨x,Y,p,O,rfl,rfl,i,j,F⟩:=F;rw [List.length_cons] at J;unfold PySem.storeAll;rw[(List.forIn_cons ..)];refine c60 (c60 (b5A (by have:=e.units;exact c7k (c7x (c7d rfl) _) this) a R ⟨rfl,rfl⟩ i j (by exact Nat.le_of_add_right_le J) λc d B=>c61 ?_))
  have tup:∀ b W,IsTup s.heap b W->IsTup c.heap b W:=λb W t=>B.ext.tup R a.nt t;refine f Y O _ c H Q (F.mono tup) d B.rel (by rw[c7P];simp only [List.length_cons,List.length_nil];exact c3i J) λl Z V=>?_
  refine q l ?_ (B.trans V);rw [List.append_assoc] at Z;exact Z
theorem b1H:∀ {ks:List (Option c8H)} {q:List String},G2 a4T ks=some q->ks.all (·.isSome)=true:=by
 intro ks;induction ks with
 | nil=>intro _ _;exact rfl
 | cons k ks J =>
  intro q h;refine j9 (A2 h) λa b B F O=>?_;subst O;refine a5M (a31 B) λ_ _ _ R _=>?_;subst R;show (true&&ks.all (·.isSome))=true;rw[(J F)];rfl
theorem b6C {ks:List (Option c8H)} {B:List String} {l:List Ev} (E:∀ e x,T3 k c e=some x->c8I m c e x) (Z:G2 a4T ks=some B) (D:G2 (T3 k c) es=some l)
  (hz:ks.length<=15) (i:ks.length=es.length) (h0:ks≠[]):c8I m c (.Dict ks es pos) (a7O B (a1u l)):=λA s H r X Q h R F q=>by
 refine wpAny_Dict_any (b1H Z) i h0 hz ?_;have st0:c8T S5 H s H {s with heap:=s.heap.push {cls:=.type "dict",data:=.dict #[]}}:=.push (t:=s.toks) R
 have y:(s.heap.push {cls:=.type "dict",data:=.dict #[]}).get? s.heap.objs.size=some {cls:=.type "dict",data:=.dict #[]}:=c68 _ rfl;have W:=K7 R (c7l s.heap.objs.size);refine c62 (b4q E h ks es B l _ H _ Z D i st0.rel (F.step R st0) q) (λK N O=>?_) λ_ _ e=>e;refine J6 O λS Y I J j L=>?_;clear O;have b:B.length<=15:=by refine w3 (a1U Z) ?_;exact hz
 have o:Acc (.dict 1) G w H {s with heap:=s.heap.push {cls:=.type "dict",data:=.dict #[]}}.heap s.heap.objs.size []:=⟨_,b0i (.dict 1),a4w (.dict 1) y,W.2.1,W.2.2⟩
 have p:=o.ext st0.rel J.ext .no (λz=>z);refine b2q h B S K [] N Y _ I p J.rel (by simp only [List.length_nil];unfold o9;exact c7g (c7x b _) (c7d rfl)) λn g f=>?_
 refine N1 g λmo U M O v=>?_;clear g;refine j9 U λT u V _ d=>?_;clear U;subst d;rw [List.nil_append] at V;have V:=b12 V;subst V;have P:c8T S5 H s Y n:=by
  have x:c8T (·=s.heap.objs.size) H s Y n:=(st0.trans J).no.trans f;exact ⟨x.rel,x.ext.compress λa C=>.inr (by rw[(show a=s.heap.objs.size from C)];exact W.1),x.gens,x.os⟩
 exact ⟨.ref _,_,.ref,P.give W.1 O v M,L u _ O⟩
variable {k:f5}{v:Value}
noncomputable def a6h (lc:Program) (w:World) (G:Gi) (n m:Nat):Prop:=∀ (A:Around) (s:Shared) (H:Hp) (v:f5) (u:Value) (Q:l7),AOk n m A->A7 G w H s.heap->j7 G s.heap v u->(b6I v H λys=>alloc (.list ys) H Q)\/b6J v H (λys=>alloc (.list ys) H Q) ->
 wpAny (model lc w) A (call (.type "set") [u]) (λx s1=>n7 G w S5 H s H s1/\wpAny (model lc w) A (call (.builtin "sorted") [x]) (Got G w (j7 G) H s Q) D7 s1) D7 s
theorem a84 {f:Str} {b:BI} (h:b5G.lookup f=some b):a1d.lookup f=some (b2P b):=by
 have:=O5 h;simp only [b5G,List.mem_cons,Prod.mk.injEq,List.not_mem_nil,or_false] at this;rcases this with ⟨rfl,rfl⟩ | ⟨rfl,rfl⟩ | ⟨rfl,rfl⟩ | ⟨rfl,rfl⟩ | ⟨rfl,rfl⟩ | ⟨rfl,rfl⟩ | ⟨rfl,rfl⟩ | ⟨rfl,rfl⟩ | ⟨rfl,rfl⟩ | ⟨rfl,rfl⟩ <;> rfl
theorem a3p (b:BI) (a:Addr):b2P b≠.ref a:=by cases b <;> exact λe=>nomatch e
theorem a4B {f:Str} {q:Value} (g:Gok G c) (R:c8J H s.heap) (F:c8K lf c r H s.heap) (b:C8 c f f=true) (W:(f==("__debug__":Str))=false)
  (ht:a1d.lookup f=some q) (d:∀ a,q≠.ref a) (Z:(backTo pos (starEach es lf)).any (·.1)=false)
  (h:wpAny c8L A (spliced (backTo pos (starEach es lf))) (λus B=>G.K.In B.heap/\wpAny c8L A (call q us) Q D7 B) D7 s):wpAny c8L A (eval (.Call (.Name f p) es [] pos) lf) Q D7 s:=by
 exact b3d (S8 b) λ_ Y U V=>eA (g.blt f q ht U V) λJ O=>wpAny_Call_NameR (wpAny_Name (a8k g R F Y J O (S6 (P:=G.K.In) Z (λh _=>a1S d h) h)) W)
theorem c0t {f:Str} {b:BI} {l:List Ev} {k:Nat} (g:Gok G c) (d:c86 m b) (Z:∀ e x,T3 k c e=some x->c8I m c e x) (O:G2 (T3 k c) es=some l) (Y:C8 c f f=true) (W:(f==("__debug__":Str))=false) (V:b5G.lookup f=some b) :
  c8I m c (.Call (.Name f p) es [] pos) (P9 b (a1u l)):=λA s H r a Q J R F q =>
 a4B g R F Y W (a84 V) (a3p b) (V4 O) (m3 (a15 Z es l O A s H r a pos _ J R F q) λn us U j i B h=>⟨B.rel.In g,A1 B (d A j U n us Q J B.rel i.1 h)⟩)
theorem b0u {f f2:Str} {W B:Value} {p pos D O:Pos} {P:f5->Hp->Prop} (g:Gok G c) (k:AOk n m A) (R:c8J H s.heap) (F:c8K lf c r H s.heap)
  (z:c8I m c e x) (J:∀ l p,e≠.Starred l p) (w:C8 c f f=true) (t:(f==("__debug__":Str))=false) (ht:a1d.lookup f=some W) (C:∀ a,W≠.ref a)
  (Z:C8 c f2 f2=true) (Y:(f2==("__debug__":Str))=false) (b:a1d.lookup f2=some B) (d:∀ a,B≠.ref a) (q:x c8Q r H P)
  (h:∀ v u V U,j7 G U.heap v u->c8T S5 H s V U->P v V->wpAny c8L A (call B [u]) (λy i=>G.K.In i.heap/\wpAny c8L A (call W [y]) Q D7 i) D7 U) :
  wpAny c8L A (eval (.Call (.Name f p) [.Call (.Name f2 D) [e] [] O] [] pos) lf) Q D7 s:=by
 refine a4B g R F w t ht C rfl (wpAny_items_cons (a4B g R F Z Y b d (by rw[(R3 J)];rfl) ?_))
 refine wpAny_items_cons (m3 (z A s H r lf _ k R F q) λv u V U I j E=>wpAny_items_nil ⟨j.rel.In g,c62 (h v u V U I j E) (λy i o=>wpAny_items_nil o) λ_ _ e=>e⟩) (R3 J)
theorem b6N:a1d.lookup a5b=some (.type "set"):=rfl
theorem b6H {p pos i B:Pos} {k:Nat} (g:Gok G c) (f:a6h lc w G n m) (Y:T3 k c e=some x) (d:c8I m c e x) (Z:C8 c a06 a06=true) (J:C8 c a5b a5b=true) :
  c8I m c (.Call (.Name a06 p) [.Call (.Name a5b i) [e] [] B] [] pos) (S0 x):=λA s H r z Q O R F q =>
 b0u g O R F d (λt p h=>by subst h;exact a2a Y) Z (by decide +kernel) (a84 (b:=.sorted) rfl) (a3p .sorted) J (by decide +kernel) b6N (λa h=>nomatch h) q λv u W o l V j =>
  c62 (f A o W v u Q O V.rel l j) (λy C U=>⟨U.1.rel.In g,A1 V U.2⟩) λ_ _ e=>e
theorem a9u {acc:Array Value} {k:Nat} (F:ItemsOf (λi v=>∃ t,v=Value.int (0+i * 1) t) acc k) (W:(k:Int)=(((k:Int) - 0).toNat:Int)):m4 G h (Q3 0 k) acc.toList:=by
 have B:∀ (l:List Value) (j:Nat),(∀ i v,l[i]?=some v->∃ t,v=Value.int ((j+i:Nat):Int) t)->m4 G h ((List.range' j l.length).map λ(i:Nat)=>f5.int (0+(i:Nat))) l:=by
  intro l;induction l with
  | nil=>intro j _;exact .nil
  | cons v l O =>
   intro j q;rw[c72];rw[List.range'_succ];rw[c7Z];refine eE (q 0 v rfl) λt R=>?_;subst R;refine .cons (by rw[(Int.zero_add ..)];exact .int) (O (j+1) λi u J=>?_)
   refine eE (q (i+1) u J) λt V=>?_;subst V;exact ⟨t,by rw[(show j+(i+1)=j+1+i by exact b9z)];rfl⟩
 have:=B acc.toList 0 λi v q=>by
  rw [Array.getElem?_toList] at q;refine eE (F.2 i v q) λt U=>?_;subst U;exact ⟨t,by congr 1;exact c0W⟩
 rw [Array.length_toList,F.1] at this;unfold Q3;rw[(show ((k:Int) - 0).toNat=k by exact c0V)];rw[List.range_eq_range']
 exact this
theorem b2f {p pos P Z:Pos} {k:Nat} (g:Gok G c) (K:T3 k c e=some x) (N:c8I m c e x) (M:C8 c a2N a2N=true) (l:C8 c V8 V8=true) :
  c8I m c (.Call (.Name a2N p) [.Call (.Name V8 P) [e] [] Z] [] pos) (a6o x):=λA s H r lf Q w R F q =>
 b0u g w R F N (λe' p h=>by subst h;exact a2a K) M (by decide +kernel) (a84 (b:=.list) rfl) (a3p .list) l (by decide +kernel) (show a1d.lookup V8=some (.type "range") from rfl) (λa h=>nomatch h) q λv u f B T z d=>by
  revert d;intro y;refine N1 y λO S I j d=>?_;clear y;subst S;refine eE (J0 T) λt d=>?_;subst d;have Y:(o9:Int) < 2 ^ 62:=by decide
  refine call_range_1 ?_;have J:c8T S5 f B f {B with heap:=B.heap.push {cls:=.type "range",data:=.fields #[.int 0 B.toks,.int O t,.int 1 (B.toks+1)]},toks:=B.toks+1+1}:=.push z.rel
  refine ⟨J.rel.In g,?_⟩;have n:Builtin.Range.rangeSize 0 O 1=((O.toNat:Nat):Int):=(a48 0 O).trans (by rw[(Int.sub_zero ..)];rfl)
  refine call_list_range w.h (IsRange.new ..) (small_one (by decide) (by decide) (by exact c8a (Int.neg_le_neg (Int.le_of_lt Y)) I) (by exact Int.lt_of_le_of_lt j Y)) n (by unfold o9 at j;exact c0T j) λE X U C L W V=>?_
  have i:=K7 J.rel (c7l _);have o:c8T S5 f {B with heap:=B.heap.push {cls:=.type "range",data:=.fields #[.int 0 B.toks,.int O t,.int 1 (B.toks+1)]},toks:=B.toks+1+1} f {B with heap:=E,toks:=X}:=.kept J.rel L
  have D:Q3 0 O=Q3 0 ((O.toNat:Nat):Int):=by unfold Q3;congr 2;exact c0O
  refine ⟨.ref _,_,.ref,(z.trans J).trans (o.give (mo:=.list (Q3 0 O)) i.1 i.2.1 i.2.2 ⟨U,C,W,?_⟩),d _ i.2.1⟩;rw[D];exact a9u V (by exact Int.ofNat_inj.mpr rfl)
structure a5F (lc:Program) (w:World) (G:Gi) (n m:Nat):Prop where
 calls:I6 lc w G n
 bi:∀ b,a2P lc w G n m b
 ss:a6h lc w G n m
noncomputable def b0g (lc:Program) (w:World) (G:Gi) (n m k:Nat):Prop:=∀ (c:Cx) (e:c8H) (x:Ev),Gok G c->T3 k c e=some x->SE lc w G n m c e x/\(a0F e=true->SU lc w G n m c e x)
noncomputable def b2D (lc:Program) (w:World) (G:Gi) (n m k:Nat):Prop:=∀ (c:Cx) (e:c8H) (x:Cv),Gok G c->trC k c e=some x->SC lc w G n m c e x
abbrev c9d:=a5F lc w G n
theorem mark (B:CmpOp) (e:c8H) (q:a5P e=false):behindInMarks B e=false:=by cases e <;> first | rfl | exact nomatch q
theorem b0m {q:c8H->Option Ev} {l:c8H} {B:CmpOp} {rs:List c8H} {x:Cv} (h:b9j q l B rs=some x) :
  ∃ r o a b,rs=[r]/\a19 B=some o/\q l=some a/\q r=some b/\behindInMarks B r=false/\x=y8 o a b:=by
 refine j5 (f8 h) λr V h=>eA (r9 h) λJ h=>j5 (f8 h) λa O h=>j5 (f8 h) λb R h=>j5 (n9 h) λo U F=>?_;subst F;exact ⟨r,o,a,b,one?_some V,U,O,R,mark B r (Bool.not_eq_true' _▸J),rfl⟩
section
variable {k:Nat} {c:Cx} (g:Gok G c) (hE:b0g lc w G n m k) (hC:b2D lc w G n m k)
include g hE hC
theorem b95 {x:Cv} (h:c0A (T3 k c) (trC k c) e=some x):c8P m c e x:=by
 have val:∀ {e:c8H} {x:Cv},(T3 k c e).map a7z=some x->(∀ K B,isTrue e K B=(do let v<-B;standAt e.pos;holding [v] (truthy v)))->c8P m c e x:=λ{e x} h C=>by
  refine j5 (n9 h) λy G Z=>?_;subst Z;exact b8W (hE c e y g G).1 C
 have q:=λe x h=>hC c e x g h;cases e with
 | UnaryOp o y p =>
  cases o with
  | Not =>
   refine j5 (n9 h) λz J d=>?_;subst d;exact b8V (q y z J)
  | _=>exact val h λ_ _=>rfl
 | BoolOp o vs p =>
  refine eA (r9 h) λR h=>j5 (n9 h) λl s f=>?_;subst f;cases o with
  | And=>exact b8S q _ _ s
  | Or=>exact c0s q _ _ s
 | Compare l O rs p =>
  replace h:b42 (T3 k c) l O rs=some x:=h;unfold b42 at h;have F:=λe x h=>(hE c e x g h).1;cases W:one? O with
  | some op =>
   rw [W] at h;cases one?_some W;obtain ⟨r,o,a,b,rfl,A,U,V,D,rfl⟩:=b0m h;exact b8T (a9b g.toGk) A (F l a U) (F r b V) D
  | none =>
   rw [W] at h;refine j5 (f8 h) λn Y h=>?_;obtain ⟨X,L⟩:=n;refine j5 (f8 h) λj E h=>?_;obtain ⟨N,u⟩:=j;refine eA (r9 h) λR h=>j5 (f8 h) λa U h=>j5 (f8 h) λb V h=>j5 (f8 h) λz J h=>j5 (f8 h) λS H h=>j5 (n9 h) λT I i=>?_;subst i;cases two?_some Y;cases two?_some E;exact b4z (a9b g.toGk) H I (F l a U) (F N b V) (F u z J) (mark L u (Bool.not_eq_true' _▸R))
 | IfExp t a b p =>
  refine j5 (f8 h) λz J h=>j5 (f8 h) λP R h=>j5 (f8 h) λQ w h=>?_;have M:=E0 h;clear h;subst M;exact b8U (q t z J) (q a P R) (q b Q w)
 | _=>exact val h λ_ _=>rfl
end
variable {elt:c8H}{ifs:List c8H}{sc:Scope}
section
variable {k:Nat} {c:Cx} (g:Gok G c) (hE:b0g lc w G n m k) (hC:b2D lc w G n m k)
include g hE
theorem b2X (F:c9d m) {f:Str} {args:List c8H} (h:b0Y (T3 k c) c f args=some x):c8I m c (.Call (.Name f p) args [] pos) x:=by
 have O:=λe x h=>(hE c e x g h).1;refine eA (r9 h) λr h=>eA (c8u r) λ_ U=>?_;have U:(f==("__debug__":Str))=false:=a7F▸(Bool.not_eq_true' _▸U:(f==a3g)=false);cases A:c.var f with
 | true =>
  rw [A] at h;refine j5 (f8 h) λy B h=>j5 (n9 h) λl J I=>?_;subst I;refine eA (B8 B) λi D=>?_;subst D;exact b4A g F.calls O J (a5i A) i U
 | false =>
 rw [A] at h;refine eA (r9 h) λn h=>?_;have n:=a3D n;cases w:c.fns.contains f with
 | true =>
  rw [w] at h;refine j5 (f8 h) λy B h=>j5 (n9 h) λl J K=>?_;subst K;refine eA (B8 B) λi E=>?_;subst E;exact b6B g F.calls O J n i w U
 | false =>
  rw [w] at h;cases v:c.clss.contains f with
  | true =>
   rw [v] at h;refine j5 (f8 h) λy B h=>j5 (n9 h) λl J L=>?_;subst L;refine eA (B8 B) λi G=>?_;subst G;exact b86 g F.calls O J n i v U
  | false =>
   rw [v] at h;replace h:b40 (T3 k c) c f args=some x:=h;have j:b9h (T3 k c) c f args=some x->c8I m c (.Call (.Name f p) args [] pos) x:=λh=>by
    refine eA (r9 h) λr h=>j5 (f8 h) λb X h=>j5 (f8 h) λl J h=>?_;have q2:=E0 h;clear h;subst q2;exact c0t g (F.bi b) O J (c8u r).1 U X
   unfold b40 at h;cases W:(one? args).bind a3r with
   | none=>rw [W] at h;exact j h
   | some q =>
    rw [W] at h;refine j5 (f8 W) λa1 s t=>?_;obtain ⟨S,as⟩:=q;refine eEE (a3X t) λp2 T Q=>?_;subst Q;cases one?_some s;dsimp only at h;cases o:C8 c S a5b with
    | true =>
     rw [o] at h;refine j5 (f8 h) λa u V=>j5 (f8 V) λy B R=>?_;clear h V W t s j;cases one?_some u;refine eA (S8 o) λH _=>?_;subst H;refine eA (r9 R) λd R=>?_;have C:=E0 R;clear R;subst C;refine eA (S8 d) λM _=>?_;subst M;exact b6H g F.ss B (O a y B) d o
    | false =>
     rw [o] at h;cases z:C8 c S V8&&C8 c f a2N with
     | true =>
      rw [z] at h;refine eA (c8u z) λY Z=>j5 (f8 h) λa u V=>j5 (n9 V) λy B R=>?_;clear h V W t s j;subst R;cases one?_some u;refine eA (S8 Y) λN _=>?_;subst N;refine eA (S8 Z) λP _=>?_;subst P;exact b2f g B (O a y B) Z Y
     | false=>rw [z] at h;exact j h
theorem b5J (O:c9d m) {f:c8H} {args:List c8H} {q:List Keyword} (h:b41 (T3 k c) c f args q pos=some x):c8I m c (.Call f args q pos) x:=by
 refine eA (r9 h) λV J=>?_;clear h;cases q with
 | cons _ _=>exact nomatch V
 | nil =>
  cases f with
  | Attribute U b B =>
   replace J:b44 (T3 k c) U b B args pos=some x:=J;refine eA (r9 J) λF h=>eA (c8u F) λF W=>eA (c8u F) λF Y=>j5 (f8 h) λo Z h=>j5 (f8 h) λy a h=>j5 (f8 h) λl R h=>?_;have d:=E0 h;clear h;subst d;exact b6E g O.calls (hE c U o g Z).1 (λe x h=>(hE c e x g h).1) R a (by refine w3 (a1U R) ?_;exact c7n F) Y W
  | Name f p=>exact b2X g hE O J
  | _=>exact A3 J
theorem b9e {v i:c8H} (h:b7P (T3 k c) v i=some x):c8I m c (.Subscript v i pos) x:=by
 have q:=λe x h=>(hE c e x g h).1;have R:∀ {i:c8H},((T3 k c v).bind λa=>(T3 k c i).bind λb=>some (k8 a b))=some x->a23 i=false->c8I m c (.Subscript v i pos) x:=λ{i} h Y=>by
  refine j5 (f8 h) λa B h=>j5 (f8 h) λb F h=>?_;have Z:=E0 h;clear h;subst Z;exact b81 Y (q v a B) (q i b F)
 cases i with
 | Slice U W j p =>
  refine eA (r9 h) λl J=>?_;clear h;cases j with
  | some _=>exact nomatch l
  | none =>
   cases U with
   | some U =>
    refine eA (r9 J) λn h=>?_;cases W with
    | some _=>exact nomatch n
    | none =>
     refine j5 (f8 h) λa B h=>j5 (f8 h) λb F h=>?_;have d:=E0 h;clear h;subst d;exact b2g g.toGk (q v a B) (q U b F)
   | none =>
    refine j5 (f8 J) λO V h=>?_;clear J;cases V;refine j5 (f8 h) λa B h=>j5 (f8 h) λb F h=>?_;have f:=E0 h;clear h;subst f;exact b6G g.toGk (q v a B) (q O b F)
 | _=>exact R h rfl
include hC
theorem c0l {B:Comprehension} (h:b9k (T3 k) (trC k) c elt B sc=some x):c8I m c (.ListComp elt [B] sc pos) x/\c85 m c (.ListComp elt [B] sc pos) x:=by
 obtain ⟨d,iter,Z,a⟩:=B;refine eA (r9 h) λq h=>eA (c8u q) λq O=>eA (c8u q) λq J=>?_;cases (show a=0 from c8j q);refine j5 (f8 h) λF ht h=>?_;obtain ⟨t,one⟩:=F;refine j5 (f8 h) λb V h=>j5 (f8 h) λifs U h=>j5 (f8 h) λy W h=>eA (r9 h) λR h=>?_;have Y:=E0 h;clear h;subst Y
 exact b3R g (λe x h=>hC _ e x g.sub h) (hE _ elt y g.sub W).1 U (a67 g (λe x h=>(hE c e x g h).1) V) J ht O R
theorem c0m {q B:Comprehension} (h:b9l (T3 k) (trC k) c elt q B sc=some x):c8I m c (.ListComp elt [q,B] sc pos) x/\c85 m c (.ListComp elt [q,B] sc pos) x:=by
 obtain ⟨I,iter,j,a⟩:=q;obtain ⟨E,R,l,i⟩:=B;refine eA (r9 h) λY h=>eA (c8u Y) λZ u=>eA (c8u Z) λb s=>eA (c8u b) λd r=>eA (c8u d) λf p=>eA (c8u f) λn o=>?_;clear Y Z b d f;cases (show a=0 from c8j n)
 cases (show i=0 from c8j o);cases List.isEmpty_iff.mp (show j.isEmpty=true from p);refine j5 (f8 h) λU ht h=>?_;obtain ⟨t,one⟩:=U;refine j5 (f8 h) λG z h=>j5 (f8 h) λV O h=>?_;obtain ⟨H,W⟩:=V;refine j5 (f8 h) λC J h=>j5 (f8 h) λifs w h=>j5 (f8 h) λy A h=>eA (r9 h) λF h=>eA (c8u F) λF v=>?_
 have D:=E0 h;clear h;subst D;exact b3S g (λe x h=>hC _ e x g.sub h) (hE _ elt y g.sub A).1 w (a67 g (λe x h=>(hE c e x g h).1) z) (a67 g.sub (λe x h=>(hE _ e x g.sub h).1) J) O u v r ht s F
theorem c0a (I:c9d m) (h:c0B c (T3 k) (trC k) e=some x):c8I m c e x/\(a0F e=true->c85 m c e x):=by
 have U:=λe x h=>(hE c e x g h).1;have w:=λe x h=>hC c e x g h;cases e with
 | Constant v kk p =>
  refine ⟨?_,λh=>nomatch h⟩
  refine j5 (n9 h) λy J X=>?_;subst X;cases v with
  | none=>have P:=E0 J;clear J;subst P;exact b6F
  | bool b=>have S:=E0 J;clear J;subst S;exact b6A
  | int i=>have T:=E0 J;clear J;subst T;exact b82
  | str s=>refine j5 (n9 J) λt ht a7=>?_;subst a7;exact b4B ht
  | _=>exact A3 J
 | Name y p =>
  refine ⟨?_,λh=>nomatch h⟩
  refine eA (r9 h) λB h=>?_;have hd:(y==("__debug__":Str))=false:=a7F▸(Bool.not_eq_true' _▸B:(y==a3g)=false);cases E:c.var y with
  | true =>
   rw [E] at h;refine j5 (n9 h) λa V a0=>?_;subst a0;exact b88 V (a5i E) hd
  | false =>
   rw [E] at h;refine eA (r9 h) λhk h=>j5 (n9 h) λa V a1=>?_;subst a1;exact eA (c8u hk) λB F=>b80 g V (a3D B) F hd
 | Tuple C kk p =>
  refine ⟨?_,λh=>nomatch h⟩
  refine eA (r9 h) λB h=>j5 (n9 h) λl D a2=>?_;subst a2;exact b87 (a15 U C l D) (c7n B)
 | List C p =>
  refine ⟨?_,λh=>nomatch h⟩
  refine eA (r9 h) λB h=>j5 (n9 h) λl D a3=>?_;subst a3;exact b84 (a15 U C l D) (c7n B)
 | Dict G j p =>
  refine ⟨?_,λh=>nomatch h⟩
  replace h:a91 (T3 k c) G j=some x:=h;unfold a91 at h;cases O:G.isEmpty&&j.isEmpty with
  | true =>
   rw [O] at h;have q9:=E0 h;clear h;subst q9;refine eA (c8u O) λB F=>?_;cases G with
   | cons _ _=>exact nomatch B
   | nil =>
    cases j with
    | cons _ _=>exact nomatch F
    | nil=>exact b6D
  | false =>
   rw [O] at h;refine eA (r9 h) λB h=>eA (c8u B) λB F=>j5 (f8 h) λa V h=>j5 (f8 h) λb Z h=>?_;have K:=E0 h;clear h;subst K;have F:=c8j F;refine b6C U V Z (c7n B) F λe=>?_;subst e;cases j with
   | nil=>exact nomatch O
   | cons _ _=>exact nomatch F
 | BinOp a o b p =>
  refine ⟨?_,λh=>nomatch h⟩
  refine j5 (f8 h) λo' d h=>j5 (f8 h) λy J h=>j5 (f8 h) λz O h=>?_;have L:=E0 h;clear h;subst L;exact b8Y (U a y J) (U b z O) λA s H v u p q Q al R r1 r2 Z=>b8h o o' d A s H v u p q Q al R r1 r2 Z
 | UnaryOp o y p =>
  refine ⟨?_,λh=>nomatch h⟩
  cases o with
  | USub =>
   refine j5 (n9 h) λz O a4=>?_;subst a4;exact b85 (U y z O)
  | Not=>exact A3 h
  | _=>exact A3 h
 | BoolOp o j p =>
  refine ⟨?_,λh=>nomatch h⟩
  refine eA (r9 h) λB h=>j5 (f8 h) λa8 F h=>?_;obtain ⟨a,b⟩:=a8;refine j5 (f8 h) λy J h=>j5 (n9 h) λz O a5=>?_;subst a5;cases two?_some F;cases o with
  | And=>exact b8X (U a y J) (U b z O)
  | Or=>exact nomatch B
 | Compare l os rs p =>
  refine ⟨?_,λh=>nomatch h⟩
  refine j5 (f8 h) λop B h=>j5 (n9 h) λy J a6=>?_;subst a6;cases one?_some B;obtain ⟨r,o,a,b,rfl,hc,V,Z,hm,rfl⟩:=b0m J;exact b8Z (a9b g.toGk) hc (U l a V) (U r b Z) hm
 | IfExp t a b p =>
  refine ⟨?_,λh=>nomatch h⟩
  refine j5 (f8 h) λz O h=>j5 (f8 h) λy1 B h=>j5 (f8 h) λy2 F h=>?_;have M:=E0 h;clear h;subst M;exact b83 (w t z O) (U a y1 B) (U b y2 F)
 | Attribute v a p =>
  refine ⟨?_,λh=>nomatch h⟩
  refine eA (r9 h) λB h=>eA (c8u B) λB F=>j5 (f8 h) λy J h=>j5 (f8 h) λz O h=>?_;have N:=E0 h;clear h;subst N;exact b6z g (U v y J) O B F
 | Subscript v i p=>exact ⟨b9e g hE h,λh=>nomatch h⟩
 | Call f args b0 p=>exact ⟨b5J g hE I h,λh=>nomatch h⟩
 | ListComp elt Y n p =>
  have W:c8I m c (.ListComp elt Y n p) x/\c85 m c (.ListComp elt Y n p) x:=by
   replace h:(match one? Y with | some g=>b9k (T3 k) (trC k) c elt g n | none=>(two? Y).bind λg=>b9l (T3 k) (trC k) c elt g.1 g.2 n)=some x:=h
   cases d:one? Y with
   | some gg =>
    rw [d] at h;cases one?_some d;exact c0l g hE hC h
   | none =>
    rw [d] at h;refine j5 (f8 h) λa9 F h=>?_;obtain ⟨g1,g2⟩:=a9;cases two?_some F;exact c0m g hE hC h
  exact ⟨W.1,λ_=>W.2⟩
 | _=>exact A3 h
end
theorem c0C (q:c9d m):∀ k,b0g lc w G n m k/\b2D lc w G n m k:=by
 intro k;induction k with
 | zero=>exact ⟨λ_ _ _ _ h=>A3 h,λ_ _ _ _ h=>A3 h⟩
 | succ k J =>
  refine eA J λF B=>?_;clear J;exact ⟨λc e x g h=>c0a g F B q h,λc e x g h=>b95 g F B h⟩
theorem b3n {α β:Type} {f g:α->Option β}:∀ {l:List α},(∀ a∈l,f a=g a)->l.filterMap f=l.filterMap g:=by
 intro l;induction l with
 | nil=>intro _;exact rfl
 | cons a l q =>
  intro h;have q:=q λb B=>h b (c7i _ B);rw[List.filterMap_cons];rw[List.filterMap_cons];rw[(h a c7j)];rw[q];rfl
theorem b0e {α:Type}:∀ (xs:List Str) (us:List α),us.length=xs.length->xs.Nodup->(∀ x∈xs,((xs.zip us).lookup x).isSome=true)/\xs.filterMap (λn=>((xs.zip us).lookup n).map (n,·))=xs.zip us:=by
 intro xs;induction xs with
 | nil =>
  intro _ _ _;exact ⟨λx J=>(c7E J).elim,rfl⟩
 | cons x xs V =>
  intro O;cases O with
  | nil =>
   intro h _;exact nomatch h
  | cons u us =>
   intro h F;refine eA (List.nodup_cons.mp F) λJ F=>eA (V us (Nat.succ.inj h) F) λR U=>?_;have B:∀ y∈xs,((x :: xs).zip (u :: us)).lookup y=(xs.zip us).lookup y:=λy hy=>by
    rw[List.zip_cons_cons];rw[c71];have:(y==x)=false:=by
     cases e:y==x with
     | false=>rfl
     | true=>exact c7Y (c8j e▸hy) J
    rw[this];rfl
   have q:((x :: xs).zip (u :: us)).lookup x=some u:=by rw[List.zip_cons_cons];rw[c71];rw[(c8b ..)];rfl
   refine ⟨λy hy=>?_,?_⟩
   ·rcases c8z hy with rfl | hy
    ·rw[q];rfl
    ·rw[(B y hy)];exact R y hy
   ·refine b9 (List.filterMap_cons_some (b:=(x,u)) (by rw[q];rfl)) ?_
    show _=(x,u) :: xs.zip us;refine w3 U ?_;exact c7o _ (b3n λy hy=>by rw[(B y hy)];rfl)
theorem a85 {name B:Str} {body:List Stmt} {q:Scope} {c J f F V:Value} {U:Option Addr} {args:List PySem.Arg} {d:List (Option c8H)} {us:List Value} (R:us.length=(args.map (·.arg)).length) (b:(args.map (·.arg)).Nodup) :
  bindArgs (fnOf name B ⟨[],args,none,[],d,none,[]⟩ body q .none c J f U F V) ⟨us,[]⟩=pure ((args.map (·.arg)).zip us):=by
 refine eA (b0e _ us R b) λW Y=>?_;have g:seqItems? (Value.none)=pure none:=rfl;have a:((args.map (·.arg)).filter λn=>(((args.map (·.arg)).zip us).lookup n).isNone)=[]:=by
  refine O0 (List.filter_eq_nil_iff ..) ?_;intro x O;have:=W x O;cases e:((args.map (·.arg)).zip us).lookup x with
  | none=>rw [e] at this;exact nomatch this
  | some _=>exact c7u
 have Z:(decide (us.length > (args.map (·.arg)).length)&&(none:Option PySem.Arg).isNone)=false:=by
  rw[R];rw[(c7N (c7J _))];rfl
 refine Eq.trans (show bindArgs _ _=if (decide (us.length > ((args.map (·.arg)).length))&&(none:Option PySem.Arg).isNone)=true then _ else _ from rfl) ?_
 refine (c7W (by rw[Z];exact c7u)).trans ?_
 refine (c7W (λe=>?_)).trans ?_
 ·have e:(!(((args.map (·.arg)).take _).filter λn=>(((args.map (·.arg)).zip us).lookup n).isNone).isEmpty)=true:=e;rw [List.filter_eq_nil_iff.mpr λx O=>List.filter_eq_nil_iff.mp a x (List.mem_of_mem_take O)] at e;exact nomatch e
 rewrite [show ∀ n,List.drop n ((none:Option (Array Value)).getD #[]).toList=[] from λn=>List.drop_nil];rw[List.zip_nil_right];exact c7o (pure:_->Sem (List (Str×Value))) ((c7o (List.filterMap _) (c8d _)).trans Y)
variable {S:Addr}
theorem a87:∀ (q:List (Str×NameKind)) (k:Nat) (acc:List (Str×Addr)) (x:Str),(acc.lookup x).isSome=true->((cellsFrom k q acc).lookup x).isSome=true:=by
 intro r;induction r with
 | nil =>
  intro _ _ _ h;exact h
 | cons B r F =>
  intro k acc x h;obtain ⟨y,J⟩:=B;unfold cellsFrom
  split
  ·refine F _ _ x ?_;rw[c71]
   split
   ·rfl
   ·exact h
  ·exact F _ _ x h
theorem a5J:∀ (q:List (Str×NameKind)) (k:Nat) (acc:List (Str×Addr)) (x:Str),(x,NameKind.cell)∈q->((cellsFrom k q acc).lookup x).isSome=true:=by
 intro l;induction l with
 | nil=>intro k acc x h;exact (c7E h).elim
 | cons z r B =>
  intro k acc x h;obtain ⟨y,F⟩:=z;unfold cellsFrom;rcases c8z h with e | h
  ·cases e;rw[(c7X (c8b _))];refine a87 r _ _ _ ?_;rw[c71];rw[(c8b ..)];rfl
  ·split <;> exact B _ _ x h
noncomputable def b7g (G:Gi) (h:Heap) (ko:Str->Option NameKind) (m cm:Str->Option Value) (r:En):Prop:=∀ x v,B1 x=true->r (nm x)=some v ->
 (ko x=some .local->∃ u,m x=some u/\j7 G h v u)/\(ko x=some .cell->∃ u,cm x=some u/\j7 G h v u)
theorem b1d {ko:Str->Option NameKind}:∀ (xs:List Str) (vs:List f5) (us:List Value) (m R:Str->Option Value) (r:En),(∀ x∈xs,B1 x=true)->m4 G h vs us->vs.length=xs.length->b7g G h ko m R r ->
  b7g G h ko (PySem.bindL ko (xs.zip us) m) (PySem.bindC ko (xs.zip us) R) (bindL (xs.map nm) vs r):=by
 intro xs;induction xs with
 | nil =>
  intro _ _ _ _ _ _ _ _ b;exact b
 | cons x xs j =>
  intro a;cases a with
  | nil =>
   intro _ _ _ _ _ _ V _;exact nomatch V
  | cons v vs =>
   intro us m R r c J V b;replace J:=F9 J;revert J;intro d;refine j9 d λu Y l f J=>?_;clear d;subst l;refine j vs Y _ _ _ (λy O=>c y (c7i _ O)) J (Nat.succ.inj V) λy Z O e=>?_;by_cases q:y=x
   ·subst q;have e:(r.set (nm y) v) (nm y)=some Z:=e;rw [U7] at e;have k:=E0 e;clear e;subst k;refine ⟨λB=>⟨u,?_,f⟩,λB=>⟨u,?_,f⟩⟩
    ·rw[(c7X B)];exact c7X rfl
    ·refine b9 (c7W (by rw[B];decide)) ?_;exact c7X rfl
   ·have e:(r.set (nm x) v) (nm y)=some Z:=e;rw [Q4 λe=>q (Q2 O (c x List.mem_cons_self) e)] at e;refine eA (b y Z O e) λg i=>⟨λB=>?_,λB=>?_⟩
    ·refine j5 (g B) λW F U=>⟨W,?_,U⟩
     split
     ·exact (c7W q).trans F
     ·exact F
    ·refine j5 (i B) λW F U=>⟨W,?_,U⟩
     split
     ·exact F
     ·exact (c7W q).trans F
theorem b5E:∀ {b:List PySem.Arg} {ps:List Nm},G2 (λa=>a08 a.arg) b=some ps->(∀ a∈b.map (·.arg),B1 a=true)/\ps=(b.map (·.arg)).map nm:=by
 intro r;induction r with
 | nil=>intro ps h;have V:=E0 h;clear h;subst V;exact ⟨λa ha=>(c7E ha).elim,rfl⟩
 | cons y r U =>
  intro ps h;refine j9 (A2 h) λq l J F Y=>?_;subst Y;refine eA (B8 J) λB W=>?_;subst W;refine eA (U F) λO R=>⟨λa ha=>?_,by rw[R];rfl⟩
  rcases c8z ha with rfl | ha
  ·exact B
  ·exact O a ha
theorem b13 {p:Arguments} {ps:List Nm} (h:a8Q p=some ps):∃ U,p=⟨[],p.args,none,[],U,none,[]⟩/\(∀ a∈p.args.map (·.arg),B1 a=true)/\ps=(p.args.map (·.arg)).map nm:=by
 refine eA (r9 h) λq h=>?_;obtain ⟨a,b,V,d,e,f,g⟩:=p;refine eA (c8u q) λq R=>eA (c8u q) λq O=>eA (c8u q) λq J=>eA (c8u q) λB F=>?_;cases List.isEmpty_iff.mp B;cases Option.isNone_iff_eq_none.mp F;cases List.isEmpty_iff.mp J;cases Option.isNone_iff_eq_none.mp O
 cases List.isEmpty_iff.mp R;exact ⟨e,rfl,b5E h⟩
theorem a8U {l:List (Str×NameKind)} {x:Str} (h:l.lookup x=some .local\/l.lookup x=some .cell):(a2O l).contains x=true:=by
 refine O0 (List.contains_iff_mem ..) ?_;rcases h with h | h
 ·exact c8t ⟨(x,.local),List.mem_filter.mpr ⟨O5 h,rfl⟩,rfl⟩
 ·exact c8t ⟨(x,.cell),List.mem_filter.mpr ⟨O5 h,rfl⟩,rfl⟩
theorem b2N {x:Str} (h:a7t sc x=true):sc.names.lookup x=some .local\/sc.names.lookup x=some .cell :=
 (Bool.or_eq_true_iff.mp h).imp c8j c8j
theorem b2Y {s g:Shared} {name F:Str} {B:Arguments} {body:List Stmt} {q:Scope} {Y O Z J V:Value} {U:Option Addr} {f:Addr} {xs:List Str} {vs:List f5} {us:List Value} {fns clss attrs:List Str} (R:c8J H s.heap)
  (I:q.kind=.function) (ha:∀ x∈xs,B1 x=true) (P:∀ x∈xs,a7t q x=true) (S:m4 G s.heap vs us) (K:vs.length=xs.length)
  (x:InCallC s (callEnvC (fnOf name F B body q .none Y O Z U J V) s.heap.objs.size f).locals (PySem.bindL (callEnvC (fnOf name F B body q .none Y O Z U J V) s.heap.objs.size f).kindOf (xs.zip us) λ_=>none)
   (callEnvC (fnOf name F B body q .none Y O Z U J V) s.heap.objs.size f).cells (PySem.bindC (callEnvC (fnOf name F B body q .none Y O Z U J V) s.heap.objs.size f).kindOf (xs.zip us) λ_=>none) g) :
  c8K (callEnvC (fnOf name F B body q .none Y O Z U J V) s.heap.objs.size f) ⟨q.names,fns,clss,attrs,a2O q.names⟩ (bindL (xs.map nm) vs En.nil) H g.heap/\c8T S5 H s H g:=by
 refine A6 x.done λl T Q keep=>?_;subst Q;have t:c8T S5 H s H {s with heap:=l,toks:=T}:=.kept R keep
 have d:=t.vreps R S;have i:=b1d (h:=l) (ko:=(callEnvC (fnOf name F B body q .none Y O Z U J V) s.heap.objs.size f).kindOf) xs vs us (λ_=>none) (λ_=>none) En.nil ha d K λ_ _ _ e=>A3 e;have j:=K7 R (c7l s.heap.objs.size);refine j5 (a9K x.toInCall.ns) λo N M=>?_;have c:∀ y a,(callEnvC (fnOf name F B body q .none Y O Z U J V) s.heap.objs.size f).cells.lookup y=some a->H a=none/\G.base a=none/\a≠s.heap.objs.size:=λy a e=>by
  have r:s.heap.objs.size < a:=x.above y a (mem_of_lookup e);have:=K7 R (c74 r);exact ⟨this.2.1,this.2.2,Nat.ne_of_gt r⟩
 refine ⟨⟨I,rfl,rfl,λy k e=>e,⟨_,o,N,M,x.toInCall.ns,λy v W b e=>(i y v W e).1 b⟩,λy m=>?_,⟨j.2.1,j.2.2,λy a e=>?_⟩,λy z a w A=>?_,λy W n=>?_,λy W=>?_⟩,t⟩
 ·exact eE (c8y (a5J q.names (s.heap.objs.size+1) [] y (O5 m))) λa e=>⟨a,_,e,x.cell y a e,λW v u=>(i y v W u).2 m⟩
 ·exact eAA (c y a e) λC D E=>⟨C,D,E,_,x.cell y a e⟩
 ·exact name_of_addr x.apart (mem_of_lookup w) (mem_of_lookup A)
 ·refine a73 _ _ En.nil _ λL=>j5 (c8s L) λz p e=>?_;have:=Q2 (ha z p) W e;subst this;rw [a8U (b2N (P z p))] at n;exact nomatch n
 ·exact a8U (a25 W)
inductive SwK (t e:c8H) (l:Nat) (lf:Env):Prop
 | mk:∀ b,swapsWith e (some t) l lf=pure b->(a0F e=true\/b=false)->SwK t e l lf
theorem a9Y (t e:c8H) (l:Nat) (lf:Env):SwK t e l lf:=by
 cases e with
 | ListComp _ _ _ _=>cases t <;> exact ⟨_,rfl,.inl rfl⟩
 | SetComp _ _ _ _=>cases t <;> exact ⟨_,rfl,.inl rfl⟩
 | DictComp _ _ _ _ _=>cases t <;> exact ⟨_,rfl,.inl rfl⟩
 | _=>exact ⟨_,rfl,.inr rfl⟩
theorem b9a {k:Nat} {L:Tv} (g:Gok G c) (hE:b0g lc w G n m k) (hc:a2e t e=false) (ht:trT k c t=some L) (a:T3 k c e=some x):c9b m c (.Assign [t] e pos) (p9 L x):=λA s H r lf Q j R F q=>by
 have ex:=λe x h=>(hE c e x g h).1;have K:=c0x (m:=m) g ex ht;have plain:wpAny c8L A (eval e lf>>=λv=>swappedStores [t] e lf>>=λsw=>assignStores lf v sw ((assignEach [t] lf).map (·.2))) (a38 G w lf c H s Q) D7 s:=by
  refine c60 (m3 (ex e x a A s H r lf _ j R F q) λp v Z E f U d=>?_);have F1:=F.step R U;rcases a5B (lf:=lf) hc with Y | ⟨i,kk,p1,vs,a2,p2,line,Y,o,S⟩
  ·rw[Y];rw[(pure_bind ..)];have one:wpAny c8L A (assign t lf v) (a1G G w lf c Z E (λf O=>Q .next f O)) D7 E:=K A E Z r lf p v _ j U.rel F1 f d;have P:assignEach [t] lf=[(false,assign t lf)]:=by
    refine R8 λe' p a=>?_;subst a;unfold trT at ht;exact a2p ht
   rw[P];refine c60 (c62 one (λ_ I J=>?_) λ_ _ e=>e);refine j9 J λC O V B z=>?_;clear J;exact c61 ⟨.next,C,O,rfl,U.no.trans B,V,z⟩
  ·rw[Y];rw[(pure_bind ..)];refine c60 (wpAny_rule ?_);replace ht:trT k c (.Tuple i kk p1)=some L:=ht;refine j5 (n9 (show ((G2 (a8S k c) i).map R4)=some L from ht)) λa3 X a0=>?_;subst a0;revert d;intro y;refine y4 y λM hq hl d=>?_;clear y;refine eAA (a9Z (b16 o) X hl d) λb1 N b3=>c60 (a0v g.toGk j.h U.rel f hq N.symm λus I ru B=>?_)
   have V:=F1.step U.rel B;have rr:m4 G I.heap M.reverse us.reverse:=ru.reverse;refine c60 (b2R (i.filterMap (a0t lf line)).reverse M.reverse us.reverse I Z r _ (λx hx=>b1 x (List.mem_reverse.mp hx)) (by rw[List.length_reverse];rw[List.length_reverse];rw[N];rfl) B.rel V rr λs3 F3 a1=>c61 ⟨.next,_,Z,rfl,(U.trans B).no.trans a1,F3,?_⟩)
   have u:((i.filterMap (a0t lf line)).map nm).Nodup:=b4k S λx hx=>(b1 x hx).1;have e2:bindL ((i.filterMap (a0t lf line)).reverse.map nm) M.reverse r=bindL ((i.filterMap (a0t lf line)).map nm) M r:=by
    rw[List.map_reverse];exact a5o u (by rw[(c7f ..)];rw[N];rfl)
   rw[e2];exact b3
 have l:∀ b,swapsWith e (some t) pos.line lf=pure b->a0F e=true\/b=false->wpAny c8L A (exec (.Assign [t] e pos) lf) (a38 G w lf c H s Q) D7 s:=λb hb T=>by
  rw[(arm_exec_Assign ..)];refine c60 (c65 ?_);rw[(show swapsWithSole [t] e pos.line lf=swapsWith e (some t) pos.line lf from rfl)];rw[hb];rw[(pure_bind ..)];cases b with
  | false=>exact plain
  | true =>
   rw[(c7X rfl)];have W:a0F e=true:=T.elim id λh=>nomatch h
   have P:assignEach [t] lf=[(false,assign t lf)]:=by
    refine R8 λe' p a=>?_;subst a;unfold trT at ht;exact a2p ht
   rw[P];refine c60 (c62 ((hE c e x g a).2 W A s H r lf _ (λf O=>Q .next f O) (λv=>assignAll v [assign t lf]) j R F q λD Z E U d=>?_) (λ_ I J=>?_) λ_ _ e=>e)
   ·refine c62 (K A E Z r lf (.ref D) (.ref D) _ j U.rel (F.step R U) .ref d) (λ_ I J=>?_) λ_ _ e=>e;refine j9 J λC O V B z=>?_;clear J;exact ⟨C,O,B,V,z⟩
   ·refine j9 J λC O B V z=>?_;clear J;exact c61 ⟨.next,C,O,rfl,B,V,z⟩
 obtain ⟨b,h1,J⟩:=a9Y t e pos.line lf;exact l b h1 J
theorem b9n (f:c9d m):∀ (k:Nat) (c:Cx) (st:Stmt) (x:Bv),Gok G c->trS k c st=some x->c9b m c st x:=by
 intro k;induction k with
 | zero=>intro _ _ _ _ h;exact A3 h
 | succ k V =>
  intro c st x g h;refine eA (c0C f k) λo n=>?_;have V:=λst x h=>V c st x g h;have Z:=λe x h=>(o c e x g h).1;cases st with
  | Expr e p =>
   refine eA (r9 (show gd (!a0F e) ((T3 k c e).map r8)=some x from h)) λO h=>?_;refine j5 (n9 h) λy U i=>?_;subst i;exact b6R (Z e y U) (Bool.not_eq_true' _▸O)
  | Assign T e p =>
   refine j5 (f8 (show ((one? T).bind λt=>gd (!a2e t e) <| (trT k c t).bind λt=>(T3 k c e).bind λe=>some (p9 t e))=some x from h)) λt ht h=>?_
   refine eA (r9 h) λO h=>j5 (f8 h) λX d h=>j5 (f8 h) λy U h=>?_;have K:=E0 h;clear h;subst K;cases one?_some ht;exact b9a g o (Bool.not_eq_true' _▸O) d U
  | Return e p =>
   refine j5 (f8 (show (e.bind λe=>(T3 k c e).map I9)=some x from h)) λw E h=>?_;refine j5 (n9 h) λy U j=>?_;subst j;subst E;exact b9c (Z w y U)
  | If t a b p =>
   refine j5 (f8 (show ((trC k c t).bind λt=>(a5C (trS k) c a).bind λa=>(a5C (trS k) c b).bind λb=>some (U9 t a b))=some x from h)) λz W h=>?_;refine j5 (f8 h) λy1 O h=>j5 (f8 h) λy2 B h=>?_;have L:=E0 h;clear h;subst L;exact c0w (n c t z g W) (a8F V O) (a8F V B)
  | While t b J p =>
   refine eA (r9 (show gd J.isEmpty ((trC k c t).bind λt=>(a5C (trS k) c b).bind λb=>some (a5z t b))=some x from h)) λO B=>?_;refine j5 (f8 B) λz W B=>j5 (f8 B) λy U B=>?_;have P:=E0 B;clear B;subst P;cases J with
   | cons _ _=>exact nomatch O
   | nil=>exact b4N (n c t z g W) (a8F V U)
  | For u Y b J p =>
   refine eA (r9 (show gd (J.isEmpty&&X9 c.var u) ((a0T u).bind λt=>(a5g (T3 k c) c Y).bind λY=>(a5C (trS k) c b).bind λb=>gd (a2J Y t.2) (some (S4 t.1 t.2 Y b)))=some x from h)) λO B=>?_;refine eA (c8u O) λO C=>j5 (f8 B) λl ht B=>?_;obtain ⟨t,one⟩:=l;refine j5 (f8 B) λz W B=>j5 (f8 B) λy U B=>eA (r9 B) λD B=>?_
   have S:=E0 B;clear B;subst S;cases J with
   | cons _ _=>exact nomatch O
   | nil=>exact b9b (k:=0) g (a67 g Z W) (a8F V U) ht C D
  | Raise _ _ _=>have M:=E0 h;clear h;subst M;exact λA s H r I Q v R F q=>q.elim
  | Break _=>have N:=E0 h;clear h;subst N;exact λA s H r I Q v R F q=>c60 (c65 (c61 ⟨.brk,r,H,rfl,.refl R,F,q⟩))
  | _=>exact A3 h
theorem Gok.cx {q:List (Str×NameKind)} {B:List Str} (g:Gok G c):Gok G ⟨q,c.fns,c.clss,c.attrs,B⟩:={g with cl:=g.cl,at_:=g.at_,me:=g.me,fn:=g.fn,cls:=g.cls,fun_:=λF name J h=>by refine y4 (g.fun_ F name J h) λf a b d=>?_;exact ⟨f,a,b.cx,d⟩,keepf:=g.keepf,nolim:=g.nolim,blt:=g.blt}
theorem b8q (g:Gok G c) (C:c9d 40):I6 lc w G (n+1):=by
 intro A s H cn name f vs us Q a R rv hf h;refine y4 h λfd hF hl q=>?_;clear h;refine y4 (g.fun_ cn name fd hF) λf' m I _=>?_;obtain ⟨i,V,B,body,F,kV,Y,pm,M,W,N,oc,od,a0,e2,e3,e4,P,e6,e7,S,e9⟩:=I;rw [hf] at m;have q7:=E0 m;clear m;subst q7;have hX:=R.In g;refine j5 (f8 e4) λps h1 h2=>j5 (f8 h2) λb h3 X=>?_;have q8:=E0 X;clear X;subst q8;refine y4 (b13 h1) λkd t Z E=>?_;subst E
 have U:us.length=(B.args.map (·.arg)).length:=by refine w3 rv.length ?_;rw[hl];rw[(c7f ..)];rfl
 have O:∀ x∈B.args.map (·.arg),a7t F x=true:=λx z=>by
  refine j5 (c8s z) λy hy D=>?_;subst D;exact List.all_eq_true.mp e9 y hy
 refine codeAny_call_cells (fd:=fnOf i V B body F .none kV Y pm M W N) (binds:=(B.args.map (·.arg)).zip us) (by have:=a.d;unfold recursionLimit;exact c18 this) (hX f _ e2) rfl (g.nolim _ λa o e=>(R.base a o e).1) (codeRec_of hX e3) rfl
  (by rw[t];exact a85 (by rw [t] at U;exact U) (by rw [t] at S;exact S)) rfl (λx z=>?_) (λs1 x=>?_) e6 e7 P
 ·have hm:x.1∈B.args.map (·.arg):=(List.of_mem_zip (a:=x.1) (b:=x.2) z).1;rcases b2N (O _ hm) with h | h
  ·exact .inl h
  ·exact .inr ⟨h,a5J F.names _ [] _ (O5 h)⟩
 ·refine eA (b2Y (fns:=c.fns) (clss:=c.clss) (attrs:=c.attrs) R P Z O rv (by rw[hl];rw[(c7f ..)];rfl) x) λF1 j=>?_
  have al:AOk n 40 (A.deeper (callEnvC (fnOf i V B body F .none kV Y pm M W N) s.heap.objs.size f)):=a.deeper;refine c62 (a8F (λk x h=>b9n C 60 _ k x g.cx h) h3 _ s1 H _ _ _ al j.rel F1 q) (λfl s2 T=>?_) λ_ _ e=>e.elim;refine a1i T λp r2 l r L F2 K=>?_;clear T;have k:c8T S5 H s l s2:=by
   have J:=j.no.trans L;refine ⟨J.rel,J.ext.compress λb hb=>?_,J.gens,J.os⟩
   right
   rcases hb with e | ⟨y,e⟩
   ·rw[e];exact (K7 R (c7l _)).1
   ·exact (K7 R (c74 (x.above y b (mem_of_lookup e)))).1
  cases p with
  | next=>cases (show fl=.next from r);exact ⟨.none,l,.none,k,K⟩
  | ret v=>refine j5 r λu q9 ru=>?_;clear r;subst q9;exact ⟨v,l,ru,k,K⟩
  | brk=>exact K.elim
theorem b20 (g:Gok G c) (q:∀ b,c86 40 b) (F:a6h lc w G n 40) (B:c8U):I6 lc w G (n+1):=b8q g ⟨B,q,F⟩
variable {p:Array Nat}
noncomputable def tm (m:Nat):SetTable:=⟨m,#[],#[],0,true,0,true⟩
noncomputable def M7 (m:Nat) (h:Int):Nat->SetTable.Probe
 | 0=>(tm m).probeStart h
 | n+1=>(tm m).advance (M7 m h n)
noncomputable def rs (m:Nat) (x:Nat×Nat):SetTable.Probe:=⟨x.1,SetTable.runEnd m x.1 - x.1,x.1,x.2,none⟩
noncomputable def lps (m:Nat) (h:Int):Nat->Nat×Nat
 | 0=>(SetTable.bits h % (m+1),SetTable.bits h)
 | k+1=>SetTable.leap m (lps m h k).1 (lps m h k).2
theorem a2F {α:Type} [BEq α] [LawfulBEq α] (x:α):¬ (x != x)=true:=λh=>c7u ((bne_self_eq_false x).symm.trans h)
theorem b4x {h:Int} {n:Nat} {x:Nat×Nat} (e:M7 m h n=rs m x):∀ k,k<=SetTable.runEnd m x.1 - x.1->M7 m h (n+k)=⟨x.1+k,SetTable.runEnd m x.1 - x.1 - k,x.1,x.2,none⟩:=by
 intro k;induction k with
 | zero=>intro _;exact e
 | succ k B =>
  intro q;show (tm m).advance (M7 m h (n+k))=_;rw[(B (by exact Nat.le_of_succ_le q))]
  unfold SetTable.advance;rw[(c7X (by show SetTable.runEnd m x.1 - x.1 - k > 0;exact Nat.zero_lt_sub_of_lt q))]
  show SetTable.Probe.mk _ _ _ _ _=_
  congr 1
theorem b0Q {h:Int} {n:Nat} {x:Nat×Nat} (e:M7 m h n=rs m x):M7 m h (n+(SetTable.runEnd m x.1 - x.1)+1)=rs m (SetTable.leap m x.1 x.2):=by
 show (tm m).advance (M7 m h (n+_))=_;rw[(b4x e _ (c7l _))];unfold SetTable.advance;rw[(c7W (by show ¬ (_ - _ > 0);exact c28))]
 rfl
theorem a64 (m i:Nat):SetTable.runEnd m i=i\/(SetTable.runEnd m i=i+9/\i+9<=m):=by
 unfold SetTable.runEnd
 split
 ·rename_i h;exact .inr ⟨rfl,h⟩
 ·exact .inl rfl
theorem b4w (m i:Nat):i<=SetTable.runEnd m i:=(a64 m i).elim (λe=>c7z e.symm) λe=>e.1▸c7B _ _
theorem b6v (m i:Nat):SetTable.runEnd m i - i<=9:=Nat.sub_le_iff_le_add'.mpr ((a64 m i).elim (λe=>e.symm▸c7B _ _) λe=>c7z e.1)
theorem b19 {h:Int}:∀ k,∃ n,n<=10 * k/\M7 m h n=rs m (lps m h k):=by
 intro k;induction k with
 | zero=>exact ⟨0,c7l _,rfl⟩
 | succ k q =>
  refine j5 q λn B F=>?_;clear q;have:=b6v m (lps m h k).1;exact ⟨_,by exact c4v B this,b0Q F⟩
theorem b33 {h:Int}:∀ k,(lps m h k).2=SetTable.bits h / 32 ^ k:=by
 intro k;induction k with
 | zero=>exact (Nat.div_one _).symm
 | succ k q =>
  show (lps m h k).2 / 32=_;rw[q];rw[(Nat.div_div_eq_div_mul ..)];rw[(Nat.pow_succ ..)];rfl
theorem b5I (h:Int):SetTable.bits h < 32 ^ 13:=by
 have q:0<=h % (2 ^ 64:Int):=Int.emod_nonneg _ (by decide)
 have B:h % (2 ^ 64:Int) < 2 ^ 64:=Int.emod_lt_of_pos _ (by decide)
 exact (Int.toNat_lt q).mpr (Int.lt_trans B (by decide))
noncomputable def lcg (m i:Nat):Nat:=(i * 5+1) % (m+1)
noncomputable def orb (m:Nat):Nat->Nat->List Nat
 | 0,_=>[]
 | k+1,i=>i :: orb m k (lcg m i)
theorem b4n (m:Nat) (h:Int):∀ (k a j:Nat),13<=a->j∈orb m k (lps m h a).1->∃ r,r < k/\(lps m h (a+r)).1=j:=by
 intro k;induction k with
 | zero=>intro _ _ _ hj;exact nomatch hj
 | succ k J =>
  intro a j q hj;rcases c8z hj with rfl | hj
  ·exact ⟨0,c7S _,rfl⟩
  ·have e:lcg m (lps m h a).1=(lps m h (a+1)).1:=by
    show _=((lps m h a).1 * 5+1+(lps m h a).2 / 32) % (m+1);have:(lps m h a).2=0:=by
     rw[(b33 ..)];exact Nat.div_eq_of_lt (c7v (b5I h) (Nat.pow_le_pow_right (by decide) q))
    rw[this];rfl
   rw [e] at hj;refine j5 (J (a+1) j (by exact Nat.le_add_right_of_le q) hj) λr F B=>?_
   exact ⟨r+1,by exact zo0 F,by refine w3 B ?_;rw[(Nat.add_assoc a 1 r)];rw[(Nat.add_comm 1 r)];rfl⟩
noncomputable def a1g (m:Nat):Bool:=(List.range (m+1)).all λi=>(List.range (m+1)).all λj=>(orb m (m+1) i).contains j
theorem b5L:a1g 7=true:=by decide +kernel
theorem a7D:a1g 31=true:=by decide +kernel
theorem b32 (m:Nat) (h:Int):∀ k,(lps m h k).1 < m+1:=by
 intro q;induction q with
 | zero=>exact Nat.mod_lt _ (c7S _)
 | succ _ B=>exact Nat.mod_lt _ (c7S _)
theorem b6g (c:a1g m=true) (h:Int) (J:j<=m):∃ n,n < 10 * SetTable.turns m/\(M7 m h n).j=j:=by
 unfold a1g at c;rw [List.all_eq_true] at c;have q:=c _ (c8C (b32 m h 13));rw [List.all_eq_true] at q;have B:=q j (c8C (by exact c7Q J))
 exact j5 (b4n m h (m+1) 13 j (c7l _) (List.contains_iff_mem.mp B)) λr R e=>j5 (b19 (m:=m) (h:=h) (13+r)) λn O F=>⟨n,by unfold SetTable.turns;exact c35 R O,by rw[F];exact e⟩
theorem b18 (m:Nat) (h:Int):∀ n,(M7 m h n).dummy=none:=by
 intro n;induction n with
 | zero=>exact rfl
 | succ n q =>
  show ((tm m).advance (M7 m h n)).dummy=none;unfold SetTable.advance
  split <;> exact q
theorem a9O (m:Nat) (h:Int) (n:Nat):(M7 m h n).j<=m:=by
 have q:∀ n,(M7 m h n).i<=m/\(M7 m h n).j+(M7 m h n).more<=m:=by
  intro n;have F:∀ i,i<=m->i+(SetTable.runEnd m i - i)<=m:=λi J=>(Nat.add_sub_of_le (b4w m i)).symm▸(a64 m i).elim (λe=>e.symm▸J) λe=>e.1.symm▸e.2;induction n with
  | zero =>
   have:SetTable.bits h % (m+1)<=m:=c7A (Nat.mod_lt _ (c7S _));exact ⟨this,F _ this⟩
  | succ n B =>
   show ((tm m).advance (M7 m h n)).i<=m/\((tm m).advance (M7 m h n)).j+((tm m).advance (M7 m h n)).more<=m;unfold SetTable.advance
   split
   ·exact ⟨B.1,by show (M7 m h n).j+1+((M7 m h n).more - 1)<=m;exact c4R B ‹_›⟩
   ·have:((M7 m h n).i * 5+1+(M7 m h n).perturb / 32) % (m+1)<=m:=c7A (Nat.mod_lt _ (c7S _));exact ⟨this,F _ this⟩
 have:=(q n).2;exact Nat.le_of_add_right_le this
theorem b2O (d:xs.toList.Pairwise (· < ·)):∀ (f B F:Nat),F - B<=f->B<=F->F<=xs.size->(∀ i,i < B->xs.getD i 0 < j)->(∀ i,F<=i->i < xs.size->j<=xs.getD i 0) ->
  ∃ p,SetTable.below.go xs j f B F=p/\p<=xs.size/\(∀ i,i < p->xs.getD i 0 < j)/\∀ i,p<=i->i < xs.size->j<=xs.getD i 0:=by
 have mono:∀ i k,i<=k->k < xs.size->xs.getD i 0<=xs.getD k 0:=λi k R J=>by
  rcases Nat.lt_or_eq_of_le R with h | rfl
  ·have:=List.pairwise_iff_getElem.mp d i k (by simpa using (by exact c77 h J:i < xs.size)) (by simpa using J) h
   simp only [Array.getElem_toList] at this;rw[c73];rw[c73];rw[(c7M (by exact c77 h J:i < xs.size))];rw[(c7M J)]
   exact c74 this
  ·exact c7l _
 intro f;induction f with
 | zero=>exact λB F R J O W Y=>⟨B,rfl,by exact c7g J O,W,λi V=>Y i (by exact c7g (Nat.sub_eq_zero_iff_le.mp (Nat.le_zero.mp R)) V)⟩
 | succ f b =>
  intro B F R J O W Y;show ∃ p,(if B < F then if xs.getD ((B+F) / 2) j < j then _ else _ else _)=p/\_
  by_cases q:B < F
  ·rw[(c7X q)];by_cases U:xs.getD ((B+F) / 2) j < j
   ·simp only [U,if_true];have a:xs.getD ((B+F) / 2) 0 < j:=by
     rw [Array.getD_eq_getD_getElem?,Array.getElem?_eq_getElem (b7e O q:(B+F) / 2 < xs.size)] at U ⊢;exact U
    exact b _ _ (c3n R) (c2b q) O (λi Z=>c7k (mono i ((B+F) / 2) (by exact c7A Z) (b7e O q)) a) Y
   ·simp only [U,if_false];have a:j<=xs.getD ((B+F) / 2) 0:=by
     rw [Array.getD_eq_getD_getElem?,Array.getElem?_eq_getElem (b7e O q:(B+F) / 2 < xs.size)] at U ⊢;exact Nat.le_of_not_lt U
    exact b _ _ (c3I R) (c2c q) (c31 O q) W λi V c=>c7g a (mono _ i V c)
  ·rw[(c7W q)];exact ⟨B,rfl,by exact c7g J O,W,λi V=>Y i (by exact c7g (Nat.le_of_not_lt q) V)⟩
theorem a1c (J:xs.toList.Pairwise (· < ·)) (j:Nat):SetTable.below xs j<=xs.size/\(∀ i,i < SetTable.below xs j->xs.getD i 0 < j)/\∀ i,SetTable.below xs j<=i->i < xs.size->j<=xs.getD i 0:=by
 refine j5 (b2O (j:=j) J xs.size 0 xs.size (c04) (c7q _) (c7l _) (λi F=>c7Y F (c8p _)) (λi q B=>c7Y B (by exact Nat.not_lt.mpr q))) λp e h=>?_
 unfold SetTable.below;rw[e];exact h
theorem getD_some {x:Nat} (h:xs[i]?=some x):xs.getD i 0=x:=by rw[c73];rw[h];rfl
theorem a0m {α:Type} {xs:Array α} {x:α} (h:xs[i]?=some x):i < xs.size:=by
 have:=Array.getElem?_eq_some_iff.mp h;exact this.1
theorem b1b (F:xs.toList.Pairwise (· < ·)) (h:xs[i]?=some j):SetTable.below xs j=i:=by
 refine eAA (a1c F j) λR J O=>?_;have B:=a0m h;have e:=getD_some h;rcases Nat.lt_trichotomy (SetTable.below xs j) i with c | c | c
 ·have q:=O (SetTable.below xs j) (c7l _) (by exact c77 c B)
  have:=List.pairwise_iff_getElem.mp F (SetTable.below xs j) i (by simpa using (by exact c77 c B:SetTable.below xs j < xs.size)) (by simpa using B) c
  simp only [Array.getElem_toList] at this;rw [Array.getD_eq_getD_getElem?,Array.getElem?_eq_getElem (by exact Nat.lt_trans c B:SetTable.below xs j < xs.size)] at q
  rw [Array.getElem?_eq_getElem B] at h;injection h with h
  rw [h] at this;exact c7Y q (Nat.not_le_of_lt this)
 ·exact c
 ·have:=J i c;exact c7Y e (c7F this)
theorem b2l {t:SetTable} (q:t.place.toList.Pairwise (· < ·)) (h:t.place[i]?=some j):t.slot j=.live i:=by
 unfold SetTable.slot;rw[(b1b q h)];dsimp only;rw[h];simp
theorem a9W {t:SetTable} (F:t.dummies=#[]) (h:j∉t.place.toList):t.slot j=.empty:=by
 unfold SetTable.slot;dsimp only;have q:(t.place[SetTable.below t.place j]?==some j)=false:=by
  refine O0 (beq_eq_false_iff_ne ..) ?_;intro e;exact h (Array.mem_toList_iff.mpr (Array.mem_of_getElem? e))
 have B:SetTable.has t.dummies j=false:=by rw[F];rfl
 rw[q];rw[B];rfl
theorem a0P {α:Type} (xs:Array α) (p:Nat) (x:α):(SetTable.insertAt xs p x).toList=xs.toList.take p++x :: xs.toList.drop p:=by
 unfold SetTable.insertAt
 congr 2
 simp [List.extract_eq_take_drop,List.take_of_length_le]
variable {t:SetTable}
theorem c0o {P:Nat->Prop}:∀ n,P n->∃ k,k<=n/\P k/\∀ l,l < k->¬ P l:=by
 intro n;induction n using Nat.strongRecOn with
 | ind n F =>
  intro h;by_cases e:∃ l,l < n/\P l
  ·refine j5 e λl q B=>?_;clear e;exact y4 (F l q B) λk a b c=>⟨k,by exact c74 (c7k a q),b,c⟩
  ·exact ⟨n,c7l _,h,λl q B=>e ⟨l,q,B⟩⟩
noncomputable abbrev El:=Nat×f5×Value
structure TI (w:World) (m:Nat) (L:List El):Prop where
 rise:(L.map (·.1)).Pairwise (· < ·)
 nod:(L.map (·.2.1)).Nodup
 size:(m=7/\L.length<=4)\/(m=31/\L.length<=18)
 le:∀ x∈L,x.1<=m
 reach:∀ x∈L,∃ n,(M7 m (o7 w x.2.1) n).j=x.1/\∀ k,k < n->(M7 m (o7 w x.2.1) k).j∈L.map (·.1)
theorem TI.cov {w:World} {L:List El} (t:TI w m L):a1g m=true:=by rcases t.size with ⟨rfl,_⟩ | ⟨rfl,_⟩ <;> first | exact b5L | exact a7D
theorem TI.lt {w:World} {L:List El} (t:TI w m L):L.length < m:=t.size.elim (λz=>by rw[z.1];exact c7k z.2 (by decide)) λz=>by rw[z.1];exact c7k z.2 (by decide)
theorem TI.few {w:World} {L:List El} (t:TI w m L):L.length < 64:=t.size.elim (λz=>c7k z.2 (by decide)) λz=>c7k z.2 (by decide)
theorem TI.turn {w:World} {L:List El} (t:TI w m L):10 * SetTable.turns m < 100000:=t.size.elim (λz=>by rw[z.1];decide) λz=>by rw[z.1];decide
theorem TI.free {w:World} {L:List El} (t:TI w m L) (h:Int):∃ N,N < 10 * SetTable.turns m/\(M7 m h N).j∉L.map (·.1)/\∀ k,k < N->(M7 m h k).j∈L.map (·.1):=by
 have F:∃ j,j<=m/\j∉L.map (·.1):=by
  refine c7D λc=>?_;have c:List.range (m+1) ⊆ L.map (·.1):=λj B=>c7D λq=>c ⟨j,c7A (c8D B),q⟩;have:=List.Nodup.length_le_of_subset List.nodup_range c;rw [List.length_range,List.length_map] at this;exact c7J _ (c77 t.lt this)
 refine j5 F λj B U=>?_;clear F;refine j5 (b6g t.cov h B) λn J O=>y4 (c0o (P:=λn=>(M7 m h n).j∉L.map (·.1)) n (by rw[O];exact U)) λN a b c=>?_
 exact ⟨N,by exact c7k a J,b,λk R=>Classical.not_not.mp (c k R)⟩
structure a0i (w:World) (t:SetTable) (L:List El):Prop where
 ti:TI w t.mask L
 place:t.place.toList=L.map (·.1)
 dum:t.dummies=#[]
theorem a0i.fits {w:World} {L:List El} (l:a0i w t L):t.fits L.length=true:=by
 unfold SetTable.fits SetTable.fill;have e:t.place.size=L.length:=by refine w3 c7K ?_;rw[l.place];rw[(c7f ..)];rfl
 rw[l.dum];rw[e];simp only [beq_self_eq_true,Bool.true_and,decide_eq_true_eq,List.size_toArray,List.length_nil,Nat.add_zero];exact c74 l.ti.lt
theorem a0i.gave {w:World} {L:List El} (l:a0i w t L):t.gaveWay=false:=by
 unfold SetTable.gaveWay;rcases l.ti.size with ⟨a,_⟩ | ⟨a,_⟩ <;> refine b9 a ?_ <;> rfl
theorem a0i.at_ {w:World} {L:List El} (l:a0i w t L) {x:El} (h:L[i]?=some x):t.place[i]?=some x.1:=by
 refine w3 c7V ?_;rw[l.place];rw[c7m];rw[h];rfl
theorem a0i.live {w:World} {L:List El} (l:a0i w t L) {x:El} (h:L[i]?=some x):t.slot x.1=.live i :=
 b2l (by rw[l.place];exact l.ti.rise) (l.at_ h)
theorem a0i.empty {w:World} {L:List El} (l:a0i w t L) (h:j∉L.map (·.1)):t.slot j=.empty:=a9W l.dum (by rw[l.place];exact h)
inductive b70 (t:SetTable) (L:List El) (ha:Nat->Int) (h:Int) (N n f:Nat):Prop
 | free:SetTable.probe.go t ha h f (M7 t.mask h n)=some (.empty (M7 t.mask h N).j none)->(∀ k i x,n<=k->k < N->L[i]?=some x->x.1=(M7 t.mask h k).j->ha i≠h)->b70 t L ha h N n f
 | cand:∀ k i x,n<=k->k < N->L[i]?=some x->x.1=(M7 t.mask h k).j->ha i=h->SetTable.probe.go t ha h f (M7 t.mask h n)=some (.candidate (M7 t.mask h k).j i (M7 t.mask h (k+1))) ->
   (∀ k' i' x',n<=k'->k' < k->L[i']?=some x'->x'.1=(M7 t.mask h k').j->ha i'≠h)->b70 t L ha h N n f
theorem b0t {w:World} {L:List El} (l:a0i w t L) {ha:Nat->Int} {h:Int} {N:Nat} (z:(M7 t.mask h N).j∉L.map (·.1)) (A:∀ k,k < N->(M7 t.mask h k).j∈L.map (·.1)) :
  ∀ (d n f:Nat),n+d=N->d < f->b70 t L ha h N n f:=by
 intro d;induction d with
 | zero =>
  intro n f e Y;obtain rfl:n=N:=e;refine .free ?_ λk i x J O=>c7Y O (by exact Nat.not_lt.mpr J)
  cases f with
  | zero=>exact c7Y Y (c8p _)
  | succ f =>
  show (match t.slot _ with | .empty=>some (SetTable.Met.empty _ _) | .dummy=>_ | .live i=>_)=_
  rw[(l.empty z)];rw[(b18 ..)];rfl
 | succ d D =>
  intro n f e Y;cases f with
  | zero=>exact c7Y Y (c8p _)
  | succ f =>
  refine j5 (c8s (A n (c5z e))) λx C g=>eE (c8A C) λi Z=>?_;have W:∀ B F,L[B]?=some F->F.1=(M7 t.mask h n).j->B=i:=λB F J O=>by
   have a:=l.live J;rw [O,<-g,l.live Z] at a;injection a with a
   exact a.symm
  have V:SetTable.probe.go t ha h (f+1) (M7 t.mask h n)=if ha i==h then some (.candidate (M7 t.mask h n).j i (M7 t.mask h (n+1))) else SetTable.probe.go t ha h f (M7 t.mask h (n+1)):=by
   show (match t.slot _ with | .empty=>_ | .dummy=>_ | .live i=>_)=_
   refine w3 g ?_;rw[(l.live Z)];rfl
  by_cases c:ha i=h
  ·exact .cand n i x (c7l _) (c5z e) Z g c (V.trans (c7X (beq_iff_eq.mpr c))) λm _ _ J O=>c7Y O (by exact Nat.not_lt.mpr J)
  ·have V:=V.trans (c7W (by simpa using c))
   have one:∀ k B F,n<=k->L[B]?=some F->F.1=(M7 t.mask h k).j->(n+1<=k->ha B≠h)->ha B≠h:=λk B F J O R U=>by
    rcases Nat.lt_or_eq_of_le J with q | rfl
    ·exact U q
    ·rw[(W B F O R)];exact c
   cases D (n+1) f (c3h e) (zo2 Y) with
   | free a b=>exact .free (V.trans a) λk B F J O R U=>one k B F J R U λq=>b k B F q O R U
   | cand k B F J O R U u v y=>exact .cand k B F (by exact Nat.le_of_succ_le J) O R U u (V.trans v) λm o s E G p r=>one m o s E p r λq=>y m o s q G p r
section
open Classical
variable {ep:Nat}{L:List El}
noncomputable def t0 (w:World) (L:List El):Array (Int×Value):=(L.map λx=>(o7 w x.2.1,x.2.2)).toArray
noncomputable def a2v (k:f5):Bool:=c0j k&&G6 3 k
noncomputable def byT (w:World):Bool:=w.params.followText "set-order"
structure a0j (w:World) (G:Gi) (K:f5->Bool) (h:Heap) (a:Addr) (L:List El):Prop where
 ex:∃ o ep t,h.get? a=some o/\o.ExactSet/\o.data=.set (t0 w L) ep t/\a0i w t L/\t.led=!byT w
 keys:∀ x∈L,K x.2.1=true/\j7 G h x.2.1 x.2.2
theorem a7d (x:a2v k=true) (r:j7 G h k v):∃ b,v=.ref b:=by
 cases k with
 | tup l =>
  replace r:=Y0 r;refine A6 r λa _ e _=>?_;clear r;exact ⟨a,e⟩
 | _=>cases x
theorem s0 (w:World) (L:List El):(t0 w L).size=L.length:=by simp [t0]
theorem a0D (w:World) (L:List El) (i:Nat):(t0 w L)[i]?=L[i]?.map λx=>(o7 w x.2.1,x.2.2):=by simp [t0]
theorem b0E (h:G6 3 k=true):G6 7 k=true:=b0D 3 k h 7 (c7d rfl)
theorem a2v.is (x:a2v k=true) (r:j7 G h k (.ref a)):(kk).is h k a:=⟨b0E (c8u x).2,r⟩
set_option smartUnfolding false in
theorem b0J:∀ n k,G6 n k=true->∀ (j:Nat) (A:Around) (E:Value->Shared->Prop) (s:Shared) (v:Value) (Q:Bool->Shared->Prop),j7 G s.heap k v->Q false s ->
  wpAny c8L A (ofAClassStatement (n+j) v) Q E s:=by
 refine Y9 (λn i j A E s v Q r q=>?_) (λn i j A E s v Q r q=>?_) λn l W h j A E s v Q r q=>?_
 ·refine eE (J0 r) λt Y=>?_;subst Y;cases n+j <;> exact c61 q
 ·refine eE (a1w r) λt Z=>?_;subst Z;cases n+j <;> exact c61 q
 ·replace r:=Y0 r;revert r;intro F;refine j9 F λa f c t r=>?_;clear F;subst c;have O:=a1v t;refine P7 t λo U _ z R=>?_;clear t;rw[(show n+1+j=n+j+1 from Nat.add_right_comm n 1 j)];refine c60 (wpAny_typeOf O ?_);show wpAny _ _ (do let u<-pure true;if (!u)=true then _ else _) _ _ s
  refine c60 (c61 ?_);refine c60 (wpAny_seqItems U R ?_);refine c60 (a4F (λb=>b.1=none) h r rfl (λy u b V d B=>?_) λb B=>?_)
  ·refine c60 (W y V j _ _ _ _ _ d ?_);exact c61 ⟨rfl,rfl⟩
  ·obtain ⟨J,e⟩:=b;cases (show J=none from B);exact c61 q
theorem b2i {Q:Bool->Shared->Prop} (U:a2v k=true) (r:j7 G s.heap k (.ref a)) :
  ∀ l:List Value,(∀ v∈l,∃ O b,v=.ref b/\a2v O=true/\j7 G s.heap O (.ref b))->Q false s->wpAny c8L A (searchCouldBeSeen (.ref a) l) Q E s:=by
 intro l W q;refine c60 (wpAny_forIn_list _ (λrest r R=>r.1=none/\R=s/\∀ v∈rest,v∈l) _ ?_ ?_ _ _ ⟨rfl,rfl,λv h=>h⟩)
 ·rintro v rest Z R ⟨J,rfl,F⟩
  refine j9 (W v (F v (c7j))) λO b Y B V=>?_;subst Y;dsimp only;by_cases e:(a==b)=true
  ·rw[e];exact c61 ⟨rfl,rfl,λv h=>F v (c7i _ h)⟩
  ·have e:(a==b)=false:=by simpa using e
   rw[e];refine c60 (a62 3 _ (c8u U).2 4 _ _ _ _ _ r ?_);refine c60 (a62 3 _ (c8u B).2 4 _ _ _ _ _ V ?_);refine c60 (b0J 3 _ (c8u U).2 5 _ _ _ _ _ r ?_);refine c60 (b0J 3 _ (c8u B).2 5 _ _ _ _ _ V ?_);exact c61 ⟨rfl,rfl,λv h=>F v (c7i _ h)⟩
 ·rintro ⟨c,Z⟩ R ⟨J,rfl,_⟩
  simp only at J;subst J;exact c61 q
theorem G5 {Q:(Array (Int×Value)×Nat×SetTable)->Shared->Prop} (B:s.heap.get? a=some o) (q:o.data=.set (t0 w L) ep t) (l:a0i w t L)
  (h:Q (t0 w L,ep,t) s):wpAny c8L A (setState a) Q E s :=
 wpAny_setState_of B q (by rw[(s0 ..)];exact l.fits) h
theorem b2d (t:SetTable):t.sameMemory t.moves t.mask=some true:=by unfold SetTable.sameMemory;rw[(c7X (c8b _))];rfl
set_option backward.match.sparseCases true in
theorem b2h {a b:Addr} {ep N:Nat} {Q:SetFound->Shared->Prop} (hu:A.units+64 < cLine) (ho:s.heap.get? a=some o) (T:o.data=.set (t0 w L) ep t) (l:a0i w t L)
  (ks:∀ x∈L,a2v x.2.1=true/\j7 G s.heap x.2.1 x.2.2) (hk:a2v k=true) (r:j7 G s.heap k (.ref b))
  (hN:(M7 t.mask (o7 w k) N).j∉L.map (·.1)) (hb:∀ j,j < N->(M7 t.mask (o7 w k) j).j∈L.map (·.1)) (hl:N < 10 * SetTable.turns t.mask)
  (I:k∈L.map (·.2.1)->Q (.there none) s) (K:k∉L.map (·.2.1)->Q (.free (M7 t.mask (o7 w k) N).j false) s) :
  ∀ (d n f:Nat) (st:Option SetTable.Probe),n+d=N->d < f->st.getD (t.probeStart (o7 w k))=M7 t.mask (o7 w k) n->(∀ x∈L,x.2.1=k->∃ i,n<=i/\i < N/\x.1=(M7 t.mask (o7 w k) i).j) ->
   wpAny (model lc w) A (setSearchFrom a (.ref b) (o7 w k) true f st) Q E s:=by
 intro d;induction d using Nat.strongRecOn with
 | ind d ih =>
 intro n f st e X D hx;obtain ⟨f,rfl⟩:∃ g,f=g+1:=⟨f - 1,by exact (Nat.sub_add_cancel (c7k (c7q _) X)).symm⟩
 refine c60 (G5 ho T l ?_);dsimp only;rw[l.gave];rw[(c7W c7u)];rw[D];have C:∀ (i:Nat) (x:El),L[i]?=some x->(((t0 w L)[i]?.map λe=>e.1).getD 0)=o7 w x.2.1:=λi x h=>by rw[(a0D ..)];rw[h];rfl
 generalize hp:SetTable.probe t _ (o7 w k) (M7 t.mask (o7 w k) n)=Y;rcases b0t l (ha:=λi=>((t0 w L)[i]?.map λe=>e.1).getD 0) hN hb d n (10 * SetTable.turns t.mask) e (by exact c7k (c7g (c75 _ _) (c7z e)) hl) with ⟨g,no⟩ | ⟨j,i,x,Z,z,J,S,h5,g,no⟩
 ·obtain rfl:Y=_:=hp.symm.trans g;refine c61 (K λhm=>?_);exact j5 (c8s hm) λx V W=>y4 (hx x V W) λi m p R=>eE (c8A V) λF U=>no i F x m p U R (by rw[(C F x U)];rw[W];rfl)
 ·obtain rfl:Y=_:=hp.symm.trans g;rw [C i x J] at h5;refine eA (ks x (c7e J)) λkx M=>?_;refine eE (a7d kx M) λbx O=>?_;have rest:wpAny (model lc w) A (do
    let some (_,y):=(t0 w L)[i]? | unsupported "internal:set-entry"
    let equal<-holding [y] (eqBool y (.ref b))
    let (es',_,t')<-setState a
    if (true&&equal)=true then return .there none
    let some same:=t'.sameMemory t.moves t.mask | unsupported "set.changed-during-lookup:is-the-new-block-at-the-old-address"
    let still<-match (if same=true then t'.slot (M7 t.mask (o7 w k) j).j else .empty) with
     | .live F=>match es'[F]? with
      | some (_,y')=>do pure (if (<- isSame y' y)=true then some F else none)
      | none=>pure none
     | _=>pure none
    match still with
    | none=>do rule "set.search.anew";setSearchFrom a (.ref b) (o7 w k) true f none
    | some F=>if equal=true then return .there (some F) else setSearchFrom a (.ref b) (o7 w k) true f (some (M7 t.mask (o7 w k) (j+1)))) Q E s:=by
   rw[(a0D ..)];rw[J];rw [O] at M;dsimp only [Option.map_some];rw[O];refine c60 (c63 ((kk).eqBool hu (a2v.is kx M) (a2v.is hk r) ?_));refine c60 (G5 ho T l ?_);by_cases c:x.2.1=k
   ·rw[(c76 c)];exact c61 (I (c8t ⟨x,c7e J,c⟩))
   ·rw[(c7N c)];rw[(b2d ..)];simp only [if_true];refine w3 S ?_;rw[(l.live J)];dsimp only;rw[(a0D ..)];rw[J];dsimp only [Option.map_some];rw[O];refine c60 (wpAny_isSame_ref_self (c60 (c61 ?_)));refine ih (N - (j+1)) (b7V e Z z) (j+1) f _ (by exact Nat.add_sub_of_le z) (c43 e X Z z) rfl λP m1 H=>?_
    refine y4 (hx P m1 H) λF m p R=>⟨F,?_,p,R⟩;refine eE (c8A m1) λi2 B=>?_;rcases Nat.lt_trichotomy F j with q | rfl | q
    ·exact c7Y (by rw[(C i2 P B)];rw[H];rfl) (no F i2 P m q B R)
    ·exact c7Y H λe2=>by
      have:=l.live B;rw [R,<-S,l.live J] at this;injection this with this
      subst this;rw [J] at B;have I:=E0 B;clear B;subst I;exact c e2
    ·exact q
  dsimp only;cases hl:t.led with
  | true=>exact rest
  | false =>
   refine c60 (b2i hk r _ (λv hv=>?_) ?_)
   ·refine j5 (c8s hv) λu Z K=>?_;subst K;have:=(Array.mem_filter.mp (Array.mem_toList_iff.mp Z)).1;rw [t0,<-Array.mem_toList_iff] at this;refine j5 (c8s this) λy hy q3=>?_;subst q3;exact eA (ks y hy) λk1 r1=>eE (a7d k1 r1) λb1 u=>⟨y.2.1,b1,u,k1,u▸r1⟩
   ·exact rest
end
variable {x2:Nat}{hs:List Int}{L:List El}
noncomputable abbrev Own:=Array (Option Nat)
noncomputable def Own.taken (o:Own) (j:Nat):Prop:=∃ i,o[j]?=some (some i)
theorem b0L {o:Own} (B:o.size=m+1) (q:j<=m):(o.getD j (some 0)).isNone=true\/o.taken j:=by
 rw[c73];rw[(c7M (by exact B▸c7Q q:j < o.size))]
 show (o[j]).isNone=true\/_;cases e:o[j] with
 | none=>exact .inl rfl
 | some i=>exact .inr ⟨i,by rw[(c7M (by exact B▸c7Q q:j < o.size))];rw[e];rfl⟩
theorem b6q {o:Own} (h:(o.getD j (some 0)).isNone=true):¬ o.taken j:=λq=>by
 refine eE q λi e=>?_;clear q;rw [Array.getD_eq_getD_getElem?,e] at h;cases h
theorem b1w {o:Own} {h:Int} (d:o.size=m+1):∀ (f a n:Nat),M7 m h n=rs m (lps m h a)->(∃ b,a<=b/\b < a+f/\¬ o.taken (lps m h b).1) ->
  ∃ N,n<=N/\SetTable.layClean.free m o f (lps m h a).1 (lps m h a).2=some (M7 m h N).j/\¬ o.taken (M7 m h N).j/\∀ k,n<=k->k < N->o.taken (M7 m h k).j:=by
 intro f;induction f with
 | zero =>
  intro a n _ R;refine y4 R λb W Y _=>?_;clear R;exact c7Y Y (by exact Nat.not_lt.mpr W)
 | succ f r =>
  intro a n e U;refine y4 U λb W Y Z=>?_;clear U;have l:SetTable.runEnd m (lps m h a).1+1 - (lps m h a).1=SetTable.runEnd m (lps m h a).1 - (lps m h a).1+1:=Nat.succ_sub (b4w m _);have B:∀ k,k<=SetTable.runEnd m (lps m h a).1 - (lps m h a).1->(M7 m h (n+k)).j=(lps m h a).1+k:=λk F=>by rw[(b4x e k F)];rfl
  have i:∀ k,k<=SetTable.runEnd m (lps m h a).1 - (lps m h a).1->(lps m h a).1+k<=m:=λk F=>by refine w3 (B k F) ?_;exact a9O m h _
  show ∃ N,n<=N/\(match (List.range (SetTable.runEnd m (lps m h a).1+1 - (lps m h a).1)).find? λk=>(o.getD ((lps m h a).1+k) (some 0)).isNone with | some k=>some ((lps m h a).1+k) | none=>SetTable.layClean.free m o f (lps m h (a+1)).1 (lps m h (a+1)).2)=_/\_
  rw[l];cases q:(List.range (SetTable.runEnd m (lps m h a).1 - (lps m h a).1+1)).find? λk=>(o.getD ((lps m h a).1+k) (some 0)).isNone with
  | some k =>
   refine eAA (List.find?_range_eq_some.mp q) λw x y=>?_;have F:=c8D x;refine ⟨n+k,by exact b9D,?_,?_,λg V J=>?_⟩
   ·dsimp only;rw[(B k (by exact c7A F))];rfl
   ·rw[(B k (by exact c7A F))];exact b6q w
   ·have:=y (g - n) (by exact Nat.sub_lt_left_of_lt_add V J)
    refine w3 (Nat.add_sub_of_le V) ?_;rw[(B (g - n) (c5V F J))];exact (b0L d (i _ (c5V F J))).resolve_left λz=>by rw [z] at this;cases this
  | none =>
   have O:∀ k,k<=SetTable.runEnd m (lps m h a).1 - (lps m h a).1->o.taken (M7 m h (n+k)).j:=λk F=>by
    have:=List.find?_eq_none.mp q k (c8C (by exact c7Q F))
    rw[(B k F)];exact (b0L d (i k F)).resolve_left this
   have p:b≠a:=λz=>Z (by subst z;have:=O 0 (c7q _);rw [B 0 (Nat.zero_le _)] at this;exact this)
   refine N1 (r (a+1) _ (b0Q e) ⟨b,by exact c2w W p,by exact c3o Y,Z⟩) λN s t u v=>?_
   refine ⟨N,by exact c4m s,t,u,λk V J=>?_⟩
   by_cases c:k<=n+(SetTable.runEnd m (lps m h a).1 - (lps m h a).1)
   ·refine w3 (Nat.add_sub_of_le V) ?_;exact O _ (by exact Nat.sub_le_iff_le_add'.mpr c)
   ·exact v k (c4T c) J
structure OI (m:Nat) (hs:List Int) (o:Own):Prop where
 sz:o.size=m+1
 lt:∀ (j i:Nat),o[j]?=some (some i)->i < hs.length
 inj:∀ (j j' i:Nat),o[j]?=some (some i)->o[j']?=some (some i)->j=j'
 got:∀ (i:Nat) (h:Int),hs[i]?=some h->∃ n,o[(M7 m h n).j]?=some (some i)/\∀ k,k < n->o.taken (M7 m h k).j
theorem OI.nil (m:Nat):OI m [] (Array.replicate (m+1) none) where
 sz:=Array.size_replicate
 lt:=λj i e=>by
  rw [Array.getElem?_replicate] at e;split at e <;> cases e
 inj:=λj _ i e=>by
  rw [Array.getElem?_replicate] at e;split at e <;> cases e
 got:=λi h e=>nomatch e
theorem a4r {o:Own} (F:j < o.size) (B:Nat):(o.setIfInBounds j (some i))[B]?=if B=j then some (some i) else o[B]?:=by
 refine b9 Array.getElem?_setIfInBounds ?_;by_cases e:B=j
 ·subst e;simp [F]
 ·rw[(c7W (λq=>e q.symm))];rw[(c7W e)];rfl
theorem OI.put {o:Own} (O:OI m hs o) (c:a1g m=true) (D:hs.length<=m) (h:Int) :
  ∃ j,SetTable.layClean.free m o (SetTable.turns m) (SetTable.bits h % (m+1)) (SetTable.bits h)=some j/\OI m (hs++[h]) (o.setIfInBounds j (some hs.length)):=by
 have l:∃ j,j<=m/\¬ o.taken j:=by
  refine c7D λq=>?_;have q:∀ j,j<=m->∃ i,o[j]?=some (some i):=λj V=>c7D λz=>q ⟨j,V,z⟩;have U:(List.range (m+1)).map (λj=>((o[j]?).getD none).getD 0) ⊆ List.range hs.length:=λi C=>by
   refine j5 (c8s C) λj V P=>?_;subst P;refine eE (q j (c7A (c8D V))) λi e=>?_;rw[e];exact c8C (O.lt j i e)
  have M:((List.range (m+1)).map (λj=>((o[j]?).getD none).getD 0)).Nodup:=by
   refine List.Pairwise.map _ (λa b h=>h) (List.Pairwise.imp_of_mem (R:=λa b=>a≠b) (λ{a b} y A d=>?_) List.nodup_range);refine eE (q a (c7A (c8D y))) λi e=>eE (q b (c7A (c8D A))) λH F=>?_;rw[e];rw[F]
   rintro rfl
   exact d (O.inj _ _ _ e F)
  have:=List.Nodup.length_le_of_subset M U;rw [List.length_map,List.length_range,List.length_range] at this;exact c2v D this
 refine j5 l λu W Z=>?_;clear l;unfold a1g at c;rw [List.all_eq_true] at c;have g:=c _ (c8C (b32 m h 13));rw [List.all_eq_true] at g;refine j5 (b4n m h (m+1) 13 u (c7l _) (List.contains_iff_mem.mp (g u (c8C (by exact c7Q W))))) λr G e=>?_
 refine N1 (b1w (h:=h) O.sz (SetTable.turns m) 0 0 rfl ⟨13+r,c7q _,by unfold SetTable.turns;exact c2a G,by rw[e];exact Z⟩) λN _ I K L=>?_
 have B:(M7 m h N).j < o.size:=by rw[O.sz];exact c7Q (a9O m h N)
 have keep:∀ J,o.taken J->∃ i,i < hs.length/\o[J]?=some (some i)/\(o.setIfInBounds (M7 m h N).j (some hs.length))[J]?=some (some i):=λJ v=>by refine eE v λi e=>?_;clear v;exact
  ⟨i,O.lt _ _ e,e,by rewrite [a4r B];rw[(c7W (λq:J=(M7 m h N).j=>K ⟨i,q▸e⟩))];exact e⟩
 refine ⟨_,I,?_,λj i e=>?_,λj J i e F=>?_,λi t e=>?_⟩
 ·rw[Array.size_setIfInBounds];exact O.sz
 ·rw [a4r B] at e;rw[c7P]
  split at e
  ·cases e;show hs.length < hs.length+1;exact b9u
  ·have:=O.lt j i e;show i < hs.length+1;exact zo1 this
 ·rw [a4r B] at e F
  split at e <;> split at F
  ·rename_i a b;rw[a];rw[b];rfl
  ·cases e;exact c7Y (O.lt _ _ F) (c7J _)
  ·cases F;exact c7Y (O.lt _ _ e) (c7J _)
  ·exact O.inj _ _ _ e F
 ·rcases Nat.lt_or_ge i hs.length with q | q
  ·rw [List.getElem?_append_left q] at e;refine j5 (O.got i t e) λn p w=>y4 (keep _ ⟨i,p⟩) λH _ s x=>?_;rw [p] at s;cases s;exact ⟨n,x,λk Y=>by refine y4 (keep _ (w k Y)) λf _ _ z=>?_;exact ⟨f,z⟩⟩
  ·rw [List.getElem?_append_right q] at e;obtain ⟨rfl,E⟩:h=t/\i=hs.length:=by
    cases z:i - hs.length with
    | zero=>rw [z] at e;exact ⟨c7p e,by exact Nat.le_antisymm (Nat.sub_eq_zero_iff_le.mp z) q⟩
    | succ Q=>rw [z] at e;cases e
   subst E;exact ⟨N,by rewrite [a4r B];rw[(c7X rfl)];rfl,λk Y=>by refine y4 (keep _ (L k (c7q _) Y)) λf _ _ z=>?_;exact ⟨f,z⟩⟩
theorem b3Q (c:a1g m=true):∀ (rest done:List Int) (o:Own),OI m done o->done.length+rest.length<=m ->
  ∃ B,(rest.foldl (λ(acc:Option (Own×Nat)) h=>do
   let (owner,k)<-acc
   let j<-SetTable.layClean.free m owner (SetTable.turns m) (SetTable.bits h % (m+1)) (SetTable.bits h)
   pure (owner.setIfInBounds j (some k),k+1)) (some (o,done.length)))=some (B,(done++rest).length)/\OI m (done++rest) B:=by
 intro rest;induction rest with
 | nil=>intro done o O _;exact ⟨o,by rw[(c8d ..)];rfl,by rw[(c8d ..)];exact O⟩
 | cons h rest U =>
  intro done o O q;refine j5 (O.put c (by simp at q;exact Nat.le_of_add_right_le q) h) λj e J=>?_
  refine j5 (U (done++[h]) _ J (by simp at q ⊢;exact c5y q)) λB F R=>?_
  refine ⟨B,?_,by simpa using R⟩
  rw[List.foldl_cons];rw [List.append_assoc] at F;refine Eq.trans (c7o (rest.foldl _) ?_) F;show (do let j<-SetTable.layClean.free m o (SetTable.turns m) (SetTable.bits h % (m+1)) (SetTable.bits h);pure (o.setIfInBounds j (some done.length),done.length+1))=_
  rw[e];rw[c7P];rfl
theorem b1L (c:a1g m=true) (q:List Int) (B:q.length<=m):∃ o,SetTable.layClean m q.toArray=some o/\OI m q o:=by
 refine j5 (b3Q c q [] _ (OI.nil m) (by simpa using B)) λo e O=>?_
 refine ⟨o,?_,O⟩;unfold SetTable.layClean;rw[(List.foldl_toArray ..)];exact c7o (Option.map (·.1)) e
noncomputable def J7 (m:Nat) (o:Own):List (Nat×Nat):=(List.range (m+1)).filterMap λj=>(o.getD j none).map (j,·)
noncomputable def El0:El:=(0,.none,.none)
noncomputable def a0I (L:List El) (v:List (Nat×Nat)):List El:=v.map λx=>(x.1,(L.getD x.2 El0).2)
theorem O4 {o:Own} (J:o.size=m+1):(j,i)∈J7 m o↔o[j]?=some (some i):=by
 unfold J7;refine O0 (List.mem_filterMap ..) ?_;constructor
 ·rintro ⟨a,O,F⟩
  refine j5 (c8v F) λb q B=>?_;injection B with B h5
  subst B;subst h5;rw [Array.getD_eq_getD_getElem?] at q;cases e:o[a]? with
  | none=>rw [e] at q;cases q
  | some x=>rw [e] at q;exact c7o some q
 ·intro e;refine ⟨j,c8C ?_,?_⟩
  ·have:=a0m e;exact Nat.lt_of_lt_of_eq this J
  ·rw[c73];rw[e];rfl
theorem a3H (m:Nat) (o:Own):(J7 m o).Pairwise λa b=>a.1 < b.1 :=
 List.Pairwise.filterMap _ (λa O h b F R q=>by
  refine j5 (c8v F) λ_ _ J=>?_;subst J;refine j5 (c8v q) λ_ _ B=>?_;subst B;exact h) List.pairwise_lt_range
theorem b3W {o:Own} (O:OI m hs o):((J7 m o).map (·.2)).Nodup:=by
 refine List.Pairwise.map _ (λa b h=>h) (List.Pairwise.imp_of_mem (R:=λa b=>a.1 < b.1) (λ{a b} B q F e=>?_) (a3H m o));have B:=(O4 O.sz (j:=a.1) (i:=a.2)).mp B;have q:=(O4 O.sz (j:=b.1) (i:=b.2)).mp q;rw [<- e] at q;have:=O.inj _ _ _ B q;exact b9B F this
theorem a5T {o:Own} (O:OI m hs o):((J7 m o).map (·.2)).Perm (List.range hs.length) :=
 (List.perm_ext_iff_of_nodup (b3W O) List.nodup_range).mpr λi=>⟨λq=>by
   refine j5 (c8s q) λF B J=>?_;obtain ⟨j,i⟩:=F;subst J;exact c8C (O.lt _ _ ((O4 O.sz).mp B)),λq=>by
   have q:=c8D q;exact j5 (O.got i hs[i] (c7h q)) λn e _=>c8t ⟨(_,i),(O4 O.sz).mpr e,rfl⟩⟩
theorem b3V {o:Own} (O:OI m hs o):(J7 m o).length=hs.length:=by
 have:=(a5T O).length_eq;rwa [c7f,c70] at this
theorem a9Q {w:World} {o:Own} (O:OI m (L.map λx=>o7 w x.2.1) o) (K:(L.map (·.2.1)).Nodup) (E:m=31) (D:L.length<=18):TI w m (a0I L (J7 m o))/\(a0I L (J7 m o)).length=L.length /\
  (∀ x∈a0I L (J7 m o),∃ y∈L,y.2=x.2)/\(∀ y∈L,∃ x∈a0I L (J7 m o),x.2=y.2)/\((J7 m o).map (·.2)).filterMap (λi=>(t0 w L)[i]?)=(t0 w (a0I L (J7 m o))).toList:=by
 have q:∀ j i,(j,i)∈J7 m o->∃ y,L[i]?=some y/\L.getD i El0=y:=λj i h=>by
  have:=O.lt _ _ ((O4 O.sz).mp h);rw [List.length_map] at this;exact ⟨L[i],c7h this,by rw[c7w];rw[(c7h this)];rfl⟩
 have r:(a0I L (J7 m o)).length=L.length:=by
  unfold a0I;rw[(c7f ..)];rw[(b3V O)];rw[(c7f ..)];rfl
 have s:(a0I L (J7 m o)).map (·.1)=(J7 m o).map (·.1):=by unfold a0I;rw[c7U];rfl
 have back:∀ y∈L,∃ x∈a0I L (J7 m o),x.2=y.2:=λy G=>by
  refine eE (c8A G) λi p=>j5 (O.got i (o7 w y.2.1) (by rw[c7m];rw[p];rfl)) λn e _=>?_
  have F:=(O4 O.sz).mpr e;refine j5 (q _ _ F) λy' B W=>?_;rw [p] at B;have M:=E0 B;clear B;subst M;exact ⟨_,c8t ⟨_,F,rfl⟩,by show (L.getD i El0).2=_;rw[W];rfl⟩
 refine ⟨⟨?_,?_,.inr ⟨E,by rw[r];exact D⟩,λx V=>?_,λx V=>?_⟩,r,λx V=>?_,back,?_⟩
 ·rw[s];exact List.Pairwise.map _ (λa b h=>h) (a3H m o)
 ·unfold a0I;rw[c7U];refine List.Pairwise.map _ (λa b h=>h) (List.Pairwise.imp_of_mem (R:=λa b=>a.1 < b.1) (λ{a b} f g Z=>?_) (a3H m o));refine j5 (q a.1 a.2 f) λx t x2=>j5 (q b.1 b.2 g) λy J U=>?_;show (L.getD a.2 El0).2.1≠(L.getD b.2 El0).2.1;rw[x2];rw[U];intro e;have Y:=c8r t;have v:=c8r J
  have:a.2=b.2:=(List.getElem?_inj (by simpa using Y.1) K).mp (by rw[c7m];rw[c7m];rw[t];rw[J];exact c7o some e)
  have B:=(O4 O.sz (j:=a.1) (i:=a.2)).mp f;have W:=(O4 O.sz (j:=b.1) (i:=b.2)).mp g;rw [<- this] at W;have:=O.inj _ _ _ B W;exact b9B Z this
 ·refine j5 (c8s V) λN B P=>?_;obtain ⟨j,i⟩:=N;subst P;have:=a0m ((O4 O.sz).mp B);rw [O.sz] at this;exact c7A this
 ·refine j5 (c8s V) λQ B S=>?_;obtain ⟨j,i⟩:=Q;subst S;refine j5 (q _ _ B) λy J U=>j5 (O.got i (o7 w y.2.1) (by rw[c7m];rw[J];rfl)) λn e X=>?_
  have A:=O.inj _ _ _ e ((O4 O.sz).mp B);dsimp only;rw[U];refine ⟨n,A,λk C=>?_⟩;refine eE (X k C) λi' u=>?_;rw[s];exact c8t ⟨_,(O4 O.sz).mpr u,rfl⟩
 ·refine j5 (c8s V) λT B d=>?_;obtain ⟨j,i⟩:=T;subst d;exact j5 (q _ _ B) λy J U=>⟨y,c7e J,by show _=(L.getD i El0).2;rw[U];rfl⟩
 ·have c:∀ l:List (Nat×Nat),(∀ x∈l,x∈J7 m o)->(l.map (·.2)).filterMap (λi=>(t0 w L)[i]?)=(t0 w (a0I L l)).toList:=by
   intro l;induction l with
   | nil=>intro _;rfl
   | cons x l I =>
    intro h;refine j5 (q x.1 x.2 (h x (c7j))) λy J U=>?_;rw[c7Z];refine b9 (List.filterMap_cons_some (b:=(o7 w y.2.1,y.2.2)) (by rw[(a0D ..)];rw[J];rfl)) ?_;rw[(I λz H=>h z (c7i _ H))]
    show _=(o7 w (L.getD x.2 El0).2.1,(L.getD x.2 El0).2.2) :: _;rw[U];rfl
  exact c _ λx h=>h
section
open Classical
theorem b3u:∀ n k,G6 n k=true->∀ (j:Nat) (A:Around) (E:Value->Shared->Prop) (s:Shared) (v:Value) (Q:Bool->Shared->Prop),j7 G s.heap k v->(∀ b,Q b s) ->
  wpAny c8L A (hashByValue (n+j) v) Q E s:=by
 refine Y9 (λn i j A E s v Q r q=>?_) (λn i j A E s v Q r q=>?_) λn l V h j A E s v Q r q=>?_
 ·refine eE (J0 r) λt W=>?_;subst W;rw[(hashByValue_scannable _ rfl)];exact c61 (q _)
 ·refine eE (a1w r) λt Y=>?_;subst Y;rw[(hashByValue_scannable _ rfl)];exact c61 (q _)
 ·replace r:=Y0 r;revert r;intro B;refine j9 B λa d Z t r=>?_;clear B;subst Z;have J:=a1v t;refine P7 t λo R _ z O=>?_;clear t;rw[(show n+1+j=n+j+1 from Nat.add_right_comm n 1 j)];refine c60 (wpAny_specialOf J PySem.F.slot_tuple_hash.lookup ?_);refine c60 (wpAny_seqItems R O ?_);refine c60 (a4F (λ_=>True) h r trivial (λy u b U c _=>?_) λb _=>?_)
  ·refine c60 (V y U j _ _ _ _ _ c λb=>?_);cases b
   ·exact c61 (c61 (q _))
   ·exact c61 ⟨rfl,trivial⟩
  ·obtain ⟨_ | b,_⟩:=b <;> exact c61 (q _)
structure a5n (w:World) (t:SetTable) (L:List El) (k:f5) (b:Value) (j:Nat) (t1:SetTable) (p:Nat) (L':List El):Prop where
 pl:t1.place.toList=L'.map (·.1)
 mask:t1.mask=t.mask
 dum:t1.dummies=#[]
 es:SetTable.insertAt (t0 w L) p (o7 w k,b)=t0 w L'
 len:L'.length=L.length+1
 mem:∀ x,x∈L'↔x∈L\/x=(j,k,b)
 nod:(L'.map (·.2.1)).Nodup
 ti:((t.mask=7/\L.length < 4)\/(t.mask=31/\L.length < 18))->TI w t.mask L'
 led:t1.led=t.led
theorem a5n.fill {t q:SetTable} {L B:List El} {b:Value} {j p:Nat} (P:a5n w t L k b j q p B):q.fill=L.length+1:=by
 unfold SetTable.fill;rw[P.dum];refine w3 c7K ?_;rw[P.pl];rw[(c7f ..)];rw[P.len];rfl
theorem a5n.keys {t J:SetTable} {L F:List El} {b:Value} {j p:Nat} (P:a5n w t L k b j J p F) (v:f5):v∈F.map (·.2.1)↔v∈L.map (·.2.1)\/v=k:=by
 simp only [List.mem_map];constructor
 ·rintro ⟨x,B,rfl⟩
  rcases (P.mem x).mp B with q | rfl
  ·exact .inl ⟨x,q,rfl⟩
  ·exact .inr rfl
 ·rintro (⟨x,B,rfl⟩ | rfl)
  ·exact ⟨x,(P.mem x).mpr (.inl B),rfl⟩
  ·exact ⟨_,(P.mem _).mpr (.inr rfl),rfl⟩
theorem a5n.from {t J:SetTable} {L B:List El} {b:Value} {j p:Nat} (P:a5n w t L k b j J p B) (x:El) (F:x∈B):(∃ y∈L,y.2=x.2)\/x.2=(k,b) :=
 ((P.mem x).mp F).elim (λq=>.inl ⟨x,q,rfl⟩) λq=>.inr (by rw[q];rfl)
theorem a8C {b:Value} {N:Nat} (l:a0i w t L) (m:k∉L.map (·.2.1)) (R:(M7 t.mask (o7 w k) N).j∉L.map (·.1)) (f:∀ j,j < N->(M7 t.mask (o7 w k) j).j∈L.map (·.1)) :
  ∃ Z,a5n w t L k b (M7 t.mask (o7 w k) N).j (t.put (M7 t.mask (o7 w k) N).j).1 (t.put (M7 t.mask (o7 w k) N).j).2 Z:=by
 generalize U:(M7 t.mask (o7 w k) N).j=j at R ⊢;have q:=l.ti.rise;rw [<- l.place] at q;refine eAA (a1c q j) λs V W=>?_;have g:SetTable.has t.dummies j=false:=by rw[l.dum];rfl
 have d:t.put j=({t with place:=SetTable.insertAt t.place (SetTable.below t.place j) j},SetTable.below t.place j):=by
  unfold SetTable.put;rw[g];rfl
 rw[d];generalize SetTable.below t.place j=p at s V W;have O:(SetTable.insertAt t.place p j).toList=(L.take p++(j,k,b) :: L.drop p).map (·.1):=by
  rw[(a0P ..)];rw[l.place];rw[c7T];rw[c7Z];rw[List.map_take];rw[List.map_drop];rfl
 have mem:∀ x:El,x∈L.take p++(j,k,b) :: L.drop p↔x∈L\/x=(j,k,b):=λx=>by
  conv=>rhs;(rewrite [<- List.take_append_drop p L];try rfl)
  refine O0 (List.mem_append ..) ?_;refine O0 (List.mem_append ..) ?_;refine O0 (List.mem_cons ..) ?_;constructor
  ·rintro (h | h | h)
   ·exact .inl (.inl h)
   ·exact .inr h
   ·exact .inl (.inr h)
  ·rintro ((h | h) | h)
   ·exact .inl h
   ·exact .inr (.inr h)
   ·exact .inr (.inl h)
 have nod:((L.take p++(j,k,b) :: L.drop p).map (·.2.1)).Nodup:=by
  have r:((L.take p++(j,k,b) :: L.drop p).map (·.2.1)).Perm (k :: L.map (·.2.1)):=by
   have:=(List.perm_middle (a:=(j,k,b)) (l₁:=L.take p) (l₂:=L.drop p)).map (λx:El=>x.2.1);rw [List.take_append_drop] at this;exact this
  exact r.nodup_iff.mpr (List.nodup_cons.mpr ⟨m,l.ti.nod⟩)
 have J:(L.take p++(j,k,b) :: L.drop p).length=L.length+1:=by
  rw[c7P];rw[c72];rw[List.length_take];rw[List.length_drop];have:t.place.size=L.length:=by refine w3 c7K ?_;rw[l.place];rw[(c7f ..)];rfl
  exact c1O
 refine ⟨_,O,rfl,l.dum,?_,J,mem,nod,λo=>⟨?_,nod,?_,λx F=>?_,λx F=>?_⟩,rfl⟩
 ·apply Array.toList_inj.mp;rw[(a0P ..)];simp only [t0,List.map_append,List.map_cons,List.map_take,List.map_drop]
 ·refine w3 O ?_;rw[(a0P ..)];have u:∀ x∈t.place.toList.take p,x < j:=λx F=>by
   refine eE (c8A F) λi B=>?_;rw [List.getElem?_take] at B
   split at B
   ·rename_i c;have:=V i c;rw [Array.getElem?_toList] at B;rw [getD_some B] at this;exact this
   ·cases B
  have v:∀ x∈t.place.toList.drop p,j < x:=λx F=>by
   refine eE (c8A F) λi B=>?_;rw [List.getElem?_drop,Array.getElem?_toList] at B;have:=W (p+i) (b9D) (a0m B);rw [getD_some B] at this;refine c8k this λe=>R ?_;refine w3 l.place ?_;rw[e];exact Array.mem_toList_iff.mpr (Array.mem_of_getElem? B)
  rw [<- List.take_append_drop p t.place.toList,List.pairwise_append] at q;refine List.pairwise_append.mpr ⟨q.1,List.pairwise_cons.mpr ⟨v,q.2.1⟩,λx F y hy=>?_⟩;rcases c8z hy with rfl | hy
  ·exact u x F
  ·exact q.2.2 x F y hy
 ·rw[J];exact Or.symm (id (Or.symm o))
 ·rcases (mem x).mp F with h | rfl
  ·exact l.ti.le x h
  ·refine w3 U ?_;exact a9O _ _ _
 ·have Y:∀ n,n∈L.map (·.1)->n∈(L.take p++(j,k,b) :: L.drop p).map (·.1):=λn h=>by
   exact j5 (c8s h) λy z A=>c8t ⟨y,(mem y).mpr (.inl z),A⟩
  rcases (mem x).mp F with h | rfl
  ·exact j5 (l.ti.reach x h) λn a c=>⟨n,a,λi B=>Y _ (c i B)⟩
  ·exact ⟨N,U,λi B=>Y _ (f i B)⟩
variable {ep:Nat}
structure b9V (w:World) (t:SetTable) (L:List El) (t':SetTable) (order:Array Nat) (L':List El):Prop where
 rel:t.relaid ((t0 w L).map (·.1)) 20=some (t',order)
 laid:a0i w t' L'
 es:order.filterMap (λi=>(t0 w L)[i]?)=t0 w L'
 led:t'.led=t.led
 perm:order.toList.Perm (List.range L.length)
 len:L'.length=L.length
 fro:∀ x∈L',∃ y∈L,y.2=x.2
 til:∀ y∈L,∃ x∈L',x.2=y.2
theorem a8c (R:(L.map (·.2.1)).Nodup) (q:L.length=5):∃ t' order B,b9V w t L t' order B:=by
 refine j5 (b1L a7D (L.map λx=>o7 w x.2.1) (by simp [q])) λo e O=>?_
 refine a5L (a9Q O R rfl (c1e q)) λT J a b c=>?_;have F:(t0 w L).map (·.1)=(L.map λx=>o7 w x.2.1).toArray:=by
  simp only [t0,List.map_toArray,List.map_map];rfl
 refine ⟨⟨31,((J7 31 o).map (·.1)).toArray,#[],t.finger,t.led,t.movedTo 31,t.plain⟩,((J7 31 o).map (·.2)).toArray,a0I L (J7 31 o),?_,⟨T,?_,rfl⟩,?_,rfl,by have:=a5T O;rwa [c7f] at this,J,a,b⟩
 ·rw[F];show (do let owner<-SetTable.layClean 31 _;_)=_
  rw[e];rfl
 ·unfold a0I;rw[c7U];rfl
 ·rw[List.filterMap_toArray];rw[c];rw[Array.toArray_toList];rfl
theorem a3i {es es':Array (Int×Value)} {t t':SetTable} (B:h.get? a=some o) (q:o.data=.set es ep t) :
  (h.update a (Obj.putSet es' t')).get? a=some {o with data:=.set es' (ep+1) t'}:=by
 have:=c7a (Obj.putSet es' t') B (by rw[(putSet_of es' t' q)];rfl)
 rw [putSet_of es' t' q] at this;exact this
theorem a6d {h h':Heap} {es:Array (Int×Value)} (O:h.get? a=some o) (J:o.data=.set es ep t) (R:Heap.SameBut a h h') (x:j7 G h k v):j7 G h' k v :=
 x.mono λb W t=>by
  refine P7 t λU q F z B=>?_;clear t;refine ⟨U,(R.2 b ?_).trans q,F,z,B⟩
  rintro rfl
  rw [O] at q;have V:=E0 q;clear q;subst V;rw [J] at B;cases B
noncomputable def b0f (w:World) (G:Gi) (K:f5->Bool) (s:Shared) (a:Addr) (L:List El) (k:f5) (v:Value) (Q:Bool->Shared->Prop):Prop :=
 ∀ L' h',Heap.SameBut a s.heap h'->a0j w G K h' a L'->(∀ u,u∈L'.map (·.2.1)↔u∈L.map (·.2.1)\/u=k)->(∀ x∈L',(∃ y∈L,y.2=x.2)\/x.2=(k,v))->∀ b,Q b {s with heap:=h'}
variable {p:Nat}{Q:Bool->Shared->Prop}{t2:SetTable}{K:f5->Bool}{L' L2:List El}{t1 t':SetTable}{ord:Array Nat}
theorem b0N (P:a5n w t L k v j t1 p L') (F:s.heap.get? a=some o) (B:o.data=.set (t0 w L) ep t) (ks:∀ x∈L,K x.2.1=true/\j7 G s.heap x.2.1 x.2.2) (O:K k=true) (r:j7 G s.heap k v) {h':Heap} (J:Heap.SameBut a s.heap h') (x:El) (R:x∈L'):K x.2.1=true/\j7 G h' x.2.1 x.2.2:=by
 rcases (P.mem x).mp R with q | rfl
 ·exact ⟨(ks x q).1,a6d F B J (ks x q).2⟩
 ·exact ⟨O,a6d F B J r⟩
theorem a7s (h:b0f w G K s a L k v Q) (P:a5n w t L k v j t1 p L') (F:s.heap.get? a=some o) (q:o.ExactSet) (B:o.data=.set (t0 w L) ep t) (ks:∀ x∈L,K x.2.1=true/\j7 G s.heap x.2.1 x.2.2) (Y:K k=true) (r:j7 G s.heap k v)
  (R:t2.place=t1.place) (U:t2.mask=t.mask) (V:t2.dummies=#[]) (W:t2.led=!byT w) (O:(t.mask=7/\L.length < 4)\/(t.mask=31/\L.length < 18)) (b:Bool):Q b {s with heap:=s.heap.update a (Obj.putSet (t0 w L') t2)} :=
 have J:=c7b s.heap a (Obj.putSet (t0 w L') t2)
 h L' _ J ⟨⟨_,_,t2,a3i F B,q,rfl,⟨U▸P.ti O,by rw[R];exact P.pl,V⟩,W⟩,b0N P F B ks Y r J⟩ P.keys P.from b
theorem a7r (h:b0f w G K s a L k v Q) (P:a5n w t L k v j t1 p L') (N:b9V w t2 L' t' ord L2) (R:s.heap.get? a=some o) (J:o.ExactSet) (O:o.data=.set (t0 w L) ep t) (ks:∀ x∈L,K x.2.1=true/\j7 G s.heap x.2.1 x.2.2) (W:K k=true) (r:j7 G s.heap k v) (V:t2.led=!byT w) (b:Bool) :
  Q b {s with heap:=(s.heap.update a (Obj.putSet (t0 w L') t2)).update a (Obj.putSet (t0 w L2) t')}:=by
 have U:=(c7b s.heap a (Obj.putSet (t0 w L') t2)).trans (c7b (s.heap.update a (Obj.putSet (t0 w L') t2)) a (Obj.putSet (t0 w L2) t'));refine h L2 _ U ⟨⟨_,_,t',a3i (a3i R O) rfl,J,rfl,N.laid,N.led.trans V⟩,λx q=>?_⟩ (λv=>?_) (λx q=>?_) b
 ·refine j5 (N.fro x q) λy B F=>?_;refine w3 F ?_;exact b0N P R O ks W r U y B
 ·rewrite [<- P.keys];simp only [List.mem_map];constructor
  ·rintro ⟨x,q,rfl⟩
   exact j5 (N.fro x q) λy B F=>⟨y,B,by rw[F];rfl⟩
  ·rintro ⟨y,Y,rfl⟩
   exact j5 (N.til y Y) λx Z c=>⟨x,Z,by rw[c];rfl⟩
 ·refine j5 (N.fro x q) λy B F=>?_;refine w3 F ?_;exact P.from y B
variable {p:Array Nat}{Q:Value->Shared->Prop}
theorem b0V {m n:Nat} (h:(m=7/\n<=4)\/(m=31/\n<=18)) (q:n < 18) (c:¬ (m=7/\n=4)):(m=7/\n < 4)\/(m=31/\n < 18):=h.imp (λz=>⟨z.1,c8k z.2 λe=>c ⟨z.1,e⟩⟩) λz=>⟨z.1,q⟩
theorem b0W {m n:Nat} (h:(m=7/\n < 4)\/(m=31/\n < 18)):decide ((n+1) * 5>=m * 3)=false:=c7N (h.elim (λz=>by rw[z.1];exact Nat.not_le.mpr (c7k (Nat.mul_le_mul_right 5 z.2) (by decide))) λz=>by rw[z.1];exact Nat.not_le.mpr (c7k (Nat.mul_le_mul_right 5 z.2) (by decide)))
set_option backward.match.sparseCases true in
theorem b6K {a b:Addr} {Q:Bool->Shared->Prop} (hu:A.units+64 < cLine) (S:a0j w G a2v s.heap a L) (V:L.length < 18) (g:a2v k=true) (r:j7 G s.heap k (.ref b))
  (h:b0f w G a2v s a L k (.ref b) Q) :
  wpAny c8L A (setAddHashed a (.ref b) (o7 w k)) Q E s:=by
 obtain ⟨⟨o,ep,t,W,Z,U,l,md⟩,m⟩:=S;refine y4 (l.ti.free (o7 w k)) λN n1 u n3=>?_;have n4:=l.ti.turn;refine c63 (c60 (G5 W U l ?_));dsimp only;rw[(show byScan (.ref b) (t0 w L)=false from rfl)];refine c60 (b2h hu W U l m g r u n3 n1 (λH=>?_) (λH=>?_) N 0 100000 none (Nat.zero_add _) (by exact c77 n1 n4) rfl λx i e=>?_)
 ·exact c61 (h L s.heap (Heap.SameBut.refl a s.heap) ⟨⟨o,ep,t,W,Z,U,l,md⟩,m⟩ (λv=>⟨.inl,λz=>z.elim id λe=>e▸H⟩) (λx i=>.inl ⟨x,i,rfl⟩) _)
 ·refine c60 (G5 W U l ?_);refine eE (a8C (b:=.ref b) l H u n3) λO P=>?_;rw[P.es];generalize (t.put (M7 t.mask (o7 w k) N).j).1=c at P;generalize (t.put (M7 t.mask (o7 w k) N).j).2=p at P;have Y:∀ B,wpAny c8L A (do
    storeSet a (t0 w O) (if B=true then c else {c with plain:=false})
    if (!false&&(if B=true then c else {c with plain:=false}).tooFull)=true then setRelay a (SetTable.grown ((t0 w L).size+1))
    return true) Q E s:=λB=>by
   generalize F:(if B=true then c else {c with plain:=false})=J
   have C:J.place=c.place:=by refine w3 F ?_;cases B <;> rfl
   have D:J.mask=t.mask:=by (refine w3 P.mask ?_;refine w3 F ?_);cases B <;> rfl
   have K:J.dummies=#[]:=by (refine w3 P.dum ?_;refine w3 F ?_);cases B <;> rfl
   have T:J.led=!byT w:=by (refine w3 md ?_;refine w3 P.led ?_;refine w3 F ?_);cases B <;> rfl
   have M:J.fill=L.length+1:=by refine w3 P.fill ?_;unfold SetTable.fill;rw[C];rw[K];rw[P.dum];rfl
   have z1:(t0 w O).size<=sizeLine:=by rw[(s0 ..)];rw[P.len];rw[sizeLine_eq];exact c7g V (c7d rfl)
   refine c60 (wpAny_storeSet_of W U ?_ z1);have X:=a3i (es':=t0 w O) (t':=J) W U;unfold SetTable.tooFull;rw[M];rw[D];by_cases R:t.mask=7/\L.length=4
   ·rw[R.1];rw[R.2];have e5:SetTable.grown ((t0 w L).size+1)=20:=by rw[(s0 ..)];rw[R.2];rfl
    rw[e5];show wpAny _ _ (do setRelay a 20;pure true) _ _ _
    refine b98 (a8c (t:=J) P.nod (by rw[P.len];rw[R.2];rfl)) λt' ord L2 d=>?_
    have ft:J.fits (t0 w O).size=true:=by
     unfold SetTable.fits;rw[M];rw[D];rw[C];rw[(s0 ..)];rw[P.len];refine w3 c7K ?_;rw[P.pl];rw[(c7f ..)];rw[P.len];rw[R.1];rw[R.2];rfl
    refine c60 ?_;refine c60 (wpAny_setState_of X rfl ft ?_);show wpAny _ _ (do
     let (es,t)<-(do
      let some (t,order):=J.relaid ((t0 w O).map (·.1)) 20 | unsupported "internal:set-table-without-room"
      let es':=order.filterMap ((t0 w O)[·]?)
      if es'.size != (t0 w O).size then unsupported "internal:set-table-lost-an-element"
      pure (es',t))
     storeSet a es t) _ _ _
    rw[d.rel];dsimp only;rw[d.es];have ne:((t0 w L2).size != (t0 w O).size)=false:=by rw[(s0 ..)];rw[(s0 ..)];rw[d.len];simp
    rw[ne];refine c60 (c61 (wpAny_storeSet_of X rfl (c61 (a7r h P d W Z U m g r T _)) (by rw[(s0 ..)];rw[d.len];rw[P.len];rw[sizeLine_eq];exact c5v R)))
   ·have f:(t.mask=7/\L.length < 4)\/(t.mask=31/\L.length < 18):=b0V l.ti.size V R;have nf:decide ((L.length+1) * 5>=t.mask * 3)=false:=b0W f;rw[nf];exact c61 (a7s h P W Z U m g r C D K T f _)
  split
  ·refine c60 (b3u 3 _ (c8u g).2 5 _ _ _ _ _ r λB=>Y B)
  ·exact c60 (c61 (Y true))
 ·refine j5 (l.ti.reach x i) λn y I=>?_;rw [e] at y I;refine ⟨n,c7q _,?_,y.symm⟩;rcases Nat.lt_trichotomy n N with q | rfl | q
  ·exact q
  ·exact c7Y (c8t ⟨x,i,y.symm⟩) u
  ·exact c7Y (I N q) u
variable {x:f5}{e:Ev}{j:Int}
noncomputable def a9s (v:f5):Bool:=I7 v==0
theorem a1R (x:a9s k=true) (r:j7 G h k v):∃ i t,k=.int i/\v=.int i t:=by
 refine eE (W6 (c8j x)) λi B=>?_;subst B;replace r:=J0 r;refine eE r λt q=>?_;clear r;subst q;exact ⟨i,t,rfl,rfl⟩
theorem b6a {v:Value} {N:Nat} (l:a0i w t L) (B:(M7 t.mask (o7 w k) N).j∉L.map (·.1)) (F:∀ j,j < N->(M7 t.mask (o7 w k) j).j∈L.map (·.1)) (J:N < 10 * SetTable.turns t.mask) :
  t.freeSlot (o7 w k)=some ((M7 t.mask (o7 w k) N).j,false):=by
 unfold SetTable.freeSlot;have:t.probe (λ_=>o7 w k+1) (o7 w k) (t.probeStart (o7 w k))=some (.empty (M7 t.mask (o7 w k) N).j none):=by
  rcases b0t l (ha:=λ_=>o7 w k+1) B F N 0 (10 * SetTable.turns t.mask) (Nat.zero_add _) J with ⟨g,_⟩ | ⟨_,_,_,_,_,_,_,q,_⟩
  ·exact g
  ·exact (c0S q).elim
 rw[this];rfl
theorem b4C {Q:Bool->Shared->Prop} (S:a0j w G a9s s.heap a L) (F:L.length < 18) (D:a9s k=true) (r:j7 G s.heap k v)
  (h:b0f w G a9s s a L k v Q) :
  wpAny c8L A (setAddHashed a v (o7 w k)) Q E s:=by
 obtain ⟨⟨o,ep,t,W,V,U,l,md⟩,O⟩:=S;refine y4 (l.ti.free (o7 w k)) λN n1 n2 n3=>A6 (a1R D r) λi Y q3 q4=>?_;subst q3;subst q4;have hi:(intKind lc w).is i (.int i Y)=true:=intKind_is _ _ _ _;have hh:o7 w (.int i)=(intKind lc w).hash i:=rfl;have m:ElemsOf (intKind lc w) (t0 w L).toList:=λe he=>by
  refine j5 (c8s he) λx B q5=>?_;subst q5;refine A6 (a1R (O x B).1 (O x B).2) λH t' f g=>?_;dsimp only;rw[f];rw[g];exact ⟨⟨H,intKind_is _ _ _ _,rfl⟩,rfl⟩
 have hf:t.fits (t0 w L).size=true:=by rw[(s0 ..)];exact l.fits
 refine c63 (c60 (G5 W U l ?_));dsimp only;refine b9 (byScan_of rfl (by rw[(s0 ..)];unfold scanBound;exact c7g F (c7d rfl)) m) ?_
 refine c60 (c60 (wpAny_rule ?_));rw[hh];refine c60 (wpAny_setScan_of hi W U hf m ?_);refine w3 hh ?_;have mem:∀ x∈L,(intKind lc w).is i x.2.2=true->x.2.1=.int i:=λx B e=>by
  refine A6 (a1R (O x B).1 (O x B).2) λH t' f g=>?_;rw [g] at e;rw[f];rw[((intKind lc w).inj _ _ _ e (intKind_is _ _ _ _))];rfl
 cases hr:List.findIdx? (λe:Int×Value=>(intKind lc w).is i e.2) (t0 w L).toList with
 | some j =>
  refine j5 (List.findIdx?_eq_some_iff_getElem.mp hr) λhj u _=>?_;have n:f5.int i∈L.map (·.2.1):=by
   refine j5 (c8s (List.getElem_mem hj)) λx B e=>?_;rw [<- e] at u;exact c8t ⟨x,B,mem x B u⟩
  exact c61 (c61 (h L s.heap (Heap.SameBut.refl a s.heap) ⟨⟨o,ep,t,W,V,U,l,md⟩,O⟩ (λv=>⟨.inl,λz=>z.elim id λe=>e▸n⟩) (λx B=>.inl ⟨x,B,rfl⟩) _))
 | none =>
  have n:f5.int i∉L.map (·.2.1):=λn=>by
   refine j5 (c8s n) λx B e=>A6 (a1R (O x B).1 (O x B).2) λH t' f g=>?_;have:=List.findIdx?_eq_none_iff.mp hr (o7 w x.2.1,x.2.2) (c8t ⟨x,B,rfl⟩);rw [f] at e;injection e with e
   rw [g,e,intKind_is] at this;cases this
  refine eE (a8C (b:=.int i Y) l n n2 n3) λq P=>?_;have y:layNew t (t0 w L) (o7 w (.int i)) (.int i Y)=(t0 w q,(t.put (M7 t.mask (o7 w (.int i)) N).j).1.orStandIn (t0 w q).size,false,!(t.put (M7 t.mask (o7 w (.int i)) N).j).1.fits (t0 w q).size):=by
   unfold layNew;rw[(b6a (v:=.int i Y) l n2 n3 n1)];refine w3 P.es ?_;rfl
  generalize X:layNew t (t0 w L) (o7 w (.int i)) (.int i Y)=LL;rw [X] at y;clear X;generalize (t.put (M7 t.mask (o7 w (.int i)) N).j).1=J at P y;generalize (t.put (M7 t.mask (o7 w (.int i)) N).j).2=p at P;have M:=P.fill;have T:J.fits (t0 w q).size=true:=by
   unfold SetTable.fits;rw[M];rw[P.mask];rw[(s0 ..)];rw[P.len];refine w3 c7K ?_;rw[P.pl];rw[(c7f ..)];rw[P.len];simp only [beq_self_eq_true,Bool.true_and,decide_eq_true_eq];exact l.ti.lt
  have C:J.orStandIn (t0 w q).size=J:=by unfold SetTable.orStandIn;rw[T];rfl
  rw [C,T] at y;subst y;have K:=P.led.trans md;show wpAny _ _ (do
   pure ()
   let byValue<-if J.plain=true then hashByValue 8 (.int i Y) else pure true
   let I:=if byValue=true then J else {J with plain:=false}
   storeSet a (t0 w q) I
   if (!false&&I.tooFull)=true then do
    let (es,t,gave):=relayAll I (t0 w q) (SetTable.grown (t0 w q).size)
    (match gave with | true=>rule "set.scan.the-table-gave-way" | false=>pure ())
    storeSet a es t
    pure (some true)
   else pure (some true)) _ _ _
  refine c60 (c61 ?_);refine (λR=>wpAny_ite_split (λ_=>c60 (wpAny_of_eq (a:=true) (hashByValue_scannable 8 (show (Value.int i Y).scannable=true from rfl)) R)) λ_=>c60 (c61 R)) ?_;simp only [if_true];have z1:(t0 w q).size<=sizeLine:=by rw[(s0 ..)];rw[P.len];rw[sizeLine_eq];exact c7g F (c7d rfl)
  refine c60 (wpAny_storeSet_of W U ?_ z1);have g1:=a3i (es':=t0 w q) (t':=J) W U;unfold SetTable.tooFull;rw[M];rw[P.mask];by_cases c:t.mask=7/\L.length=4
  ·rw[c.1];rw[c.2];have e5:SetTable.grown (t0 w q).size=20:=by rw[(s0 ..)];rw[P.len];rw[c.2];rfl
   rw[e5];refine b98 (a8c (t:=J) P.nod (by rw[P.len];rw[c.2];rfl)) λt' ord L2 Z=>?_
   have er:relayAll J (t0 w q) 20=(t0 w L2,t',false):=by
    unfold relayAll;rw[Z.rel];dsimp only;rw[Z.es];have:coversAll ord (t0 w q).size=true:=by
     rw[(s0 ..)];exact List.isPerm_iff.mpr Z.perm
    rw[this];rw[(s0 ..)];rw[Z.laid.fits];rfl
   show wpAny _ _ (do
    let (es,t,gave):=relayAll J (t0 w q) 20
    (match gave with | true=>rule "set.scan.the-table-gave-way" | false=>pure ())
    storeSet a es t
    pure (some true)) _ _ _
   rw[er];refine c60 (c61 ?_);refine c60 (wpAny_storeSet_of g1 rfl (c61 (c61 (a7r h P Z W V U O D r K _))) (by rw[(s0 ..)];rw[Z.len];rw[P.len];rw[sizeLine_eq];exact c5v c))
  ·have d:(t.mask=7/\L.length < 4)\/(t.mask=31/\L.length < 18):=b0V l.ti.size F c;have nf:decide ((L.length+1) * 5>=t.mask * 3)=false:=b0W d;rw[nf];exact c61 (c61 (a7s h P W V U O D r rfl P.mask P.dum K d _))
variable {o:a0z}{xs:List f5}
noncomputable def a41 (w:World):Obj:={cls:=.type "set",dict:=none,data:=.set #[] 0 (.fresh 0 0 (!byT w))}
theorem b6L (a:Value) (h:Q (.ref s.heap.objs.size) {s with heap:=s.heap.push (a41 w)}) :
  codeAny c8L A (.call (.builtin "set.__new__") ⟨[.type "set",a],[]⟩) (wants Q E) s:=by
 refine codeAny_of_tree ?_;show wpAny _ A.in1 (do checkBuiltinCall "set.__new__" ⟨[.type "set",a],[]⟩;again (.builtin "set.__new__" ⟨[.type "set",a],[]⟩)) _ _ s
 refine c60 (wpAny_of_eq (PySem.F.newCall_set_1 a) (c61 ⟨plainId_quiet PySem.F.plain_set_new _,codeAny_builtin PySem.F.entry_set_new ?_⟩));rw[(Around.under_plainId PySem.F.plain_set_new _)];unfold Builtin.«set.__new__» Builtin.Frozenset.newClass;have q:=sub_set_self;obtain ⟨B,g,d,O,J⟩:=s
 wp_walk
 refine wpAny_askSetting (c61 ?_);dsimp only;refine c60 (wpAny_alloc (c61 ?_));exact c61 h
theorem b1h {a:Value}
  (h:∀ O,O={s with heap:=s.heap.push (a41 w)}->wpAny c8L A.in1.in1 (Builtin.«set.__init__» ⟨[.ref s.heap.objs.size,a],[]⟩)
    (λW V=>match W with | .done f=>wants (λr B=>r=.none/\Q (.ref s.heap.objs.size) B) E (.ok f) V | .again b=>b.quiet=true/\codeAny c8L A.in1 b (wants (λr B=>r=.none/\Q (.ref s.heap.objs.size) B) E) V)
    (λe V=>wants (λr B=>r=.none/\Q (.ref s.heap.objs.size) B) E (.error e) V) O) :
  wpAny c8L A (call (.type "set") [a]) Q E s:=by
 refine eEE PySem.F.called_set.mro λc y d=>?_;have Z:=PySem.F.called_set.made;have g:=PySem.F.called_set.sub;refine wpAny_call (codeAny_of_tree ?_);refine c61 ⟨Code.quiet_builtin _ (by decide +kernel),codeAny_builtin PySem.F.entry_type_call ?_⟩
 rw[(Around.under_plain (weight_type_call_type "set" [a] []) rfl)];have u:=PySem.F.called_set.notType;have v:=PySem.F.called_set.canCreate;have l:=PySem.F.typeCall_set_1 a
 repeat (any_goals (first | assumption | wp_step))
 refine codeAny_mono (b6L a (E:=E) (Q:=λJ O=>J=.ref s.heap.objs.size/\O={s with heap:=s.heap.push (a41 w)}) ⟨rfl,rfl⟩) λr O U=>?_
 cases r with
 | error e=>exact U
 | ok i =>
  cases i with
  | ret J =>
   refine eA U λn o=>?_;clear U;subst n;subst o;have j:Shared.TypeIs {s with heap:=s.heap.push (a41 w)} (.ref s.heap.objs.size) "set":=⟨_,c68 _ rfl,rfl⟩
   have m:=PySem.F.called_set.init.lookup;have k:=PySem.F.called_set.init.bind (.ref s.heap.objs.size)
   repeat (any_goals (first | assumption | wp_step))
   refine codeAny_mono (codeAny_call_builtin (R:=wants (λr B=>r=.none/\Q (.ref s.heap.objs.size) B) E) PySem.F.called_set.init.plain PySem.F.entry_set_init (check_set_init_1 j (h _ rfl))) λt B q=>?_;cases t with
   | error e=>exact q
   | ok Y =>
    cases Y with
    | ret r =>
     refine eA q λp x=>?_;clear q;subst p
     repeat (any_goals (first | assumption | wp_step))
    | _=>exact q.elim
  | _=>exact U.elim
noncomputable def a7m (lc:Program) (w:World) (G:Gi) (K:f5->Bool):Prop:=∀ (A:Around) (E:Value->Shared->Prop) (s:Shared) (a:Addr) (k:f5) (v:Value) (L:List El) (Q:Bool->Shared->Prop),A.units+64 < cLine->a0j w G K s.heap a L->L.length < 18->K k=true->j7 G s.heap k v ->
  (∀ L' h',Heap.SameBut a s.heap h'->a0j w G K h' a L'->(∀ v,v∈L'.map (·.2.1)↔v∈L.map (·.2.1)\/v=k)->(∀ x∈L',(∃ y∈L,y.2=x.2)\/x.2=(k,v))->∀ b,Q b {s with heap:=h'})->wpAny (model lc w) A (setAddHashed a v (o7 w k)) Q E s
theorem add_int:a7m lc w G a9s:=λ_ _ _ _ _ _ _ _ _ S B q r h=>b4C S B q r h
theorem b5B:a7m lc w G a2v:=λ_ _ _ _ _ _ _ _ F S B q r h=>by
 refine eE (a7d q r) λb J=>?_;subst J;exact b6K F S B q r h
theorem a1b {h h':Heap} (x:j7 G h k v) (e:∀ b o,h.get? b=some o->h'.get? b=some o):j7 G h' k v :=
 x.mono λb F t=>by
  refine j5 t λB q r=>?_;clear t;exact ⟨B,e _ _ q,r⟩
theorem a0j.grow {K:f5->Bool} {h h':Heap} (S:a0j w G K h a L) (h0:Heap) (F:∀ x∈L,j7 G h0 x.2.1 x.2.2) (B:∀ b o,h0.get? b=some o->h'.get? b=some o) (e:∀ o,h.get? a=some o->h'.get? a=some o):a0j w G K h' a L :=
 ⟨S.1.imp λ_=>Exists.imp λ_=>Exists.imp λ_ z=>⟨e _ z.1,z.2⟩,λx q=>⟨(S.2 x q).1,a1b (F x q) B⟩⟩
theorem b4G {R:Result->Shared->Prop} {fp Z:List Addr} {g:Array GenState->Array GenState->Prop} {n:Nat} {P:Nat->Value->Prop} {St:Nat->Shared->Prop} {K:f5->Bool}
  (kv:∀ v,K v=true->G6 7 v=true) (add:a7m lc w G K) (hu:A.units+100 < cLine) (W:WalksS lc w A.in1 I fp Z g n P St) (S:Addr) (c:S∉fp) (xs:List f5) (hn:xs.length=n) (hx:∀ v∈xs,K v=true) (h0:Heap)
  (hv:∀ i v,P i v->∃ x,xs[i]?=some x/\j7 G h0 x v) (hw:∀ b o,h0.get? b=some o->b∉S :: Z) (D:List f5) (hD:D.length<=17) (a3:∀ v∈xs,v∈D) :
  ∀ (k i:Nat) (s:Shared) (L:List El),n - i=k->i<=n->St i s->a0j w G K s.heap S L->(∀ x∈L,j7 G h0 x.2.1 x.2.2)->(∀ v,v∈L.map (·.2.1)↔v∈xs.take i)->(∀ b o,h0.get? b=some o->s.heap.get? b=some o) ->
   (∀ U u,Moved (S :: Z) g s U->a0j w G K U.heap S u->(∀ v,v∈u.map (·.2.1)↔v∈xs)->R (.ok (.ret .none)) U) ->
   codeAny c8L A (.builtin "set.update.loop" ⟨[.ref S,.ref I],[]⟩) R s:=by
 have d:S∉Z:=λh=>c (W.sub _ h);have J:∀ b∈Z,b∈S :: Z:=λb f=>c7i _ f;intro k;induction k with
 | zero =>
  intro i s L j hi Y C H E X N;obtain rfl:i=n:=by exact Nat.le_antisymm hi (Nat.sub_eq_zero_iff_le.mp j)
  refine codeAny_builtin F.entry_set_update_loop ?_;rw[(Around.under_plainId F.plain_set_update_loop _)];refine c60 (W.done s _ _ Y λU B=>?_);refine c61 (N U L (B.mono J) (C.grow h0 H (λb o e=>B.heap b o (λh=>hw b o e (J b h)) (X b o e)) λo e=>B.heap S o d e) λv=>?_);refine O0 (E ..) ?_;refine w3 hn ?_;rw[c8c];rfl
 | succ k ih =>
  intro i s L j hi Y C H E X N;refine codeAny_builtin F.entry_set_update_loop ?_;rw[(Around.under_plainId F.plain_set_update_loop _)];refine c60 (W.item i s _ _ (c6r j) Y λv U hP p B=>?_);refine j5 (hv i v hP) λx r rx=>?_;have O:∀ b o,h0.get? b=some o->U.heap.get? b=some o:=λb o e=>B.heap b o (λh=>hw b o e (J b h)) (X b o e);have Q:=C.grow h0 H O λo e=>B.heap S o d e
  have kx:=hx x (c7e r);have hl:L.length < 18:=by
   obtain ⟨⟨_,_,t,_,_,_,l,_⟩,_⟩:=C;have:=List.Nodup.length_le_of_subset l.ti.nod (l₂:=D) λv a2=>a3 v (List.mem_of_mem_take ((E v).mp a2));rw [List.length_map] at this;exact c7k (c7g this hD) (c7d rfl)
  refine c60 (c63 ?_);refine c63 (c60 (a04 7 x (kv x kx) _ _ _ _ _ (by show A.units+1+7 < cLine;exact c1U hu) (a1b rx O) ?_))
  refine add _ _ _ _ x v L _ (by show A.units+1+64 < cLine;exact c6q hu) Q hl kx (a1b rx O) λu h' V T a1 a4 b=>?_
  have a0:∀ b o,h0.get? b=some o->h'.get? b=some o:=λb o e=>by
   rw[(V.2 b (λq=>hw b o e (q▸c7j)))];exact O b o e
  refine c61 ⟨plainId_quiet F.plain_set_update_loop _,ih (i+1) _ u (by exact (Nat.sub_add_eq _ _ _).trans (c7o (· - 1) j)) (c3H j) (W.frame _ U _ _ p (c7B _ _) λb f o e=>?_) T (λy hy=>?_) (λv=>?_) a0 λa6 M m a a5=>?_⟩
  ·refine b9 (V.2 b (λh:b=S=>c (by refine w3 h ?_;exact f))) ?_;exact e
  ·rcases a4 y hy with ⟨z,z1,z2⟩ | e
   ·refine w3 z2 ?_;exact H z z1
   ·rw[e];exact rx
  ·refine O0 (a1 ..) ?_;refine O0 (E ..) ?_;rw[List.take_add_one];rw[r];refine O0 (List.mem_append ..) ?_;simp only [Option.toList_some,List.mem_singleton]
  ·refine N a6 M (Moved.trans W.gtrans ((B.mono J).then_heap (c7B _ _) λb o f e=>?_) m) a a5;refine b9 (V.2 b (λh:b=S=>f (by rw[h];exact c7j))) ?_;exact e
variable {k a:Nat}
theorem b14 {α:Type} (next:Nat->Nat):∀ (f k:Nat) (l:List α) (q:Array α),l.length<=f->(pickOrder.go next f k l q).toList.Perm (q.toList++l):=by
 intro f;induction f with
 | zero =>
  intro k l q h;obtain rfl:l=[]:=c7H (Nat.le_zero.mp h);exact c8d _▸.refl _
 | succ f F =>
  intro k l q h;show (match l[next k % l.length]? with | some x=>pickOrder.go next f (k+1) (l.eraseIdx (next k % l.length)) (q.push x) | none=>q).toList.Perm _
  cases e:l[next k % l.length]? with
  | none =>
   rw [List.getElem?_eq_none_iff] at e;rcases Nat.eq_zero_or_pos l.length with z | z
   ·obtain rfl:l=[]:=c7H z;dsimp only;rw[(c8d ..)];rfl
   ·exact c7Y (Nat.mod_lt (next k) z) (Nat.not_lt_of_le e)
  | some x =>
   refine eE (c8r e) λB J=>?_;subst J;refine (F (k+1) _ _ (by rw[(List.length_eraseIdx_of_lt B)];exact Nat.sub_le_of_le_add h)).trans ?_
   rw[Array.toList_push];rw[(List.append_assoc ..)];refine List.Perm.append_left _ ?_;rw[(List.eraseIdx_eq_take_drop_succ ..)];refine (List.perm_middle (l₁:=List.take _ _)).symm.trans ?_;refine w3 (List.drop_eq_getElem_cons B) ?_;rw[(List.take_append_drop ..)];rfl
noncomputable def a03 (w:World) (S:Addr) (ep:Nat) (L:List El):List (Int×Value):=if byT w=true then (pickOrder (w.params.setOrder S ep) (t0 w L)).toList else (t0 w L).toList
theorem a45 (w:World) (S:Addr) (ep:Nat) (L:List El):(a03 w S ep L).Perm (t0 w L).toList:=by
 unfold a03
 split
 ·exact b14 _ _ _ _ _ (by rw[c7K];exact c7l _)
 ·exact List.Perm.refl _
theorem a81 {w:World} (l:a0i w t L) {x:El} (h:L[i]?=some x):SetTable.below t.place (x.1+1)=i+1:=by
 have B:t.place.toList.Pairwise (· < ·):=by rw[l.place];exact l.ti.rise
 have q:=l.at_ h;have F:=a0m q;refine eAA (a1c B (x.1+1)) λO R U=>?_;generalize SetTable.below t.place (x.1+1)=p at O R U;have e:=getD_some q;have W:∀ k,i < k->k < t.place.size->x.1 < t.place.getD k 0:=λk V J=>by
  have:=List.pairwise_iff_getElem.mp B i k (by simpa using F) (by simpa using J) V
  simp only [Array.getElem_toList] at this;rw[c73];rw[(c7M J)];rw [Array.getElem?_eq_getElem F] at q;injection q with q
  rw [q] at this;exact this
 rcases Nat.lt_trichotomy p (i+1) with c | c | c
 ·have:=U i (by exact c7A c) F
  exact c4M e this
 ·exact c
 ·have a:=R (i+1) c;have b:=W (i+1) (b9u) (by exact c7v c O)
  exact c7Y a (Nat.not_lt_of_le b)
theorem a82 {w:World} (l:a0i w t L):SetTable.below t.place 0=0:=by
 refine eAA (a1c (by rw[l.place];exact l.ti.rise) 0) λB q F=>?_
 rcases Nat.eq_zero_or_pos (SetTable.below t.place 0) with c | c
 ·exact c
 ·exact c7Y (q 0 c) (c8p _)
theorem z5:Slot "set_iterator" "__next__" "set_iterator.__next__" :=
 .of (owner:="set_iterator") (n:="__next__") (by rw[(typeLookup_type ..)];rw[builtinLookup_eq_fast];kernel_rfl) (by decide +kernel) (by decide +kernel) (by decide +kernel)
  (by first | exact .inl (by decide +kernel) | exact .inr (by decide +kernel)) (by rw[(isSubtype_type ..)];kernel_rfl)
theorem T6:entryFor table "set_iterator.__next__"=some Builtin.«set_iterator.__next__»:=entryFor_of_tree (by kernel_rfl)
theorem a50:Manifest.owners.lookup (String.ofList ['r','o','t','a','r','e','t','i','_','t','e','s'].reverse)=some Manifest.sig_set_iterator:=by kernel_rfl
theorem V6 (a:Value):argsOk "set_iterator.__next__" ⟨[a],[]⟩:=by
 unfold argsOk;refine b9 (signature?_of (id:="set_iterator.__next__") (n:=['_','_','t','x','e','n','_','_']) (o:=['r','o','t','a','r','e','t','i','_','t','e','s']) (by kernel_rfl) a50) ?_;kernel_rfl
theorem a1N:entryFor table "set.__iter__"=some Builtin.«frozenset.__iter__» :=
 entryFor_alias (id':="frozenset.__iter__") (by kernel_rfl) rfl (by decide +kernel) (by kernel_rfl)
theorem a2d {Q:Bool->Shared->Prop} (h:Q (byT w) s):wpAny c8L A setsByText Q E s:=by
 unfold setsByText;exact c60 (wpAny_askSetting (c61 h))
structure SI (w:World) (S:Addr) (L:List El) (ep:Nat) (h:Heap):Prop where
 ex:∃ o t,h.get? S=some o/\o.ExactSet/\o.data=.set (t0 w L) ep t/\a0i w t L/\t.led=!byT w/\(!byT w&&(!t.plain&&decide ((t0 w L).size > 1)))=false
noncomputable def b1a (w:World) (S I:Addr) (L:List El) (ep i:Nat) (h:Heap):Prop :=
 ∃ sl:Nat,h.get? I=some {cls:=.type "set_iterator",data:=.fields #[.int sl 0,.int i 0,.ref S,.int L.length 0,.int ep 0]}/\(byT w=false->∃ o t,h.get? S=some o/\o.data=.set (t0 w L) ep t/\SetTable.below t.place sl=i)
theorem b10 {O i Z:Nat} {x:Int×Value} {Q:Option (Value×Nat)->Shared->Prop} (d:SI w S L O s.heap) (e:byT w=false->∃ o t,s.heap.get? S=some o/\o.data=.set (t0 w L) O t/\SetTable.below t.place Z=i)
  (J:(a03 w S O L)[i]?=some x) (a:∀ c,(byT w=false->∃ o t,s.heap.get? S=some o/\o.data=.set (t0 w L) O t/\SetTable.below t.place c=i+1)->Q (some (x.2,c)) s):wpAny c8L A (setNext S Z i O) Q E s:=by
 obtain ⟨⟨o,t,W,f,V,l,b⟩⟩:=d;refine c60 (G5 W V l ?_);refine c60 (a2d ?_);cases B:byT w with
 | true =>
  rw[(c7W (a2F _))];refine c60 (c60 (G5 W V l ?_));refine c60 (a2d ?_);rw[B];refine c60 (wpAny_askSetting (c61 ?_));unfold a03 at J;rw [if_pos B,Array.getElem?_toList] at J;rw[(show c8L.w=w from rfl)];rw[J];exact c61 (a Z λq=>by rw [B] at q;cases q)
 | false =>
  unfold a03 at J;rw [if_neg (by rw[B];exact Bool.false_ne_true)] at J
  rw [Array.getElem?_toList,a0D] at J;refine j5 (c8v J) λy Y h=>?_;subst h;refine j9 (e B) λj k F U R=>?_;rw [W] at F;have g:=E0 F;clear F;subst g;rw [V] at U;cases U;simp only [Bool.false_eq_true,if_false];refine wpAny_ite_split (λq=>?_) (λ_=>?_)
  ·have q:(!t.plain&&decide ((t0 w L).size > 1))=true:=q;have:=b.2;rw [B] at this;rw [show (!false&&(!t.plain&&decide ((t0 w L).size > 1)))=(!t.plain&&decide ((t0 w L).size > 1)) from rfl,q] at this;cases this
  refine c60 ?_;show wpAny _ _ (if (!t.led&&!(t0 w L).isEmpty)=true then unsupported "set:maker-not-led" else pure ()) _ _ _
  rw[b.1];rw[B];refine c61 ?_;rw[R];rw[(a0D ..)];rw[Y];rw[(l.at_ Y)];exact c61 (a (y.1+1) λ_=>⟨o,t,W,V,a81 l Y⟩)
theorem b1Z {J a:Nat} {Q:Option (Value×Nat)->Shared->Prop} (b:SI w S L J s.heap) (c:byT w=false->∃ o t,s.heap.get? S=some o/\o.data=.set (t0 w L) J t/\SetTable.below t.place a=L.length)
  (Y:Q none s):wpAny c8L A (setNext S a L.length J) Q E s:=by
 obtain ⟨⟨o,t,V,d,U,l,Z⟩⟩:=b;have W:(a03 w S J L).length=L.length:=by rw[((a45 w S J L).length_eq)];rw[c7K];rw[(s0 ..)];rfl
 refine c60 (G5 V U l ?_);refine c60 (a2d ?_);cases B:byT w with
 | true =>
  rw[(c7W (a2F _))];refine c60 (c60 (G5 V U l ?_));refine c60 (a2d ?_);rw[B];refine c60 (wpAny_askSetting (c61 ?_));unfold a03 at W;rw [if_pos B,Array.length_toList] at W;dsimp only;rw[(show c8L.w=w from rfl)];refine b9 (Array.getElem?_eq_none (by exact c7z W)) ?_
  exact c61 Y
 | false =>
  refine j9 (c B) λf g F R O=>?_;rw [V] at F;have e:=E0 F;clear F;subst e;rw [U] at R;cases R;simp only [Bool.false_eq_true,if_false];refine wpAny_ite_split (λq=>?_) (λ_=>?_)
  ·have q:(!t.plain&&decide ((t0 w L).size > 1))=true:=q;have:=Z.2;rw [B] at this;rw [show (!false&&(!t.plain&&decide ((t0 w L).size > 1)))=(!t.plain&&decide ((t0 w L).size > 1)) from rfl,q] at this;cases this
  refine c60 ?_;show wpAny _ _ (if (!t.led&&!(t0 w L).isEmpty)=true then unsupported "set:maker-not-led" else pure ()) _ _ _
  rw[Z.1];rw[B];refine c61 ?_;rw[O];rw[(a0D ..)];rw[(c7I (c7l _))];exact c61 Y
theorem b4K {x:Int×Value} {Q:Option Value->Shared->Prop} (hS:SI w S L ep s.heap) (hI:b1a w S I L ep i s.heap) (hx:(a03 w S ep L)[i]?=some x)
  (hne:S≠I) (hQ:∀ h',b1a w S I L ep (i+1) h'->Heap.ExtBut I s.heap h'->Q (some x.2) {s with heap:=h'}):wpAny c8L A (pyNext (.ref I)) Q E s:=by
 refine j5 hI λsl hi hb=>?_;clear hI;have hT:s.TypeIs (.ref I) "set_iterator":=⟨_,hi,rfl⟩;refine c60 (wpAny_attempt (wpAny_callSpecial?_slot (name:=Str.ofString "__next__") hT z5
  (c64 z5 hT T6 ?_ (V6 _))))
 refine c60 (c61 ?_);refine c60 (wpAny_fieldsOf hi rfl ?_);dsimp only;obtain ⟨⟨o,t,ho,hex,hd,l,md⟩⟩:=id hS;refine c60 (c60 (G5 ho hd l (c61 ?_)));rw[(s0 ..)];rw[(c7W (a2F _))];refine c60 (b10 hS hb hx λnx hnx=>?_);refine c60 (wpAny_setField hi rfl (by simp) ?_)
 have g1:=c7a (Obj.mapFields (·.setIfInBounds 0 (rawInt nx))) hi rfl;refine c60 (wpAny_setField g1 rfl (by simp [Obj.mapFields]) ?_)
 have g2:=c7a (Obj.mapFields (·.setIfInBounds 1 (rawInt ((i:Int)+1)))) g1 rfl;refine c61 ⟨_,rfl,c61 (hQ _ ⟨nx,g2,λq=>?_⟩ ((c7b ..).trans (c7b ..)).extBut)⟩;rw[(c69 _ _ hne.symm)];rw[(c69 _ _ hne.symm)];exact hnx q
theorem b6Q {Q:Option Value->Shared->Prop} (W:A.handled=none) (F:SI w S L ep s.heap) (B:b1a w S I L ep L.length s.heap)
  (O:∀ h',Heap.ExtBut I s.heap h'->Q none {s with heap:=h'}):wpAny c8L A (pyNext (.ref I)) Q E s:=by
 refine j5 B λc q R=>?_;clear B;have J:s.TypeIs (.ref I) "set_iterator":=⟨_,q,rfl⟩;refine c60 (wpAny_attempt (wpAny_callSpecial?_slot (name:=Str.ofString "__next__") J z5
  (c64 z5 J T6 ?_ (V6 _))))
 refine c60 (c61 ?_);refine c60 (wpAny_fieldsOf q rfl ?_);dsimp only;obtain ⟨⟨o,t,Y,V,U,l,Z⟩⟩:=id F;refine c60 (c60 (G5 Y U l (c61 ?_)));rw[(s0 ..)];rw[(c7W (a2F _))];refine c60 (b1Z F R ?_);refine c60 (wpAny_setField q rfl (by simp) ?_)
 show wpAny _ _ (newExc (.type "StopIteration") []>>=_) _ _ _;refine c60 (c60 (c66 ?_ (by size_fits)))
 refine c60 (m:=firstArgMember _ _) (wpAny_of_eq (a:=Value.none) (by first | rfl | (simp only [firstArgMember];rfl)) ?_)
 refine c66 ?_ (by size_fits)
 refine c60 (wpAny_handled ?_);rw[(show A.in1.handled=none from W)];refine c60 (c61 (wpAny_throw ?_));refine c60 (wpAny_isInstance (T:="StopIteration") (b:=true) ⟨_,c68 _ rfl,rfl⟩ isSubtype_stop ?_);exact c61 (O _ (((c7b ..).extBut.push _).push _))
theorem V9:Slot "set_iterator" "__iter__" "set_iterator.__iter__" :=
 .of (owner:="set_iterator") (n:="__iter__") (by rw[(typeLookup_type ..)];rw[builtinLookup_eq_fast];kernel_rfl) (by decide +kernel) (by decide +kernel) (by decide +kernel)
  (by first | exact .inl (by decide +kernel) | exact .inr (by decide +kernel)) (by rw[(isSubtype_type ..)];kernel_rfl)
theorem a1O:entryFor table "set_iterator.__iter__"=some Builtin.«dict_keyiterator.__iter__» :=
 entryFor_alias (id':="dict_keyiterator.__iter__") (by kernel_rfl) rfl (by decide +kernel) (by kernel_rfl)
theorem a2w (a:Value):argsOk "set_iterator.__iter__" ⟨[a],[]⟩:=by
 unfold argsOk;refine b9 (signature?_of (id:="set_iterator.__iter__") (n:=['_','_','r','e','t','i','_','_']) (o:=['r','o','t','a','r','e','t','i','_','t','e','s']) (by kernel_rfl) a50) ?_;kernel_rfl
variable {v:f5}
theorem a75 {r:Addr} {Q:Bool->Shared->Prop} (J:s.TypeIs (.ref r) "set") (h:Q false s):wpAny c8L A (Builtin.List.listLengthHint (.ref r)) Q E s:=by
 refine c60 (wpAny_specialOf J PySem.F.slot_set_len.lookup ?_);generalize B:("set.__len__":String)=O
 wp_delta
 rw[(show splitId O=some ("set","__len__") from by subst B;decide +kernel)]
 subst B;refine c60 (wpAny_isInstance (T:="set") (b:=true) J (by rw[(isSubtype_type ..)];kernel_rfl) ?_)
 refine wpAny_ite_split (λq=>c7Y q (by decide)) (λ_=>?_)
 refine wpAny_ite_split (λ_=>?_) (λq=>c7Y (by decide +kernel) q)
 refine c60 (wpAny_typeOf J ?_);exact c61 h
noncomputable def b4J (S n ep:Nat):Obj:={cls:=.type "set_iterator",data:=.fields #[.int (0:Nat) 0,.int (0:Nat) 0,.ref S,.int n 0,.int ep 0]}
theorem b4F (W:SI w S L ep s.heap)
  (V:Q (.ref s.heap.objs.size) {s with heap:=s.heap.push (b4J S L.length ep)}):wpAny c8L A (pyIter (.ref S)) Q E s:=by
 obtain ⟨⟨o,t,B,O,J,l,Y⟩⟩:=W;have R:s.TypeIs (.ref S) "set":=⟨o,B,O.1⟩;refine wpAny_pyIter_slot R PySem.F.slot_set_iter (c64 PySem.F.slot_set_iter R a1N ?_ (PySem.F.args_set_iter_1 _));unfold Builtin.«frozenset.__iter__» Builtin.Frozenset.slot0 slotArgs;simp only [List.isEmpty_nil,Bool.not_true,Bool.false_eq_true,↓reduceIte,bind_assoc,List.length_nil,bne_self_eq_false];refine c60 (c61 ?_)
 refine c60 (c61 ?_);have U:t.fits (t0 w L).size=true:=by rw[(s0 ..)];exact l.fits
 refine c60 (c60 (wpAny_setEntries_of B J U (c61 ?_)));refine c60 (c60 (G5 B J l ?_));refine c60 (a2d ?_);refine c61 (wpAny_ite_split (λq=>?_) (λ_=>?_))
 ·have q:(!byT w&&(!t.plain&&decide ((t0 w L).size > 1)))=true:=q;rw [Y.2] at q;cases q
 refine c60 (c61 ?_);refine c60 (wpAny_setEpoch_of B J U ?_);rw[(s0 ..)];refine c60 (c66 (c61 ⟨_,rfl,"set_iterator",_,⟨_,c68 _ rfl,rfl⟩,z5.lookup,?_⟩));exact V
theorem b6M (S:Addr) (L:List El) (ep:Nat):KdlSrc lc w "set" S S L.length (λi v=>∃ x,(a03 w S ep L)[i]?=some x/\v=x.2) (SI w S L ep) where
 type:=λ_ hm=>by obtain ⟨⟨o,_,ho,hex,_⟩⟩:=hm;exact ⟨o,ho,hex.1⟩
 there:=λ_ hm=>by obtain ⟨⟨_,_,ho,_⟩⟩:=hm;exact ⟨c7c ho,c7c ho⟩
 keep:=λ_ _ hm hk=>by obtain ⟨⟨o,t,ho,r⟩⟩:=hm;exact ⟨⟨o,t,hk S (.inl rfl) o ho,r⟩⟩
 notList:=by decide
 notTuple:=by decide
 hint:=λ_ _ _ _ hm hq=>by obtain ⟨⟨o,_,ho,hex,_⟩⟩:=hm;exact a75 ⟨o,ho,hex.1⟩ hq
 iter:=λA s hh hm=>by
  refine B0 hm.ex λo t ho hex hd l md=>?_;have hne:S≠s.heap.objs.size:=c7F (c7c ho);have frame:∀ i (h h':Heap),b1a w S s.heap.objs.size L ep i h/\SI w S L ep h->(∀ b∈[s.heap.objs.size,S],∀ o,h.get? b=some o->h'.get? b=some o)->b1a w S s.heap.objs.size L ep i h'/\SI w S L ep h':=λi h h' st hk=>by
   refine eA st λq2 q3=>?_;clear st;refine j5 q2 λsl hi hb=>?_;clear q2;obtain ⟨o,t,ho,r⟩:=q3;exact ⟨⟨sl,hk _ (by simp) _ hi,λq=>by refine A6 (hb q) λo t e r=>?_;exact ⟨o,t,hk S (by simp) _ e,r⟩⟩,⟨⟨o,t,hk S (by simp) _ ho,r⟩⟩⟩
  refine ⟨b4J S L.length ep,λi h=>b1a w S s.heap.objs.size L ep i h/\SI w S L ep h,λ_ _ hq=>b4F hm hq,⟨λb hb=>by simp at hb;simp [hb],frame,λi s' Q E hi st hQ=>?_,λs' Q E st hQ=>?_,λi s' Q E st hQ=>?_⟩,?_⟩
  ·have ol:(a03 w S ep L).length=L.length:=by rw[((a45 w S ep L).length_eq)];rw[c7K];rw[(s0 ..)];rfl
   have hx:=c7h (l:=a03 w S ep L) (i:=i) (by exact Nat.lt_of_lt_of_eq hi (id (Eq.symm ol)))
   refine b4K st.2 st.1 hx hne λh' st' he=>hQ _ h' s'.toks ⟨_,hx,rfl⟩ ⟨st',?_⟩ λb o hb e=>he b o (λh=>hb (by simp [h])) e
   obtain ⟨⟨o,t,ho,r⟩⟩:=st.2;exact ⟨⟨o,t,he S o hne ho,r⟩⟩
  ·exact b6Q hh st.2 st.1 λh' he=>hQ h' s'.toks λb o hb e=>he b o (λh=>hb (by simp [h])) e
  ·refine eA st λq1 _=>?_;clear st;refine j5 q1 λsl hi _=>?_;clear q1;have hT:s'.TypeIs (.ref s.heap.objs.size) "set_iterator":=⟨_,hi,rfl⟩;refine wpAny_pyIter_slot hT V9 (c64 V9 hT a1O ?_ (a2w _));exact c61 ⟨_,rfl,"set_iterator",_,hT,z5.lookup,hQ⟩
  ·refine ⟨⟨0,c68 _ rfl,λ_=>⟨o,t,c67 _ ho,hd,a82 l⟩⟩,⟨⟨o,t,c67 _ ho,hex,hd,l,md⟩⟩⟩
end
variable {k:Nat}{x:f5}{o:a0z}{v:f5}{a:Nat}{xs:List f5}{e:Ev}{j:Int}{ep:Nat}{K:Calls}
theorem a9N {α:Type} {l:List α} {x:α} (h:l[i]?=some x):(x :: l.eraseIdx i).Perm l:=by
 refine eE (c8r h) λq B=>?_;subst B;rw[(List.eraseIdx_eq_take_drop_succ ..)];refine (List.perm_middle (l₁:=List.take _ _)).symm.trans ?_;refine w3 (List.drop_eq_getElem_cons q) ?_;rw[(List.take_append_drop ..)];rfl
theorem b1n {M:Model} {α:Type}:∀ (n:Nat) (xs:List α) (s:Shared) (Q:List α->Shared->Prop),xs.length<=n->(∀ ys d,ys.Perm xs->Q ys {s with drawn:=d})->wpAny M A (drawOrder n xs) Q E s:=by
 intro n;induction n with
 | zero =>
  intro xs s Q B h;obtain rfl:xs=[]:=c7H (Nat.le_zero.mp B);exact c61 (h [] s.drawn (.refl _))
 | succ n J =>
  intro xs s Q B h;cases xs with
  | nil=>exact c61 (h [] s.drawn (.refl _))
  | cons x xs =>
   refine c60 (λΓ p _=>⟨Nat.succ_ne_zero _,?_⟩);generalize q:M.w.draws _ _ % (x :: xs).length=i;have q:i < (x :: xs).length:=q▸Nat.mod_lt _ (c7S _);have F:=c7h q;show wpAny M A _ Q E {s with drawn:=s.drawn.bump .order}
   rw[F];refine c60 (J _ _ _ (by rw[(List.length_eraseIdx_of_lt q)];simp only [List.length_cons] at B ⊢;exact Nat.pred_le_pred B) λys d e=>c61 (h _ d ((e.cons _).trans (a9N F))))
noncomputable def c0v (S T n ep i:Nat):Obj:={cls:=.type "set_iterator",data:=.fields #[.ref T,.int i 0,.ref S,.int n 0,.int ep 0]}
structure DIt (w:World) (S T I:Addr) (L:List El) (ps:List Nat) (ep i:Nat) (h:Heap):Prop where
 set:∃ o t,h.get? S=some o/\o.data=.set (t0 w L) ep t/\a0i w t L
 tup:∃ o,h.get? T=some o/\o.data=.seq (ps.map λ(j:Nat)=>Value.int j 0).toArray 0
 it:h.get? I=some (c0v S T L.length ep i)
theorem b27 {S T I:Addr} {ps:List Nat} (u:A.handled=none) (n:S≠I) (p:T≠I) (f:ps.Perm (List.range L.length)) :
  Walks lc w A I [I,S,T] [I] L.length (λi v=>∃ j x,ps[i]?=some j/\L[j]?=some x/\v=x.2.2) (DIt w S T I L ps ep) where
 sub:=λb F=>by simp only [List.mem_singleton] at F;subst F;exact c7j
 frame:=λi h C U k=>by
  obtain ⟨⟨o,t,O,r⟩,⟨Z,B,z⟩,e⟩:=U;exact ⟨⟨o,t,k S (by simp) _ O,r⟩,⟨Z,k T (by simp) _ B,z⟩,k I (by simp) _ e⟩
 item:=λi s Q E y U V=>by
  obtain ⟨⟨o,t,O,W,l⟩,⟨Z,B,J⟩,e⟩:=U;have q:s.TypeIs (.ref I) "set_iterator":=⟨_,e,rfl⟩;have Y:=c7h (l:=ps) (i:=i) (by rw[f.length_eq];rw[c70];exact y)
  generalize ps[i]'_=j at Y;have d:j < L.length:=c8D (f.mem_iff.mp (c7e Y));have g:=c7h d;refine c60 (wpAny_attempt (wpAny_callSpecial?_slot (name:=Str.ofString "__next__") q z5 (c64 z5 q T6 ?_ (V6 _))));refine c60 (c61 ?_);refine c60 (wpAny_fieldsOf e rfl ?_);dsimp only;refine c60 (c60 (G5 O W l (c61 ?_)))
  rw[(s0 ..)];rw[(c7W (a2F _))];refine c60 (wpAny_seqItems B J ?_);have R:(ps.map λ(j:Nat)=>Value.int j 0).toArray[(i:Int).toNat]?=some (.int j 0):=by simp [Y]
  dsimp only;rw[R];refine c60 (c60 (G5 O W l ?_));simp only [Int.toNat_natCast,bne_self_eq_false,Bool.false_eq_true,if_false];rw[(a0D ..)];rw[g];refine c61 (c60 (wpAny_setField e rfl (by simp) ?_))
  have c:=c7a (Obj.mapFields (·.setIfInBounds 1 (rawInt ((i:Int)+1)))) e rfl;refine c61 ⟨_,rfl,c61 (V _ _ s.toks ⟨j,_,Y,g,rfl⟩ ⟨⟨o,t,by rw[(c69 _ _ n.symm)];exact O,W,l⟩,⟨Z,by rw[(c69 _ _ p.symm)];exact B,J⟩,c⟩ λb o F e=>?_)⟩
  exact (c69 _ _ λh=>F (by simp [h])).trans e
 done:=λs Q E U V=>by
  obtain ⟨⟨o,t,O,W,l⟩,⟨Z,B,J⟩,e⟩:=U;have q:s.TypeIs (.ref I) "set_iterator":=⟨_,e,rfl⟩;refine c60 (wpAny_attempt (wpAny_callSpecial?_slot (name:=Str.ofString "__next__") q z5 (c64 z5 q T6 ?_ (V6 _))));refine c60 (c61 ?_);refine c60 (wpAny_fieldsOf e rfl ?_);dsimp only;refine c60 (c60 (G5 O W l (c61 ?_)));rw[(s0 ..)]
  rw[(c7W (a2F _))];refine c60 (wpAny_seqItems B J ?_);have R:(ps.map λ(j:Nat)=>Value.int j 0).toArray[(L.length:Int).toNat]?=none:=by simp [f.length_eq]
  dsimp only;rw[R];refine c60 (wpAny_setField e rfl (by simp) ?_)
  have c:=c7a (Obj.mapFields (·.setIfInBounds 0 (rawInt 0))) e rfl;refine c60 (wpAny_setField c rfl (by simp [Obj.mapFields,c0v]) ?_)
  show wpAny _ _ (newExc (.type "StopIteration") []>>=_) _ _ _;refine c60 ?_;simp only [newExc,newTuple];refine c60 (c66 ?_ (by size_fits))
  refine c60 (m:=firstArgMember _ _) (wpAny_of_eq (a:=Value.none) (by first | rfl | (simp only [firstArgMember];rfl)) ?_)
  refine c66 ?_ (by size_fits)
  refine c60 (wpAny_handled ?_);rw[(show A.in1.handled=none from u)];refine c60 (c61 (wpAny_throw ?_));refine c60 (wpAny_isInstance (T:="StopIteration") (b:=true) ⟨_,c68 _ rfl,rfl⟩ isSubtype_stop ?_);refine c61 (V _ s.toks λb o F e=>?_);have F:I≠b:=λh=>F (by simp [h])
  exact c67 _ (c67 _ ((c69 _ _ F).trans ((c69 _ _ F).trans e)))
 self:=λi s Q E U V=>by
  have q:s.TypeIs (.ref I) "set_iterator":=⟨_,U.it,rfl⟩;refine wpAny_pyIter_slot q V9 (c64 V9 q a1O ?_ (a2w _));exact c61 ⟨_,rfl,"set_iterator",_,q,z5.lookup,V⟩
theorem a65 (z:A.handled=none) (K:L.length < 64)
  (a:∃ o B t,s.heap.get? S=some o/\o.ExactSet/\o.data=.set (t0 w L) B t/\a0i w t L/\t.led=!byT w)
  (r:∀ I p P St h' d,Walks lc w A I p [I] L.length P St->St 0 h'->(∀ b o,s.heap.get? b=some o->h'.get? b=some o)->s.heap.get? I=none->(∀ b∈p,b=S\/s.heap.get? b=none)->(∀ acc,ItemsOf P acc L.length->acc.toList.Perm (L.map (·.2.2)))->Q (.ref I) {s with heap:=h',drawn:=d}) :
  wpAny c8L A (pyIter (.ref S)) Q E s:=by
 refine a7R a λo B t J Z Y l N=>?_;clear a;by_cases q:(!byT w&&(!t.plain&&decide ((t0 w L).size > 1)))=true
 ·have u:s.TypeIs (.ref S) "set":=⟨o,J,Z.1⟩;refine wpAny_pyIter_slot u PySem.F.slot_set_iter (c64 PySem.F.slot_set_iter u a1N ?_ (PySem.F.args_set_iter_1 _));unfold Builtin.«frozenset.__iter__» Builtin.Frozenset.slot0 slotArgs;simp only [List.isEmpty_nil,Bool.not_true,Bool.false_eq_true,↓reduceIte,bind_assoc,List.length_nil,bne_self_eq_false];refine c60 (c61 ?_);refine c60 (c61 ?_)
  have y:t.fits (t0 w L).size=true:=by rw[(s0 ..)];exact l.fits
  refine c60 (c60 (wpAny_setEntries_of J Y y (c61 ?_)));refine c60 (c60 (G5 J Y l ?_));refine c60 (a2d ?_);refine c61 (wpAny_ite_split (λ_=>?_) (λT=>c7Y q T));refine c60 ?_;rw[(s0 ..)];refine (b1n _ (List.range L.length) _ _ (by rw[c70];exact c7l _) λf d O=>?_)
  refine c60 (wpAny_newTuple ?_ (by rw[(c7f ..)];rw[O.length_eq];rw[c70];rw[sizeLine_eq];exact zo9 K))
  have n:∀ (b:Addr) (o:Obj),s.heap.get? b=some o->(s.heap.push {cls:=.type "tuple",data:=.seq (f.map λ(j:Nat)=>rawInt j).toArray}).get? b=some o:=λb o e=>c67 _ e;refine c60 (wpAny_setEpoch_of (n _ _ J) Y y ?_);have R:∀ k,s.heap.get? (s.heap.objs.size+k)=none:=λk=>by
   cases e:s.heap.get? (s.heap.objs.size+k) with
   | none=>rfl
   | some o=>exact c7Y (c7c e) (Nat.not_lt.mpr (c7B _ _))
  have c:(s.heap.push {cls:=.type "tuple",data:=.seq (f.map λ(j:Nat)=>rawInt j).toArray}).objs.size=s.heap.objs.size+1:=Heap.size_push ..;refine c60 (c66 (c61 ⟨_,rfl,"set_iterator",_,⟨_,c68 _ rfl,rfl⟩,z5.lookup,?_⟩));have a:S < s.heap.objs.size:=c7c J;refine r _ [_,S,s.heap.objs.size] _ (DIt w S s.heap.objs.size _ L f B) _ d (b27 z (by show S≠_;rw[c];exact c7F (c8n a)) (by show s.heap.objs.size≠_;rw[c];exact c7F (c7y _)) O) ⟨⟨o,t,c67 _ (n _ _ J),Y,l⟩,⟨_,c67 _ (c68 _ rfl),rfl⟩,c68 _ rfl⟩
   (λb o e=>c67 _ (n _ _ e)) (by show s.heap.get? (Heap.push ..).objs.size=none;rw[c];exact R 1) (λb V=>?_) λacc U=>?_
  ·simp only [List.mem_cons,List.not_mem_nil,or_false] at V;rcases V with rfl | rfl | rfl
   ·right;show s.heap.get? (Heap.push ..).objs.size=none;rw[c];exact R 1
   ·exact .inl rfl
   ·exact .inr (R 0)
  ·have e:acc.toList=f.map λj=>(L.map (·.2.2)).getD j .none:=by
    apply List.ext_getElem?;intro i;rw[c7V];rw[c7m];cases D:acc[i]? with
    | none =>
     have:L.length<=i:=by refine w3 U.1 ?_;exact Array.getElem?_eq_none_iff.mp D
     refine b9 (c7I (by rw[O.length_eq];rw[c70];exact this)) ?_;rfl
    | some v =>
     refine j9 (U.2 i v D) λj x g H q2=>?_;subst q2;rw[g];rw[(Option.map_some ..)];rw[c7w];rw[c7m];rw[H];rfl
   rw[e];refine (O.map _).trans (List.Perm.of_eq ?_);apply List.ext_getElem?;intro i;simp only [List.getElem?_map];by_cases C:i < L.length
   ·simp [C]
   ·simp [C]
 ·have M:SI w S L B s.heap:=⟨⟨o,t,J,Z,Y,l,N,eq_false_of_ne_true q⟩⟩;refine j9 ((b6M S L B).iter A s z M) λoI St h W st=>?_;have R:s.heap.get? s.heap.objs.size=none:=by
   cases e:s.heap.get? s.heap.objs.size with
   | none=>rfl
   | some o=>exact c7Y (c7c e) (c7J _)
  refine h _ _ (r _ _ _ _ _ s.drawn W st (λb o e=>c67 _ e) R (λb V=>?_) λacc U=>?_)
  ·simp only [List.mem_cons,List.not_mem_nil,or_false] at V;rcases V with rfl | rfl
   ·exact .inr R
   ·exact .inl rfl
  ·have O:=a45 w S B L;have G:acc.toList=(a03 w S B L).map (·.2):=by
    apply List.ext_getElem?;intro i;rw[c7m];rw[c7V];have m:(a03 w S B L).length=L.length:=by rw[O.length_eq];rw[c7K];rw[(s0 ..)];rfl
    cases q:acc[i]? with
    | none =>
     have:L.length<=i:=by refine w3 U.1 ?_;exact Array.getElem?_eq_none_iff.mp q
     rw[(c7I (by exact le_of_eq_of_le m this))];rfl
    | some v =>
     refine j5 (U.2 i v q) λx g X=>?_;subst X;rw[g];rfl
   rw[G];refine (O.map _).trans ?_;show ((L.map λx=>(o7 w x.2.1,x.2.2)).map _).Perm _;rw[c7U];exact List.Perm.refl _
theorem a34 {R:List Value->Shared->Prop} (H:A.handled=none) (u:L.length < 64)
  (p:∃ o a t,s.heap.get? S=some o/\o.ExactSet/\o.data=.set (t0 w L) a t/\a0i w t L/\t.led=!byT w)
  (h:∀ h' tk d vs,(∀ b o,s.heap.get? b=some o->h'.get? b=some o)->vs.Perm (L.map (·.2.2))->R vs {s with heap:=h',toks:=tk,drawn:=d}):wpAny c8L A (collect (.ref S)) R E s:=by
 refine a0M p λo a t v B r=>?_;clear p;have q:S < s.heap.objs.size:=c7c v;refine c60 (wpAny_runValue (codeAny_builtin entry_proto_collect' ?_));rw[(Around.under_plainId PySem.F.plain_proto_collect _)];show wpAny _ A.in1 (PySem.newList []>>=λl=>again (.builtin "list.__iadd__" ⟨[l,.ref S],[]⟩)) _ _ s;refine c60 (c66 ?_);refine c61 ⟨plainId_quiet PySem.F.plain_list_iadd _,codeAny_builtin entry_list_iadd' ?_⟩
 rw[(Around.under_plainId PySem.F.plain_list_iadd _)];have n:(s.heap.push {cls:=.type "list",data:=.seq ([]:List Value).toArray}).get? s.heap.objs.size=some {cls:=.type "list",data:=.seq #[]}:=c68 _ rfl;have J:=c67 {cls:=.type "list",data:=.seq ([]:List Value).toArray} v;show wpAny _ A.in1 (Builtin.List.listExtendWith (.ref s.heap.objs.size) (.ref S) (.ref s.heap.objs.size)) _ _ _
 refine c60 (wpAny_typeOf (T:="set") ⟨o,J,B.1⟩ ?_);have z:Builtin.List.listSameRef (.ref s.heap.objs.size) (.ref S)=false:=by simp [Builtin.List.listSameRef,Ne.symm (Nat.ne_of_lt q)]
 have C:(Value.type "set"==Value.type "list")=false:=by decide
 have D:(Value.type "set"==Value.type "tuple")=false:=by decide
 simp only [z,C,D,Bool.or_false,Bool.false_eq_true,if_false];refine c60 (a65 H u ⟨o,a,t,J,B,r⟩ λI x P St h' d W M k G f K=>?_);refine c60 (c63 (a75 ⟨o,k _ _ J,B.1⟩ ?_));have U:s.heap.objs.size∉x:=λZ=>by
  rcases f _ Z with e | e
  ·exact c7Y q (e▸c7J _)
  ·rw [n] at e;cases e
 rw[(c7X (by decide))]
 refine c60 (wpAny_rule (c60 ?_));have j:=k _ _ n;refine c60 (wpAny_updateSeq j rfl ?_);have m:=c7a (Obj.mapSeq (·.push Value.none)) j rfl;refine wpAny_updateSeq (hz:=by seq_fits) m rfl ?_
 have y:=c7a (Obj.mapSeq (·.pop)) m rfl;have Y:∀ (b:Addr) (o:Obj),b≠s.heap.objs.size->h'.get? b=some o->((h'.update s.heap.objs.size (Obj.mapSeq (·.push Value.none))).update s.heap.objs.size (Obj.mapSeq (·.pop))).get? b=some o:=λb o O e =>
  (c69 _ _ (Ne.symm O)).trans ((c69 _ _ (Ne.symm O)).trans e)
 refine c61 ⟨plainId_quiet PySem.F.plain_extend_loop _,codeAny_extend_loopS W.toS (by rw[sizeLine_eq];exact zo9 u) _ U _ L.length 0 _ #[] _ rfl (c7q _) (W.frame 0 _ _ M λb O o e=>Y b o (λh=>U (h▸O)) e) y (ItemsOf.nil _) λQ g N Z c V=>?_⟩
 refine c60 (wpAny_load c ?_);rw[(Moved.eq_with Z)];refine c61 (h _ _ d _ (λb o e=>Z.heap b o (λO=>?_) (Y b o (c7F (c7c e)) (k _ _ (c67 _ e)))) (K _ V));have q:=c7c e;rcases c8z O with h | h
 ·exact c7Y q (h▸c7J _)
 ·cases c8x h;have i:(s.heap.push {cls:=.type "list",data:=.seq ([]:List Value).toArray}).get? I=none:=G;rw [Heap.get?_push_of_some _ e] at i;cases i
section
variable {Q:v9}{α β:Type}{n:Nat}
noncomputable def a0y (n:Nat) (P:α->Prop):KasT α->Prop
 | .ret a=>P a
 | .ask i j k=>i < n/\j < n/\∀ b,a0y n P (k b)
theorem Z9 {P:β->Prop} {f:α->KasT β}:∀ t:KasT α,a0y n (λa=>a0y n P (f a)) t->a0y n P (t.bind f)
 | .ret _,h=>h
 | .ask _ _ k,h=>⟨h.1,h.2.1,λb=>Z9 (k b) (h.2.2 b)⟩
theorem a0a {P Q:α->Prop} (q:∀ a,P a->Q a):∀ t:KasT α,a0y n P t->a0y n Q t
 | .ret a,h=>q a h
 | .ask _ _ k,h=>⟨h.1,h.2.1,λb=>a0a q (k b) (h.2.2 b)⟩
theorem b0B {P:α->Prop} {Q:α->Shared->Prop} {q:Nat->Nat->(Bool->Shared->Prop)->Shared->Prop} (B:∀ i j C,i < n->j < n->(∀ b,C b s)->q i j C s) (F:∀ a,P a->Q a s):∀ t:KasT α,a0y n P t->t.kasWp q Q s
 | .ret a,h=>F a h
 | .ask i j k,h=>B i j _ h.1 h.2.1 λb=>b0B B F (k b) (h.2.2 b)
noncomputable abbrev PnR (n:Nat) (p:Array Nat):Prop:=p.Perm (List.range n).toArray
theorem a2B (h:PnR n p) (h0:0 < n) (i:Nat):p.getD i 0 < n:=by
 unfold Array.getD
 split
 ·rename_i q;have:p[i]∈p.toList:=Array.mem_toList_iff.mpr (Array.getElem_mem q);exact c8D ((Array.perm_iff_toList_perm.mp h).mem_iff.mp this)
 ·exact h0
theorem O3 {P:α->Prop} {p:Prop} [Decidable p] {x y:KasT α} (q:a0y n P x) (B:a0y n P y):a0y n P (if p then x else y):=by
 by_cases h:p
 ·rw[(c7X h)];exact q
 ·rw[(c7W h)];exact B
theorem a79 (h:PnR n p) (h0:0 < n):∀ f m,a0y n (λ_=>True) (kas_asc p f m):=by
 intro f;induction f with
 | zero=>exact λ_=>trivial
 | succ f q=>exact λm=>⟨a2B h h0 _,a2B h h0 _,λb=>O3 trivial (q _)⟩
theorem a47 {i j:Nat} (h:PnR n p):PnR n (kas_rev p i j):=(mirror_perm _ _ _ _).trans h
theorem b1F (h0:0 < n):∀ f p m q,PnR n p->a0y n (λr:Array Nat×Nat×Nat=>PnR n r.1) (kas_desc f p m q):=by
 intro f;induction f with
 | zero=>exact λ_ _ _ h=>h
 | succ f B=>exact λp m q h=>⟨a2B h h0 _,a2B h h0 _,λb=>O3 (O3 (B _ _ _ (a47 h)) (B _ _ _ h)) ⟨a2B h h0 _,a2B h h0 _,λb=>O3 h (B _ _ _ h)⟩⟩
theorem a4S (h0:0 < n) (h:PnR n p):a0y n (λr:Nat×Array Nat=>PnR n r.2) (kas_tail3 m k p) :=
 Z9 _ (a0a (λ_ _=>a47 h) _ (a79 (a47 h) h0 _ _))
theorem a2y (h0:0 < n) (h:PnR n p):a0y n (λr:Nat×Array Nat=>PnR n r.2) (kas_descPart m k p) :=
 Z9 _ (a0a (λr q=>O3 (a4S h0 (a47 q)) (a4S h0 q)) _ (b1F h0 _ _ _ _ h))
theorem a9v (h0:0 < n) (h:PnR n p):a0y n (λr:Nat×Array Nat=>PnR n r.2) (kas_count k p):=by
 have q:∀ m,a0y n (λr:Nat×Array Nat=>PnR n r.2) (KasT.ret (m,p)):=λ_=>h;refine Z9 _ (a0a (λm _=>?_) _ (a79 h h0 _ _));show a0y n _ (ite _ _ _);exact O3 (q _) (O3 ⟨a2B h h0 _,a2B h h0 _,λb=>O3 (q _) (a2y h0 (a47 h))⟩ (a2y h0 h))
theorem a9w (h0:0 < n) (h:PnR n p):∀ f l r,a0y n (λ_=>True) (kas_place p k f l r):=by
 intro f;induction f with
 | zero=>exact λ_ _=>trivial
 | succ f q=>exact λl r=>O3 trivial ⟨a2B h h0 _,a2B h h0 _,λb=>O3 (q _ _) (q _ _)⟩
theorem b3H (h0:0 < n):∀ f p k,PnR n p->a0y n (PnR n) (kas_bin f p k):=by
 intro f;induction f with
 | zero=>exact λ_ _ h=>h
 | succ f q=>exact λp k h=>Z9 _ (a0a (λl _=>q _ _ ((bubble_perm _ _ _).trans h)) _ (a9w h0 h _ _ _))
theorem b1G (h0:0 < n):a0y n (PnR n) (kas_sort n):=by
 refine Z9 _ (a0a (λr q=>?_) _ (a9v h0 (.refl _)));show a0y n _ (ite _ _ _);exact O3 (b3H h0 _ _ _ q) (show a0y n (PnR n) (KasT.ret r.2) from q)
end
variable {Q:v9}
set_option backward.match.sparseCases true in
theorem b4M {a:Addr} {vs:List Value} {n:Nat} {P:PySem.Fin->Shared->Prop} (d:s.heap.get? a=some (seqObj "list" vs.toArray n)) (O:vs.length < 64)
  (h:∀ q:List Value,q.Perm vs->P (.done (.ret .none)) {s with heap:=sortedHeap s.heap a vs q.toArray})
  (k:∀ h',(∀ b o,b≠a->s.heap.get? b=some o->h'.get? b=some o)->2<=vs.length->wpAny c8L A (keyKind' vs.toArray) (λκ B=>B={s with heap:=h'}/\∀ i j C,i < vs.length->j < vs.length->(∀ b,C b B)->kas_ask lc w A κ vs i j C B) E {s with heap:=h'}) :
  wpAny c8L A (Builtin.«list.sort» ⟨[.ref a],[]⟩) P E s:=by
 have G:a < s.heap.objs.size:=c7c d;obtain ⟨R,Y⟩:∃ R,(s.heap.update a (Obj.mapSeq λ_=>(#[]:Array Value))).get? a=some (seqObj "list" #[] R):=⟨_,get?_update_seq d λ_=>#[]⟩;have Z:(((s.heap.update a (Obj.mapSeq λ_=>#[])).push (seqObj "tuple" vs.toArray 0)).push (seqObj "list" #[] 0)).get? a=some (seqObj "list" #[] R):=c67 _ (c67 _ Y)
 have k:=k (((s.heap.update a (Obj.mapSeq λ_=>(#[]:Array Value))).push (seqObj "tuple" vs.toArray 0)).push (seqObj "list" #[] 0)) λb o v e=>c67 _ (c67 _ (by rw[(c69 _ _ (Ne.symm v))];exact e))
 rw[(list_sort_plain ..)];refine c60 (listItems_at d rfl (c60 (listUpdate_at d rfl (c60 (seqEpoch_at Y rfl (c60 (wpAny_newTuple (c60 (wpAny_newList (c63 ?_) (c7q _))) (by show vs.length<=_;rw[sizeLine_eq];exact zo9 O))))) (by rw[c8l];rw[sizeLine_eq];exact zo9 O) (c7q _))))
 dsimp only;have W:∀ (c:SortSt) (q:List Value),(arrOf c).map (·.2)=q.toArray->failedOf c=none->q.Perm vs->∀ B,B={s with heap:=((s.heap.update a (Obj.mapSeq λ_=>#[])).push (seqObj "tuple" vs.toArray 0)).push (seqObj "list" #[] 0)}->wpAny c8L A (do
   let J:=(<- seqEpoch a) != R
   Builtin.List.listUpdate (.ref a) λ_=>(arrOf c).map (·.2)
   if let some e:=failedOf c then rule "list.sort.comparison-raised";throw e
   if J then rule "list.sort.modified";raiseError "ValueError" "list modified during sort"
   ret .none) P E B:=λc q R u l B e=>by
  subst e;refine c60 (seqEpoch_at Z rfl ?_);refine c60 (listUpdate_at Z rfl ?_ (c7q _) (by rw[R];rw[c8l];rw[l.length_eq];rw[sizeLine_eq];exact c7g (c74 O) (c7d rfl)))
  rw[u];rw[(c7W (a2F _))];refine c61 ?_;rw[R];exact h q l
 by_cases V:vs.toArray.size < 2
 ·rw[(c7X V)];rw[(c7X V)];refine c60 (c61 ?_);rw[(StateT.run_pure ..)];refine c60 (c61 ?_);exact W (SortSt.mk' general' (vs.toArray.zip vs.toArray) #[] 7 none) vs (by show (vs.toArray.zip vs.toArray).map (·.2)=_;rewrite [<- Array.toList_inj];rw[Array.toList_map];rw[Array.toList_zip];(rewrite [List.map_snd_zip];try rfl);exact c7l _) rfl (.refl _) _ rfl
 ·have U:2<=vs.length:=by rw [List.size_toArray] at V;exact Nat.not_lt.mp V
  rw[(c7W V)];rw[(c7W V)];refine c60 (c62 (k U) (λκ B m=>?_) λ_ _ x=>x);refine eA m λe y=>?_;clear m;subst e;refine c60 (c62 (kat_run (Q:=λF B=>∃ p:Array Nat,arrOf F=p.map (kas_item (vs.toArray.zip vs.toArray))/\failedOf F=none/\PnR vs.length p/\B=_) rfl U O (λp F B _ f g t=>⟨p,f,g,t⟩) (b0B y (λp D=>⟨D,rfl⟩) _ (b1G (by exact Nat.zero_lt_of_lt U)))) ?_ λ_ _ e=>e)
  rintro ⟨⟨⟩,F⟩ B ⟨p,r,f,g,e⟩
  exact W F _ (kat_snds rfl r) f (((Array.perm_iff_toList_perm.mp g).map _).trans (List.Perm.of_eq (by apply List.ext_getElem?;intro i;simp only [List.getElem?_map];by_cases z:i < vs.length <;> simp [z,List.getD_eq_getElem?_getD]))) B e
noncomputable abbrev OLt (lc:Program) (w:World) (A:Around) (s:Shared) (o:Bool) (u v:Value):Prop:=∀ (Q:Bool->Shared->Prop) (E:Value->Shared->Prop),(∀ b,Q b s)->wpAny (model lc w) A (oneLt' o u v) Q E s
theorem b6p {o:Bool} {i j:Int} {t u:Tok}:OLt lc w A s o (.int i t) (.int j u):=λQ E q=>by
 cases o
 ·exact kat_one _ _ (PySem.P.lt_int (q _))
 ·exact oneLt_int (q _)
noncomputable abbrev PI (p:Value×Value):Prop:=∃ a t b t',p=(.int a t,.int b t')
noncomputable abbrev AI (us:List Value):Prop:=∀ u∈us,∃ a t,u=.int a t
theorem b9t {us vs:List Value} (J:AI us) (O:AI vs):∀ p∈us.zip vs,PI p:=λp q=>by
 exact eEE (J _ (List.of_mem_zip (a:=p.1) (b:=p.2) q).1) λa t B=>eEE (O _ (List.of_mem_zip (a:=p.1) (b:=p.2) q).2) λb R F=>⟨a,t,b,R,Prod.ext B F⟩
theorem b90:∀ {l:List f5} {us:List Value},b5D l=true->m4 G h l us->AI us:=by
 intro l;induction l with
 | nil=>intro us _ r;cases a1a r;exact λu B=>nomatch B
 | cons x l J =>
  intro us k r;refine j9 (F9 r) λu us V Y q=>?_;subst V;refine eA (c8u k) λO R=>eE (W6 (c8j O)) λi W=>?_;subst W;refine eE (J0 Y) λt U=>?_;subst U;exact λv F=>(c8z F).elim (λe=>⟨i,t,e⟩) (J R q v)
theorem b3C {B:Bool} {Q:Bool->Shared->Prop} (q:∀ b,Q b s):∀ (l:List (Value×Value)) (i:Nat),(∀ p∈l,PI p)->KatLex lc w A true B Q l i s:=by
 intro l;induction l with
 | nil=>exact λ_ _=>kat_nil (q _)
 | cons p l J =>
  intro i h;obtain ⟨a,t,b,O,rfl⟩:=h p c7j;exact kat_cons (wpAny_eqBool_int (kat_go (λ_=>kat_yes (J _ λp F=>h p (c7i _ F))) λ_=>kat_no (b6p _ _ q)))
section
open Classical
variable {items:Array Value}
theorem b5g:∀ {xs:List f5} {us:List Value} (i:Nat) {v:Value},m4 G h xs us->us[i]?=some v->∃ x,xs[i]?=some x/\j7 G h x v:=by
 intro xs;induction xs with
 | nil=>intro _ i _ r e;replace r:=a1a r;subst r;cases e
 | cons y xs q =>
  intro _ i v r e;replace r:=F9 r;refine j9 r λu us F J O=>?_;clear r;subst F;cases i with
  | zero=>have B:=E0 e;clear e;subst B;exact ⟨y,rfl,J⟩
  | succ i=>exact q i O e
theorem b1Y {K:f5->Bool} {a:Addr} (B:h.get? a=some (a41 w)):a0j w G K h a [] :=
 ⟨⟨_,0,_,B,⟨rfl,rfl,rfl⟩,rfl,⟨⟨.nil,.nil,.inl ⟨rfl,c7q _⟩,(λx q=>nomatch q),(λx q=>nomatch q)⟩,rfl,rfl⟩,rfl⟩,λx q=>nomatch q⟩
structure Itb (lc:Program) (w:World) (T:String) (h:Heap) (a:Addr) (items:Array Value):Prop where
 at_:∃ o,h.get? a=some o/\o.cls=.type T
 noSet:isSubtype (.type T) (.type "set")=pure false
 noFz:isSubtype (.type T) (.type "frozenset")=pure false
 noDict:(Value.type T==Value.type "dict")=false
 iter:∀ (A:Around) (s:Shared),A.handled=none->(∀ b o,h.get? b=some o->s.heap.get? b=some o)->∃ (oI:Obj) (St:Nat->Heap->Prop),
  (∀ (B:Around) (E:Value->Shared->Prop) (Q:Value->Shared->Prop),Q (.ref s.heap.objs.size) {s with heap:=s.heap.push oI}->wpAny (model lc w) B (pyIter (.ref a)) Q E s) /\
  Walks lc w A s.heap.objs.size [s.heap.objs.size,a] [s.heap.objs.size] items.size (λi v=>items[i]?=some v) St/\St 0 (s.heap.push oI)
theorem b3F {a:Addr} (O:h.IsList a items):Itb lc w "list" h a items where
 at_:=by refine y4 O λo J R _=>?_;clear O;exact ⟨o,J,R⟩
 noSet:=PySem.F.sub_list_set
 noFz:=PySem.F.sub_list_frozenset
 noDict:=by decide
 iter:=λA s U k=>by
  have B:s.heap.IsList a items:=by refine j5 O λo J r=>?_;clear O;exact ⟨o,k _ _ J,r⟩
  exact j5 (id B) λo J _=>⟨_,_,λ_ _ _ q=>wpAny_pyIter_list B q,Walks.list U _ a (c7F (c7c J)) items,⟨_,c68 _ rfl,rfl,rfl⟩,B.push _⟩
theorem b57 {a:Addr} (O:IsTup h a items):Itb lc w "tuple" h a items where
 at_:=by refine y4 O λo J R _=>?_;clear O;exact ⟨o,J,R⟩
 noSet:=PySem.F.sub_tuple_set
 noFz:=PySem.F.sub_tuple_frozenset
 noDict:=by decide
 iter:=λA s U k=>by
  have B:s.heap.IsTuple a items:=by refine j5 O λo J r=>?_;clear O;exact ⟨o,k _ _ J,r⟩
  exact j5 (id B) λo J _=>⟨_,_,λ_ _ _ q=>wpAny_pyIter_tuple B q,Walks.tuple U _ a (c7F (c7c J)) items,⟨_,c68 _ rfl,rfl,rfl⟩,B.push _⟩
theorem b4H {K:f5->Bool} {T:String} {a:Addr} {xs D:List f5} {Q:Value->Shared->Prop} (X:∀ v,K v=true->G6 7 v=true) (add:a7m lc w G K) (L:A.handled=none) (N:A.units+110 < cLine)
  (src:Itb lc w T s.heap a items) (r:m4 G s.heap xs items.toList) (k:∀ v∈xs,K v=true) (H:D.length<=17) (l:∀ v∈xs,v∈D)
  (h:∀ Y h' tk,a0j w G K h' s.heap.objs.size Y->(∀ v,v∈Y.map (·.2.1)↔v∈xs)->(∀ b o,s.heap.get? b=some o->h'.get? b=some o)->Q (.ref s.heap.objs.size) {s with heap:=h',toks:=tk}) :
  wpAny c8L A (call (.type "set") [.ref a]) Q E s:=by
 refine b1h λs₁ e=>?_;subst e;have d:(s.heap.push (a41 w)).get? s.heap.objs.size=some (a41 w):=c68 _ rfl;have I:Shared.TypeIs {s with heap:=s.heap.push (a41 w)} (.ref s.heap.objs.size) "set":=⟨_,d,rfl⟩
 refine j5 src.at_ λol U R=>?_;obtain ⟨u,O,J,B⟩:=ol;simp only at R;subst R;have V:(s.heap.push (a41 w)).get? a=some {cls:=.type T,dict:=O,data:=J,slots:=B}:=c67 _ U;have t:=src.noSet;have p:=src.noFz;have M:=src.noDict;have F:=src.iter A.in1.in1.in1 {s with heap:=s.heap.push (a41 w)} L λb o e=>c67 _ e
 unfold a41 at d I V F ⊢;unfold Builtin.«set.__init__» noKeywords Builtin.Frozenset.updateFrom;generalize c:pyIter=PI
 wp_walk
 subst c;have q:(s.heap.push {cls:=.type "set",dict:=none,data:=.set #[] 0 (.fresh 0 0 (!byT w))}).objs.size=s.heap.objs.size+1:=Heap.size_push ..;have j:a < s.heap.objs.size:=c7c U;refine j9 F λoI St pi W st=>?_;clear F;refine pi _ _ _ (c60 (wpAny_runValue ?_));have f:s.heap.objs.size∉[(s.heap.push {cls:=.type "set",dict:=none,data:=.set #[] 0 (.fresh 0 0 (!byT w))}).objs.size,a]:=by
  rw[q];simp only [List.mem_cons,List.not_mem_nil,or_false,not_or];exact ⟨c7F (c7y _),Nat.ne_of_gt j⟩
 have xl:xs.length=items.size:=by rw[r.length];rw[c7K];rfl
 refine b4G (K:=K) (xs:=xs) (h0:=s.heap) (D:=D) X add (by show A.units+1+1+100 < cLine;exact c1V N) W.toS s.heap.objs.size f xl k (λi v P=>b5g i r (by rw[c7V];exact P)) (λb o e g=>?_) H l (items.size - 0) 0 _ [] rfl (c7q _) st
  (b1Y (c67 _ d)) (λx k=>nomatch k) (λv=>by simp) (λb o e=>c67 _ (c67 _ e)) λs' Y Z y S=>?_
 ·have:=c7c e;rw [q] at g;simp only [List.mem_cons,List.not_mem_nil,or_false] at g;rcases g with rfl | rfl
  ·exact c7J _ this
  ·exact c7Y this (Nat.not_lt_of_lt (c7y _))
 ·obtain ⟨h',C,z,n,m⟩:=s';obtain rfl:C=s.gens:=Z.gens;obtain rfl:z=s.drawn:=Z.drawn;obtain rfl:m=s.os:=Z.os;refine c61 (c61 ⟨rfl,h Y h' n y S λb o e=>Z.heap b o ?_ (c67 _ (c67 _ e))⟩);have:=c7c e;rw[q];simp only [List.mem_cons,List.not_mem_nil,or_false,not_or];exact ⟨c7F this,c7F (c8n this)⟩
theorem a8H {K:f5->Bool} {xs D:List f5} (Z:∀ v,K v=true->G6 7 v=true) (add:a7m lc w G K) (F:AOk n m A) (R:c8J H s.heap) (r:j7 G s.heap v u) (e:a14 H v xs) (Y:∀ v∈xs,K v=true) (V:D.length<=17) (B:∀ v∈xs,v∈D) {Q:Value->Shared->Prop}
  (h:∀ q h' tk,a0j w G K h' s.heap.objs.size q->(∀ v,v∈q.map (·.2.1)↔v∈xs)->c8T S5 H s H {s with heap:=h',toks:=tk}->Q (.ref s.heap.objs.size) {s with heap:=h',toks:=tk}):wpAny c8L A (call (.type "set") [u]) Q D7 s:=by
 have W:A.units+110 < cLine:=by have:=F.units;exact c7k (c7x (c7d rfl) _) this
 rcases e with rfl | ⟨a,rfl,e⟩
 ·refine j9 (Y0 r) λa d U t c=>?_;subst U;exact b4H Z add F.h W (b57 t) c Y V B λq h' tk S O J=>h q h' tk S O (.kept R J)
 ·cases U8 r;exact A6 (R.objs _ _ e) λd k b r=>b4H Z add F.h W (b3F ⟨_,b,rfl,k,rfl⟩) r Y V B λq h' tk S O J=>h q h' tk S O (.kept R J)
theorem a8K (l:List Int):(T0 l).Pairwise λa b=>a<=b :=
 (List.pairwise_mergeSort (le:=λa b:Int=>decide (a<=b)) (λa b c q B=>c76 (c8a (c7n q) (c7n B))) (λa b=>by have:=Int.le_total a b;simpa using this) l).imp c7n
theorem a1s (l:List Int):(T0 l).Perm l:=List.mergeSort_perm _ _
noncomputable def a76:f5->Int
 | .int i=>i
 | _=>0
noncomputable def vint?:Value->Int
 | .int i _=>i
 | _=>0
theorem b3B:∀ {us:List Value},(∀ v∈us,∃ i t,v=.int i t)->IntsAre us (us.map vint?):=by
 intro us;induction us with
 | nil=>intro _;exact .nil
 | cons v us F =>
  intro h;refine eEE (h v (c7j)) λi t B=>?_;subst B;exact .cons i t (F λv q=>h v (c7i _ q))
theorem a5e {x:Value} {Q:l7} {Φ:List Value->Prop} (R:c8J H s.heap) (W:∀ vs,Φ vs->vs.length < 64) (j:wpAny c8L A.in1 (collect x) (λvs l=>Φ vs/\∃ h' tk d,l={s with heap:=h',toks:=tk,drawn:=d}/\∀ b o,s.heap.get? b=some o->h'.get? b=some o) D7 s)
  (k:∀ (vs:List Value) (U:Shared) (a n:Nat) (P:PySem.Fin->Shared->Prop) (E:Value->Shared->Prop),Φ vs->(∀ b o,s.heap.get? b=some o->b≠a/\U.heap.get? b=some o)->U.heap.get? a=some (seqObj "list" vs.toArray n) ->
   (∀ (B:Array Value) (ys:List f5),(∀ Y,(∀ b o,s.heap.get? b=some o->Y.get? b=some o)->m4 G Y ys B.toList)->newList ys H Q->P (.done (.ret .none)) {U with heap:=sortedHeap U.heap a vs B}) ->
   wpAny c8L A.in1.in1 (Builtin.«list.sort» ⟨[.ref a],[]⟩) P E U):wpAny c8L A (call (.builtin "sorted") [x]) (Got G w (j7 G) H s Q) D7 s:=by
 refine call_function_entry kind_sorted plain_sorted entry_sorted (args_sorted1 _) (c60 (m:=checkCount "sorted" 1 1 _) (c61 ?_));refine c60 (c62 j (λvs t r=>?_) λ_ _ e=>e);obtain ⟨c,h',tk,d,g,J⟩:=r;subst g;have W:=W vs c;refine c60 (wpAny_newList ?_ (by rw[sizeLine_eq];exact zo9 W))
 have st0:c8T S5 H s H {s with heap:=h',toks:=tk,drawn:=d}:=.kept R J
 have V:=K7 st0.rel (c7l h'.objs.size);have Z:s.heap.get? h'.objs.size=none:=by
  cases e:s.heap.get? h'.objs.size with
  | none=>rfl
  | some o=>exact c7Y (c7c (J _ _ e)) (c7J _)
 have O:∀ b o,s.heap.get? b=some o->b≠h'.objs.size:=λb o e z=>by subst z;rw [Z] at e;cases e
 have F:(h'.push {cls:=.type "list",data:=.seq vs.toArray}).get? h'.objs.size=some (seqObj "list" vs.toArray 0):=c68 _ rfl;refine c60 (c63 (c64 slot_list_sort ⟨_,F,rfl⟩ entry_list_sort (k vs _ _ 0 _ _ c (λb o e=>⟨O b o e,c67 _ (J b o e)⟩) F λB ys f q=>⟨_,rfl,?_⟩) (args_list_sort _)));refine c61 ⟨_,rfl,?_⟩
 have keep:∀ b o,s.heap.get? b=some o->((((((h'.push {cls:=.type "list",data:=.seq vs.toArray}).update h'.objs.size (Obj.mapSeq λ_=>#[])).push (seqObj "tuple" vs.toArray 0)).push (seqObj "list" #[] 0)).update h'.objs.size (Obj.mapSeq λ_=>B))).get? b=some o:=λb o e=>by
  rw[(c69 _ _ (O b o e).symm)];refine c67 _ (c67 _ ?_);rw[(c69 _ _ (O b o e).symm)];exact c67 _ (J b o e)
 have p:=n7.kept (tk:=tk) (d:=d) R keep;have h:=get?_update_seq F (λ_=>#[]);have i:=get?_update_seq (c67 (seqObj "list" #[] 0) (c67 (seqObj "tuple" vs.toArray 0) h)) (λ_=>B);exact ⟨.ref _,_,.ref,p.give (mo:=.list ys) Z V.2.1 V.2.2 ⟨B,_,i,f _ keep⟩,q.2 _ V.2.1⟩
theorem a35 {x:Value} {Q:l7} (R:c8J H s.heap) (i:l.length < 64) (h:wpAny c8L A.in1 (collect x) (λvs j=>(∃ B:List Int,IntsAre vs B/\B.Perm l)/\∃ h' tk d,j={s with heap:=h',toks:=tk,drawn:=d}/\∀ b o,s.heap.get? b=some o->h'.get? b=some o) D7 s)
  (q:newList ((T0 l).map f5.int) H Q):wpAny c8L A (call (.builtin "sorted") [x]) (Got G w (j7 G) H s Q) D7 s:=by
 have Y:∀ vs,(∃ B:List Int,IntsAre vs B/\B.Perm l)->vs.length < 64:=λvs ⟨B,J,O⟩=>by rw[J.length];rw[O.length_eq];exact i
 refine a5e R Y h λvs m a n P E Z _ F k=>j5 Z λB J O=>?_;clear Z;refine list_sort_tree F J (Y vs ⟨B,J,O⟩) λV U c e f=>k V ((T0 l).map f5.int) (λW _=>?_) q;obtain rfl:U=T0 l:=List.Perm.eq_of_pairwise (le:=λa b:Int=>a<=b) (λa b _ _ g W=>Int.le_antisymm g W) f (a8K l) ((e.trans O).trans (a1s l).symm);exact m4.of_ints c
theorem b4E {P:List f5->Prop} {Q:Value->Shared->Prop} (o:AOk n m A) (R:c8J H s.heap) (r:j7 G s.heap v u) (h:b6I v H P)
  (q:∀ F h' tk,a0j w G a9s h' s.heap.objs.size F->(∀ x∈F,∃ i t,x.2.1=.int i/\x.2.2=.int i t)->c8T S5 H s H {s with heap:=h',toks:=tk}->P ((T0 (F.map λx=>a76 x.2.1)).map f5.int)->Q (.ref s.heap.objs.size) {s with heap:=h',toks:=tk}):wpAny c8L A (call (.type "set") [u]) Q D7 s:=by
 revert h;intro g;refine y4 g λl e E h=>?_;clear g;refine a8H (K:=a9s) (D:=(List.range 17).map λ(i:Nat)=>f5.int i) (λv q=>?_) add_int o R r e (λv q=>?_) (by simp) (λv q=>?_) λF h' tk S f M=>?_
 ·refine eE (W6 (c8j q)) λi c=>?_;subst c;rfl
 ·refine j5 (c8s q) λi _ Y=>?_;subst Y;rfl
 ·refine j5 (c8s q) λi O Z=>?_;subst Z;have:=E i O;exact c8t ⟨i.toNat,c8C (by exact (Int.toNat_lt this.1).mpr this.2),by rw[(Int.toNat_of_nonneg this.1)];rfl⟩
 have B:∀ x∈F,∃ i t,x.2.1=.int i/\x.2.2=.int i t:=λx J=>a1R (S.2 x J).1 (S.2 x J).2;have L:(F.map λx=>a76 x.2.1).Nodup:=by
  obtain ⟨⟨_,_,_,_,_,_,I,_⟩,_⟩:=S;refine List.Pairwise.map _ (λa b h=>h) (List.Pairwise.imp_of_mem (R:=λa b=>a.2.1≠b.2.1) (λ{a b} z C U e=>?_) (List.pairwise_map.mp I.ti.nod));refine A6 (B a z) λi t p _=>A6 (B b C) λj T y _=>?_;rw [p,y] at e U;exact U (c7o f5.int e)
 refine q F h' tk S B M (h _ (((a8K _).and ((a1s _).nodup_iff.mpr L)).imp λk=>by refine eA k λV W=>?_;clear k;exact Int.lt_iff_le_and_ne.mpr ⟨V,W⟩) λi=>?_)
 rewrite [(a1s (F.map λx=>a76 x.2.1)).mem_iff];constructor
 ·intro O;refine j5 (c8s O) λx J d=>?_;subst d;refine A6 (B x J) λj t e _=>?_;have:=(f x.2.1).mp (c8t ⟨x,J,rfl⟩);rw [e] at this ⊢;refine j5 (c8s this) λN V W=>?_;cases W;exact V
 ·intro O;have:=(f (.int i)).mpr (c8t ⟨i,O,rfl⟩);exact j5 (c8s this) λx J e=>c8t ⟨x,J,by rw[e];rfl⟩
theorem b2M {l:List f5} (h:b5D l=true) (k:Nat):Y8 k l=true:=by
 induction l with
 | nil=>rfl
 | cons v l J =>
  refine eA (c8u h) λB F=>eE (W6 (c8j B)) λi q=>?_;subst q;exact c8G ⟨rfl,J F⟩
theorem nof {C:Prop} (h:false=true):C:=nomatch h
theorem b0T (h:a8I x=true):∃ t l,x=.tup (.str t :: l)/\b5D l=true:=by
 cases x with
 | tup l =>
  cases l with
  | nil=>exact nof h
  | cons a l =>
   cases a with
   | str t=>exact ⟨_,_,rfl,h⟩
   | _=>exact nof h
 | _=>exact nof h
theorem b6P (h:a8I x=true):a2v x=true:=by
 refine A6 (b0T h) λt l q h=>?_;subst q;exact (b2M h 2:Y8 2 l=true)
theorem b4I {P:List f5->Prop} {Q:Value->Shared->Prop} (Y:AOk n m A) (R:c8J H s.heap) (r:j7 G s.heap v u) (h:b6J v H P)
  (q:∀ B h' tk,a0j w G a2v h' s.heap.objs.size B->(∀ x∈B,a8I x.2.1=true)->c8T S5 H s H {s with heap:=h',toks:=tk}->(∀ ys:List f5,ys.Perm (B.map (·.2.1))->P ys)->Q (.ref s.heap.objs.size) {s with heap:=h',toks:=tk}):wpAny c8L A (call (.type "set") [u]) Q D7 s:=by
 revert h;intro F;refine B0 F λa W O e Z U h=>?_;clear F;subst O;refine a8H (K:=a2v) (D:=W) (λv q=>b0E (c8u q).2) b5B Y R r (.inr ⟨a,rfl,e⟩) (λv q=>b6P (U v q)) Z (λv q=>q) λB h' tk S V c=>?_;have mem:∀ x∈B,x.2.1∈W:=λx J=>(V _).mp (c8t ⟨x,J,rfl⟩);have nod:(B.map (·.2.1)).Nodup:=by obtain ⟨⟨_,_,_,_,_,_,b,_⟩,_⟩:=S;exact b.ti.nod
 exact q B h' tk S (λx J=>U _ (mem x J)) c λys p=>h ys (p.nodup_iff.mpr nod) λv=>p.mem_iff.trans (V v)
theorem b4r {α β:Type} {f:α->β} {B m:List β} (p:B.Perm m):∀ l:List α,m=l.map f->∃ F:List α,F.Perm l/\B=F.map f:=by
 induction p with
 | nil=>exact λl e=>⟨l,.refl _,e⟩
 | cons x _ W =>
  intro l e;cases l with
  | nil=>cases e
  | cons y l =>
   refine eA (List.cons.inj e) λh q=>?_;subst h;refine j5 (W l q) λF p g=>?_;subst g;exact ⟨y :: F,p.cons _,rfl⟩
 | swap x y =>
  intro l e;cases l with
  | nil=>cases e
  | cons a l =>
  cases l with
  | nil=>cases (List.cons.inj e).2
  | cons b l =>
  refine eA (List.cons.inj e) λi q=>?_;subst i;refine eA (List.cons.inj q) λR U=>?_;subst R;subst U;exact ⟨b :: a :: l,.swap _ _ _,rfl⟩
 | trans _ _ J O =>
  intro l e;exact j5 (O l e) λY c q=>j5 (J Y q) λZ d V=>⟨Z,d.trans c,V⟩
theorem b3I {F:Value->Prop}:∀ {vs:List Value},(∀ v∈vs,∃ a f us,v=.ref a/\IsTup h a (f :: us).toArray/\F f)->∃ fs,fs.length=vs.length/\KatTups h vs fs/\∀ f∈fs,F f:=by
 intro vs;induction vs with
 | nil=>exact λ_=>⟨[],rfl,.nil,λ_ h=>nomatch h⟩
 | cons v vs d =>
  intro q;refine y4 (d λv c=>q v (c7i _ c)) λfs O R U=>a0M (q v c7j) λa f us J B Y=>?_;subst J;refine P7 B λo b V n W=>?_;clear B;exact ⟨f :: fs,c7o (·+1) O,.cons b V W rfl R,λg Z=>(c8z Z).elim (λe=>e▸Y) (U g)⟩
theorem b4t {v:Value} (O:a8I x=true) (r:j7 G h x v):∃ b Y tk us,v=.ref b/\IsTup h b (.str Y tk :: us).toArray/\AI us:=by
 refine A6 (b0T O) λt l q J=>?_;subst q;refine j9 (Y0 r) λb us B ht R=>?_;subst B;refine j9 (F9 R) λu us F W U=>?_;subst F;refine eE (a1w W) λtk V=>?_;subst V;exact ⟨b,_,tk,us,rfl,ht,b90 J U⟩
theorem c6h {x y:f5} {u v:Value} {Q:Bool->Shared->Prop} (a:a8I x=true) (c:a8I y=true) (d:j7 G s.heap x u) (e:j7 G s.heap y v) (q:∀ b,Q b s):wpAny c8L A (keyLt' (tuples' true) u v) Q E s:=by
 refine a4l (b4t a d) λb t l us R B V=>?_;subst R;refine P7 B λo Z _ n Y=>?_;clear B;refine a4l (b4t c e) λh k f g U F W=>?_;subst U;refine P7 F λj O _ i J=>?_;clear F;exact kat_lt Z Y O J (kat_cons (wpAny_eqBool_str (kat_go (λ_=>kat_yes (b3C q _ _ (b9t V W))) λ_=>kat_no (oneLt_str (q _)))))
theorem c6m:a6h lc w G n m:=λA s H v u Q D R r h=>by
 rcases h with h | h
 ·refine b4E D R r h λg h' z S X c p=>⟨c,A1 c ?_⟩;obtain ⟨⟨o,ep,t,Y,V,hd,l',md⟩,ks⟩:=S;have B:=l'.ti.few;refine a35 (l:=g.map λx=>a76 x.2.1) c.rel (by rw[(c7f ..)];exact B) (a34 D.h B ⟨o,ep,t,Y,V,hd,l',md⟩ λK d d2 vs W O=>⟨?_,K,d,d2,rfl,W⟩) ⟨?_,p⟩
  ·have L:∀ v∈vs,∃ i t,v=.int i t:=λv N=>by
    refine j5 (c8s (O.mem_iff.mp N)) λx J a5=>?_;subst a5;exact A6 (X x J) λi t _ e=>⟨i,t,e⟩
   refine ⟨vs.map vint?,b3B L,(O.map vint?).trans ?_⟩;rw[c7U];refine List.Perm.of_eq (c7r λx J=>?_);refine A6 (X x J) λi t e e'=>?_;show vint? x.2.2=a76 x.2.1;rw[e];rw[e'];rfl
  ·rw[(c7f ..)];rw[((a1s _).length_eq)];rw[(c7f ..)];unfold o9;exact b69 B
 ·refine b4I D R r h λg h' z S Z c p=>⟨c,A1 c ?_⟩;obtain ⟨⟨o,ep,t,Y,V,hd,l',md⟩,ks⟩:=S;have B:=l'.ti.few;have hu:=D.units;refine a5e (Φ:=λvs=>vs.Perm (g.map (·.2.2))) c.rel (λvs e=>by rw[e.length_eq];rw[(c7f ..)];exact B) (a34 D.h B ⟨o,ep,t,Y,V,hd,l',md⟩ λK d d2 vs W O=>⟨O,K,d,d2,rfl,W⟩) λvs s2 a n P E I hk M k=>?_
  have I:vs.Perm (g.map (·.2.2)):=I;have hl:vs.length < 64:=by rw[I.length_eq];rw[(c7f ..)];exact B
  refine b4M M hl (λa6 pm=>?_) λh3 a0 K=>?_
  ·refine j5 (b4r (pm.trans I) g rfl) λl2 p2 a2=>?_;subst a2;refine k _ (l2.map (·.2.1)) (λh4 a1=>?_) ⟨by rw[(c7f ..)];rw[p2.length_eq];unfold o9;exact b69 B,p _ (p2.map _)⟩
   have:∀ l:List El,(∀ x∈l,j7 G h4 x.2.1 x.2.2)->m4 G h4 (l.map (·.2.1)) (l.map (·.2.2)):=by
    intro l;induction l with
    | nil=>exact λ_=>.nil
    | cons x l ih=>exact λq=>.cons (q x c7j) (ih λy hy=>q y (c7i _ hy))
   exact this l2 λx J=>a1b (ks x (p2.mem_iff.mp J)).2 a1
  ·have g3:∀ b o,h'.get? b=some o->h3.get? b=some o:=λb o e=>a0 b o (hk b o e).1 (hk b o e).2;have U:∀ v∈vs,∃ x∈g,j7 G h3 x.2.1 v:=λv N=>by
    refine j5 (c8s (I.mem_iff.mp N)) λx J a4=>?_;subst a4;exact ⟨x,J,a1b (ks x J).2 g3⟩
   have gd:∀ i,i < vs.length->vs.getD i .none∈vs:=λi hi=>by
    rw[c7w];rw[(c7h hi)];exact List.getElem_mem hi
   refine y4 (b3I (h:=h3) (F:=λf=>∃ t z,f=.str t z) (vs:=vs) λv N=>by
    refine j5 (U v N) λx J r=>?_;refine a4l (b4t (Z x J) r) λb t z us a3 ht _=>?_;subst a3;exact ⟨b,_,us,rfl,ht,t,z,rfl⟩) λfs f1 f2 f3=>?_
   refine kat_kind (T:=.type "str") f2 (by exact c7v Nat.zero_lt_two (c7g K (c7z f1.symm))) (λf hf=>?_) (by decide) ⟨rfl,λi j C hi hj q=>?_⟩
   ·refine eEE (f3 f hf) λt z q5=>?_;subst q5;exact .of_pure rfl
   ·exact j5 (U _ (gd i hi)) λx J r=>j5 (U _ (gd j hj)) λy hy r'=>c6h (Z x J) (Z y hy) r r' q
variable {x:Nm}{l:List Nat}{Q:l7}
theorem b1c (g:Gk G):c86 m .sorted:=λA s H vs us Q W R D h=>by
 refine J6 h λa l w e J q=>?_;clear h;subst w;refine j5 (a0U D) λu t C=>?_;subst t;cases U8 C;have F:l.length<=sizeLine:=by rw[sizeLine_eq];exact zo9 J
 refine a35 R J ?_ q;rcases e with e | e
 ·refine A6 (R.objs _ _ e) λV k n r=>?_;have Y:l.length=V.toList.length:=by have:=r.length;rwa [c7f] at this
  refine collect_list (vs:=V.toList) ⟨_,n,rfl,k,by rw[Array.toArray_toList];rfl⟩ ⟨⟨l,r.toInts,.refl _⟩,_,s.toks,s.drawn,rfl,λb o e=>?_⟩ (Y▸F)
  rw[(c69 _ _ λz=>(by subst z;rw [(K7 R (Nat.le_refl s.heap.objs.size)).1] at e;cases e))]
  exact c67 _ e
 ·refine A6 (b0o R e) λp I y d=>?_;subst y;revert e;intro U;refine A6 U λK _ e _=>?_;clear U;rw [List.length_map] at F;refine kdu_collect (kdl_dict (R.sysm g e)) W.h d F λZ E acc i B=>⟨⟨_,kdy_ints ?_ λj v O=>?_,.refl _⟩,Z,E,s.drawn,rfl,i⟩
  ·rw[c7K];rw[(c7f ..)];exact B.1
  ·rw [Array.getElem?_toList] at O;exact A6 (B.2 j v O) λk x c f=>⟨k,by rw[c7m];rw[c];rfl,Value.isInt_shape f⟩
theorem b8a (g:Gk G):∀ b,c86 m b
 | .len=>b8c g
 | .sum=>b8g
 | .max=>b8d
 | .min=>b8e
 | .sorted=>b1c g
 | .list=>b5H
 | .tuple=>b2Q
 | .int=>b8b
 | .abs=>b79
 | .str=>b8f
theorem b1i (g:Gok G c) (q:c8U):I6 lc w G (n+1):=b20 g (λb=>b8a g.toGk b) c6m q
end
variable {x:Nm}{l:List Nat}
noncomputable def a4v (tb:String->Option Builtin) (p:Program) (w:World) (n₀:Nat) (ann:Option Value):Nat->SharedT->Thread->Option SharedT
 | 0,_,_=>none
 | n+1,s,t=>match through t with
  | true=>some s
  | false=>match stepOk n₀ ann t with
   | false=>none
   | true=>match stepT (denote tb) p w s t with
    | some (s',t')=>a4v tb p w n₀ ann n s' t'
    | none=>none
theorem a90 {O:String->Option Builtin} {p:Program} {w:World} {F:Nat} {q:Option Value}:∀ {n:Nat} {s J:SharedT} {t:Thread},a4v O p w F q n s t=some J->topRun O p w F q n s.abs t=some J.abs:=by
 intro n;induction n with
 | zero=>intro _ _ _ h;exact nomatch h
 | succ n U =>
  intro s J t h;unfold a4v at h;unfold topRun;cases ht:through t with
  | true=>rw [ht] at h;have V:=E0 h;clear h;subst V;rfl
  | false =>
   rw [ht] at h;cases R:stepOk F q t with
   | false=>rw [R] at h;cases h
   | true =>
    rw [R] at h;cases B:stepT (denote O) p w s t with
    | none=>rw [B] at h;cases h
    | some r=>obtain ⟨W,Y⟩:=r;rw [B] at h;rw[(stepT_spec B)];exact U h
noncomputable def b0w:List Obj->Nat->BT->Option BT
 | [],_,t=>some t
 | o :: r,n,t=>match ((t.ins n o).get n).isSome with
  | true=>b0w r (n+1) (t.ins n o)
  | false=>none
theorem b3z {life:Life}:∀ {l:List Obj} {n:Nat} {t t':BT},b0w l n t=some t'->(absHeap t' (n+l.length) life).objs=(absHeap t n life).objs++l.toArray:=by
 intro r;induction r with
 | nil=>intro n t t' h;have F:=E0 h;clear h;subst F;simp
 | cons o r B =>
  intro n t t' h;unfold b0w at h;cases q:((t.ins n o).get n).isSome with
  | false=>rw [q] at h;cases h
  | true =>
   rw [q] at h;have:=B h;rw [absHeap_ins q] at this;rw[c72];rw[(show n+(r.length+1)=n+1+r.length by exact b9z)];rw[this]
   simp [Heap.push]
noncomputable def o5 (s:String):Str:=⟨((PySem.W.S.toListS s).map Char.toNat).toArray⟩
theorem a69:@Str.ofString=o5:=by
 funext s
 rw[Str.ofString_eq_byList];unfold Str.ofStringByList o5;rw[PySem.W.S.toListS_eq];rfl
noncomputable def At {α:Type _} {β:Type _} (F:α->β) (f:α) (b:β):Prop:=F f=b
theorem atM {α:Type _} {β:Type _} {F:α->β} {f:α} {b:β} (h:F f=b):At F f b:=h
theorem b7M {α:Type _} {β:Type _} (F:α->β) (f:α):F f=F f:=rfl
noncomputable def b2T:{F:(String->Str)->Params->Heap // At F Str.ofString boot_heap}:=by
 refine ⟨?F,?h⟩
 case h =>
  refine atM ((?z:((?F:(String->Str)->Params->Heap) Str.ofString=boot_heap)->(?F:(String->Str)->Params->Heap) Str.ofString=boot_heap) ?w)
  case w =>
   unfold boot_heap;generalize Str.ofString=f;exact b7M _ _
  case z=>intro _;exact Eq.refl boot_heap
noncomputable def b7k:{h:Params->Heap // h=boot_heap}:=⟨b2T.1 o5,(c7o b2T.1 a69.symm).trans b2T.2⟩
noncomputable def a7y (h:Params->Heap) (w:World):Option BT:=b0w (h w.params).objs.toList 0 .nil
noncomputable def stT (h:Params->Heap) (b:BT) (w:World) (os:OsState):SharedT:=⟨b,(h w.params).objs.size,(h w.params).life,#[],boot_drawn,boot_toks,os⟩
theorem b2U {h:Params->Heap} {w:World} {b:BT} (B:a7y h w=some b) (q:OsState):(stT h b w q).abs=⟨h w.params,#[],boot_drawn,boot_toks,q⟩:=by
 have:=b3z (life:=(h w.params).life) B;unfold SharedT.abs stT;have e:(h w.params).objs.size=0+(h w.params).objs.toList.length:=by rw[(Nat.zero_add ..)];rw[c7K];rfl
 have:absHeap b (h w.params).objs.size (h w.params).life=h w.params:=by
  rw[e];show Heap.mk (absHeap b _ (h w.params).life).objs _=_;rw[this];have z:(absHeap .nil 0 (h w.params).life).objs=#[]:=rfl;rw[z];simp
 simp only [this]
noncomputable def b6o {α:Type} (h:Params->Heap) (p:Program) (f:Shared->α) (N:Nat) (b:BT) (w:World) (os:OsState):Option α :=
 match (stT h b w os).abs.heap.isNs mainGlobals with
 | true=>(a4v treeTable p w (h w.params).objs.size ((stT h b w os).abs.heap.nsMap mainGlobals "__annotations__") N (stT h b w os) (topStub p)).bind λs₁ =>
  match staticsOk (importedModules p.main.body) (stT h b w os).abs.heap s₁.abs.heap&&namesBound p s₁.abs.heap&&gensDone s₁.abs&&laidKept (stT h b w os).abs.heap s₁.abs.heap with
  | true=>some (f s₁.abs)
  | false=>none
 | false=>none
theorem b1N {p q:Program} {loose:List Str} {Xt:Shared->Bool} {α:Type} {Yf:Shared->α} {Ya:World->α} {N:Nat} (e:opening p=plainProg p.main.scope.names) (g:Nat.ble 600 N=true) (f:∀ s,fenceModules? p s=some s)
  (H:∀ w,(λl=>(a7y boot_heap w).bind λb=>b6o boot_heap p (λs=>(openSeen q loose (importedModules p.main.body) Xt true s,Yf s)) N b w l)=λ_=>some (openGood q loose,Ya w)):LeftO p q loose Xt Yf Ya N:=λw=>by
 refine j5 (c8v (boot_open (N:=N) e g f w)) λB j V=>?_;have F:=congrFun (H w) B.os;cases Y:a7y boot_heap w with
 | none=>rw [Y] at F;cases F
 | some b =>
  rw [Y,Option.bind_some] at F;have J:=c7o (·.1) V;have O:=c7o (·.2.1) V;have R:=c7o (·.2.2.1) V;have U:=c7o (·.2.2.2) V;dsimp only at J O R U;have a:(stT boot_heap b w B.os).abs=B:=by
   rewrite [b2U Y];refine w3 J ?_;refine w3 R ?_;refine w3 U ?_;have:B.gens=#[]:=O;refine w3 this ?_;rfl
  have k:(boot_heap w.params).objs.size=B.heap.objs.size:=by refine w3 J ?_;rfl
  unfold b6o at F;rw [a,k] at F;unfold openEnds;rw[j];show ((topFrom treeTable p w N B)).map _=_;unfold topFrom;cases c:B.heap.isNs mainGlobals with
  | false=>rw [c] at F;cases F
  | true =>
   rw [c] at F;refine j5 (Option.bind_eq_some_iff.mp F) λm d W=>?_;have Z:=a90 d;rw [a] at Z;have i:(B.gens.size==0)=true:=by
    have:B.gens=#[]:=O;rw[this];rfl
   rw[i];show ((topRun treeTable p w B.heap.objs.size _ N B (topStub p)).bind _).map _=_;rw[Z];rw[(Option.bind_some ..)]
   split at W
   ·rename_i h;rw[h];exact W
   ·cases W
structure FE where
 cs:Option Str
 s:Str
 a:Addr
structure Tab where
 as:List Addr
 fns:List Str
 clss:List Str
 attrs:List Str
 cl:List (Str×Addr)
 fes:List FE
noncomputable abbrev Txt:=Arguments×List Stmt×Scope
noncomputable def cnm:Option Str->Nm
 | none=>0
 | some c=>nm c
noncomputable def a5y (x:Option (Option Value)) (v:Option Value):Bool:=x==some v
noncomputable def a2T (T:Tab) (c:Str):Option Addr:=(T.cl.find? λp=>p.1==c).map (·.2)
noncomputable def b7q (K:Frag) (e:FE) (fd:FuncData):Bool:=fd.globals==mainGlobals&&fd.closure.isEmpty&&fd.defaults==.none&&fd.builtins==builtinsNs&&codeIn K fd.code fd.qualname&&typeIn K (.ref e.a)==some (.type "function")&&B1 e.s
noncomputable def a7E (K:Frag) (T:Tab) (e:FE):Bool:=match e.cs with
 | none=>a5y (nsIn K mainGlobals e.s) (some (.ref e.a))&&T.fns.contains e.s
 | some c=>(a2T T c).isSome&&((a2T T c).all λC=>a5y (findIn K (.ref C) e.s) (some (.ref e.a)))
noncomputable def a3Z (K:Frag) (T:Tab) (e:FE):Option Txt:=match K.lookup e.a with
 | some ⟨_,_,.func fd,_⟩=>(match fd.body with
  | .stmts body=>gd (b7q K e fd&&a7E K T e) (some (fd.params,body,fd.scope))
  | _=>none)
 | _=>none
noncomputable def b21 (K:Frag) (T:Tab) (p:Str×Addr):Bool:=((clsIn K p.2).any λcd=>cd.hasDict)&&a5y (findIn K (.ref p.2) "__getattribute__") (some (.builtin "object.__getattribute__"))&&a5y (findIn K (.ref p.2) "__getattr__") none &&
 a5y (findIn K (.ref p.2) "__setattr__") (some (.builtin "object.__setattr__"))&&plainOver K p.2&&makesIn K p.2&&(T.attrs.all λx=>a5y (findIn K (.ref p.2) x) none) &&
 a5y (nsIn K mainGlobals p.1) (some (.ref p.2))&&keepIn K (.ref p.2)&&B1 p.1
noncomputable def b2S (K:Frag) (T:Tab) (p:Str×Value):Bool:=a5y (nsIn K mainGlobals p.1) none&&a5y (nsIn K builtinsNs p.1) (some p.2)&&!T.fns.contains p.1&&!T.clss.contains p.1
noncomputable def a7a (K:Frag) (T:Tab):Bool:=(T.cl.all (b21 K T))&&(a1d.all λp=>(T.fns.contains p.1||T.clss.contains p.1)||b2S K T p)
noncomputable def b0X (T:Tab):Bool:=(T.clss.all λx=>(a2T T x).isSome)&&(T.fns.all λx=>!(T.clss.contains x))&&(T.fns.all λx=>T.fes.any λe=>e.cs.isNone&&e.s==x) &&
 (T.fes.all λe=>e.cs.all λc=>T.clss.contains c)
noncomputable def a20 (h:Heap):List Addr->Option Frag
 | []=>some []
 | a :: r=>match h.get? a with
  | some o=>(a20 h r).map λK=>(a,o) :: K
  | none=>none
theorem a9o:∀ {as:List Addr} {K:Frag},a20 h as=some K->K.In h:=by
 intro r;induction r with
 | nil=>intro K e;have J:=E0 e;clear e;subst J;intro a o e;cases e
 | cons b r F =>
  intro K e;unfold a20 at e;cases q:h.get? b with
  | none=>rw [q] at e;cases e
  | some V =>
   rw [q] at e;refine j5 (c8v e) λU B R=>?_;subst R;intro a o e;simp only [List.lookup] at e
   split at e
   ·rename_i z;have O:=E0 e;clear e;subst O;rw[(c8j z)];exact q
   ·exact F B a o e
noncomputable def a3R (T:Tab) (s:Shared):Bool×List (Option Txt):=match a20 s.heap T.as with
 | some K=>(a7a K T&&s.heap.isNs cStatics&&(s.heap.nsMap cStatics "sys.recursionlimit").isNone&&(s.heap.get? sysModules).isSome,T.fes.map (a3Z K T))
 | none=>(false,[])
structure b2H (T:Tab) (tx:List (Option Txt)) (h:Heap):Prop where
 ex:∃ K,Frag.In K h/\a7a K T=true/\T.fes.map (a3Z K T)=tx
 o9:h.NoLimit
 sysm:(h.get? sysModules).isSome=true
theorem b6x {T:Tab} {B:List (Option Txt)} (e:a3R T s=(true,B)):b2H T B s.heap:=by
 unfold a3R at e;cases q:a20 s.heap T.as with
 | none=>rw [q] at e;cases e
 | some K =>
  rw [q] at e;injection e with e1 e2
  simp only [Bool.and_eq_true,Option.isNone_iff_eq_none] at e1;exact ⟨⟨K,a9o q,e1.1.1.1,e2⟩,⟨_,.of_isNs e1.1.1.2,e1.1.2⟩,e1.2⟩
theorem a9T {T:Tab} {q:List (Option Txt)} {h h':Heap} (x:b2H T q h) (k:∀ b o,h.get? b=some o->h'.get? b=some o):b2H T q h':=by
 obtain ⟨⟨K,a,b,c⟩,l,m⟩:=x;refine ⟨⟨K,a.keeps k,b,c⟩,l.keeps k,?_⟩;refine eE (c8y m) λo e=>?_;rw[(k _ _ e)];rfl
noncomputable def b24 (s:Str) (l:List Stmt):Option Txt:=l.findSome? λx=>PySem.W.writtenParams?.match_1 (λ_=>Option Txt) x (λn a b _ _ _ sc _ _ _=>bif n==s then some (a,b,sc) else none) λ_=>none
noncomputable def b96 (cs:Option Str) (s:Str) (l:List Stmt):Option Txt:=match cs with
 | none=>b24 s l
 | some c=>(l.findSome? λx=>PySem.W.theClassW.match_1 (λ_=>Option (List Stmt)) x (λn _ _ b _ _ _ _ _ _ _=>bif n==c then some b else none) λ_=>none).bind (b24 s)
noncomputable def a94 (T:Tab) (p:Program):List (Option Txt):=T.fes.map λe=>b96 e.cs e.s p.main.body
noncomputable def b7Q (t:Txt):Bool:=t.2.2.kind==.function&&!t.2.2.isCoroutine&&!t.2.2.isGenerator&&decide ((t.1.args.map (·.arg)).Nodup)&&t.1.args.all λa=>a7t t.2.2 a.arg
noncomputable def a58 (T:Tab) (t:Txt):Option Fn:=gd (b7Q t) (trF T.fns T.clss T.attrs t.1 t.2.1 t.2.2)
noncomputable def c0z (T:Tab) (p:Program):List (Option Fn):=(a94 T p).map λo=>o.bind (a58 T)
noncomputable def a6y (T:Tab) (fds:List Fn) (c n:Nm):Option (FE×Fn):=(T.fes.zip fds).find? λe=>Nat.beq (cnm e.1.cs) c&&Nat.beq (nm e.1.s) n
noncomputable def b1g (T:Tab) (c:Nm):Option Addr:=(T.cl.find? λp=>Nat.beq (nm p.1) c).map (·.2)
noncomputable def a9p (T:Tab) (fds:List Fn) (K:Frag) (h:Heap) (sa:Addr) (sl:List Int) (os:OsState):Gi :=
 {base:=h.get?,K:=K,fa:=λc n=>(a6y T fds c n).map (·.1.a),ca:=b1g T,sa:=sa,sl:=sl,os:=os,F:=λc n=>(a6y T fds c n).map (·.2)}
noncomputable def b5M (T:Tab):Cx:=⟨[],T.fns,T.clss,T.attrs,[]⟩
theorem b4i (x:Str):0 < nm x:=by
 have:∀ (l:List Nat) (a:Nat),0 < a->0 < l.foldl (λa c=>a * 128+c) a:=by
  intro l;induction l with
  | nil=>exact λa h=>h
  | cons c l q=>exact λa h=>q _ (c7v (Nat.mul_pos h (by decide)) (c7B _ _))
 exact this _ 1 (by decide)
theorem Z3 {x:Option (Option Value)} {v:Option Value} (h:a5y x v=true):x=some v:=c8j h
variable {Q:l7}{K:Frag}{T:Tab}{fds:List Fn}{tx:List (Option Txt)}
structure b5w (K:Frag) (T:Tab) (e:FE) (fd:Fn) (t:Txt):Prop where
 tx:a3Z K T e=some t
 tr:a58 T t=some fd
theorem b3k (J:T.fes.map (a3Z K T)=tx) (F:tx.map (λo=>o.bind (a58 T))=fds.map some) {c n:Nm} {e:FE} {fd:Fn} (h:a6y T fds c n=some (e,fd)):cnm e.cs=c/\nm e.s=n/\e∈T.fes/\∃ t,b5w K T e fd t:=by
 have q:=List.find?_some h;have R:=c7L h;rw [Bool.and_eq_true] at q;refine ⟨Nat.eq_of_beq_eq_true q.1,Nat.eq_of_beq_eq_true q.2,(List.of_mem_zip R).1,?_⟩;refine eE (c8A R) λi B=>?_;rw [List.getElem?_zip_eq_some] at B;have O:=c7o (·[i]?) F;subst J;simp only [List.getElem?_map,B.1,B.2,Option.map_some] at O;refine j5 (Option.bind_eq_some_iff.mp (c7p O)) λt U V=>?_
 exact ⟨t,U,V⟩
inductive b9T (K:Frag) (e:FE) (t:Txt):Prop
 | mk:∀ name qual kV doc pm an cdv ct oc od osl,K.lookup e.a=some ⟨oc,od,.func (fnOf name qual t.1 t.2.1 t.2.2 .none kV doc pm an cdv ct),osl⟩->codeIn K cdv qual=true->b9T K e t
structure FnP (K:Frag) (T:Tab) (e:FE) (t:Txt):Prop where
 tx:b9T K e t
 ty:typeIn K (.ref e.a)=some (.type "function")
 asc:B1 e.s=true
 top:e.cs=none->nsIn K mainGlobals e.s=some (some (.ref e.a))
 cl:∀ c,e.cs=some c->∃ C,a2T T c=some C/\findIn K (.ref C) e.s=some (some (.ref e.a))
theorem b8i {e:FE} (h:a7E K T e=true) (q:e.cs=none):nsIn K mainGlobals e.s=some (some (.ref e.a)):=by
 unfold a7E at h;rw [q] at h;exact Z3 (c8u h).1
theorem b94 {e:FE} (h:a7E K T e=true) {c:Str} (q:e.cs=some c):∃ C,a2T T c=some C/\findIn K (.ref C) e.s=some (some (.ref e.a)):=by
 unfold a7E at h;rw [q] at h;refine eA (c8u h) λJ B=>eE (c8y J) λC F=>?_;rw [F] at B;exact ⟨C,F,Z3 B⟩
theorem a0X {e:FE} {t:Txt} (h:a3Z K T e=some t):FnP K T e t:=by
 unfold a3Z at h;cases Z:K.lookup e.a with
 | none=>rw [Z] at h;exact A3 h
 | some o =>
  rw [Z] at h;obtain ⟨x,y,data,b⟩:=o;cases data with
  | func l =>
   obtain ⟨name,U,V,i,d,D,j,C,w,Y,z,g,W,k,blt⟩:=l;cases i with
   | stmts body =>
    refine eA (r9 h) λq h=>eA (c8u q) λc f=>?_;have A:=E0 h;clear h;subst A;simp only [b7q,Bool.and_eq_true,beq_iff_eq,List.isEmpty_iff] at c;refine eA c λB v=>?_;clear c;refine eA B λF u=>?_;clear B;refine eA F λJ s=>?_;clear F;refine eA J λO r=>?_;clear J;refine eA O λR p=>?_;clear O;refine eA R λm n=>?_;clear R
    cases m;cases n;cases p;cases r;exact ⟨⟨name,U,w,Y,z,g,W,k,x,y,b,Z,s⟩,u,v,b8i f,λ_=>b94 f⟩
   | _=>exact A3 h
  | _=>exact A3 h
theorem a6m {c:Str} {C:Addr} (h:a2T T c=some C):(c,C)∈T.cl:=by
 refine j5 (c8v h) λp q B=>?_;subst B;refine w3 (c8j (List.find?_some (p:=λp:Str×Addr=>p.1==c) q)) ?_;exact c7L q
theorem a86 {c:Nm} {C:Addr} (h:b1g T c=some C):∃ s,(s,C)∈T.cl/\nm s=c:=by
 refine j5 (c8v h) λp q B=>?_;subst B;exact ⟨p.1,c7L q,Nat.eq_of_beq_eq_true (List.find?_some (p:=λp:Str×Addr=>Nat.beq (nm p.1) c) q)⟩
theorem b2W (ha:∀ p∈T.cl,B1 p.1=true) {c:Str} (B:B1 c=true):b1g T (nm c)=a2T T c:=by
 have:∀ l:List (Str×Addr),(∀ p∈l,B1 p.1=true)->(l.find? λp=>Nat.beq (nm p.1) (nm c))=l.find? λp=>p.1==c:=by
  intro l;induction l with
  | nil=>intro _;rfl
  | cons p l J =>
   intro h;have e:Nat.beq (nm p.1) (nm c)=(p.1==c):=by
    cases q:p.1==c with
    | true=>rw[(c8j q)];exact Nat.beq_refl _
    | false =>
     cases z:Nat.beq (nm p.1) (nm c) with
     | false=>rfl
     | true =>
      rw [Q2 (h p (List.mem_cons_self)) B (Nat.eq_of_beq_eq_true z)] at q;simp at q
   refine b9 List.find?_cons ?_;refine b9 List.find?_cons ?_;rw[e];rw[(J λq F=>h q (c7i _ F))];rfl
 unfold b1g a2T;rw[(this T.cl ha)];rfl
structure c5Y (K:Frag) (T:Tab) (p:Str×Addr):Prop where
 ok:b2C K p.2
 at_:∀ x∈T.attrs,findIn K (.ref p.2) x=some none
 ns:nsIn K mainGlobals p.1=some (some (.ref p.2))
 keep:keepIn K (.ref p.2)=true
 asc:B1 p.1=true
set_option backward.match.sparseCases true in
theorem b8u {sa:Addr} {sl:List Int} {os:OsState} (ok:b0X T=true) (X:K.In h) (j:a7a K T=true) (b:T.fes.map (a3Z K T)=tx) (o9:h.NoLimit) (sysm:(h.get? sysModules).isSome=true) (Z:tx.map (λo=>o.bind (a58 T))=fds.map some)
  (script:∃ o vs n,h.get? sa=some o/\o.cls=.type "list"/\o.data=.seq vs n/\IntsAre vs.toList sl):Gok (a9p T fds K h sa sl os) (b5M T):=by
 simp only [a7a,b0X,Bool.and_eq_true,List.all_eq_true] at j ok;refine eA j λc1 c2=>?_;clear j;refine eA ok λq5 o4=>?_;clear ok;refine eA q5 λq6 o3=>?_;clear q5;refine eA q6 λo1 o2=>?_;clear q6;have A:∀ p∈T.cl,c5Y K T p:=λp hp=>by
  have:=c1 p hp;simp only [b21,Bool.and_eq_true,List.all_eq_true,Option.any_eq_true] at this;refine eA this λL b2=>?_;clear this;refine eA L λM a9=>?_;clear L;refine eA M λN a8=>?_;clear M;refine eA N λP a7=>?_;clear N;refine eA P λQ a6=>?_;clear P;refine eA Q λS a5=>?_;clear Q;refine eA S λa0 a4=>?_;clear S;refine eA a0 λb0 a3=>?_;clear a0;refine eA b0 λa1 a2=>?_;clear b0
  exact ⟨⟨a1,Z3 a2,Z3 a3,Z3 a4,a5,a6⟩,λx V=>Z3 (a7 x V),Z3 a8,a9,b2⟩
 have U:∀ p∈T.cl,B1 p.1=true:=λp hp=>(A p hp).asc;have B:∀ e t,a3Z K T e=some t->keepIn K (.ref e.a)=true:=λe t h=>by
  obtain ⟨_,_,_,_,_,_,_,_,_,_,_,hl,_⟩:=(a0X h).tx;show (match K.lookup e.a with | some ⟨_,_,.func _,_⟩=>true | some ⟨_,_,.cls _,_⟩=>_ | _=>false)=true
  rw[hl];rfl
 have c5:∀ e∈T.fes,∃ i J t,T.fes[i]?=some e/\fds[i]?=some J/\b5w K T e J t:=λe he=>by
  refine eE (c8A he) λi hi=>?_;have u:=c7o (·[i]?) Z;rw [<- b] at u;simp only [List.getElem?_map,hi,Option.map_some] at u;cases q:fds[i]? with
  | none=>rw [q] at u;cases u
  | some J =>
   rw [q] at u;exact j5 (Option.bind_eq_some_iff.mp (c7p u)) λt Y w=>⟨i,J,t,hi,q,Y,w⟩
 have b3:∀ x,T.fns.contains x=true->∃ e J t,a6y T fds 0 (nm x)=some (e,J)/\e.cs=none/\e.s=x/\b5w K T e J t:=λx V=>by
  have:=o3 x (List.contains_iff_mem.mp V);refine j5 (List.any_eq_true.mp this) λe0 h0 O=>?_;rw [Bool.and_eq_true] at O;refine a0M (c5 e0 h0) λi J t i1 i2 f0=>?_;have D:e0.s=x:=c8j O.2;have b6:e0.cs=none:=Option.isNone_iff_eq_none.mp O.1;cases q:a6y T fds 0 (nm x) with
  | none =>
   have:=List.find?_eq_none.mp q (e0,J) (List.mem_iff_getElem?.mpr ⟨i,List.getElem?_zip_eq_some.mpr ⟨i1,i2⟩⟩);rw [b6,D] at this;exact c7Y (by rw[(Bool.and_eq_true ..)];exact ⟨Nat.beq_refl _,Nat.beq_refl _⟩) this
  | some p =>
   obtain ⟨e,E⟩:=p;refine b0p (b3k b Z q) λR Y w t' f'=>⟨e,E,t',rfl,?_,Q2 (a0X f'.tx).asc (D▸(a0X f0.tx).asc) Y,f'⟩;cases z:e.cs with
   | none=>rfl
   | some c=>rw [z] at R;exact c7Y R (Nat.ne_of_gt (b4i c))
 have G:∀ c n J,(a9p T fds K h sa sl os).F c n=some J->∃ e t,a6y T fds c n=some (e,J)/\cnm e.cs=c/\nm e.s=n/\e∈T.fes/\b5w K T e J t:=λc n J H=>by
  refine j5 (c8v H) λc3 O c4=>?_;obtain ⟨e,E⟩:=c3;subst c4;exact b0p (b3k b Z O) λR Y w t f=>⟨e,t,O,R,Y,w,f⟩
 refine {K:=X,sysm:=sysm,script:=script,cl:=λd C W=>?_,at_:=λd C x W V=>?_,me:=λd C x J W V H=>?_,fn:=λx V=>?_,cls:=λx V=>?_,fun_:=λd name J H=>?_,keepf:=λname f hf=>?_,nolim:=λh' k=>o9.keeps k,blt:=λx v hv O R=>?_}
 ·exact j5 (a86 W) λs m _=>(A _ m).ok
 ·exact j5 (a86 W) λs m _=>(A _ m).at_ x (List.contains_iff_mem.mp V)
 ·refine B0 (G _ _ _ H) λe t O R Y w f=>j5 (a86 W) λs m hn=>?_;have g:=a0X f.tx;have ex:e.s=x:=Q2 g.asc V Y;cases z:e.cs with
  | none=>rw [z] at R;rw [<- hn] at R;exact c7Y R.symm (Nat.ne_of_gt (b4i s))
  | some c =>
   refine j5 (g.cl c z) λC' l hf=>?_;rw [z] at R;have:c=s:=Q2 (U _ (a6m l)) (U _ m) (R.trans hn.symm);have e2:b1g T d=a2T T c:=by refine w3 R ?_;exact b2W U (U _ (a6m l))
   rw [show (a9p T fds K h sa sl os).ca d=b1g T d from rfl,e2,l] at W;have q4:=E0 W;clear W;subst q4;refine ⟨e.a,?_,ex▸hf,g.ty⟩;show (a6y T fds d (nm x)).map _=_;rw[O];rfl
 ·refine a1i (b3 x V) λe J t O R Y f=>⟨?_,e.a,?_,?_,B e t f.tx⟩
  ·have:=o2 x (List.contains_iff_mem.mp V);rw [Bool.not_eq_true'] at this;exact this
  ·show (a6y T fds 0 (nm x)).map _=_;rw[O];rfl
  ·refine w3 Y ?_;exact (a0X f.tx).top R
 ·have m:=o1 x (List.contains_iff_mem.mp V);refine eE (c8y m) λC W=>?_;have I:=a6m W;refine ⟨?_,C,(b2W U (U _ I)).trans W,(A _ I).ns,(A _ I).keep⟩;show T.fns.contains x=false;cases z:T.fns.contains x with
  | false=>rfl
  | true =>
   have:=o2 x (List.contains_iff_mem.mp z);rw [show T.clss.contains x=true from V] at this;cases this
 ·refine B0 (G _ _ _ H) λe t O R Y w f=>?_;obtain ⟨r,b1,kV,b5,pm,an,b4,ct,oc,od,b7,hl,hc⟩:=(a0X f.tx).tx;refine eA (r9 f.tr) λy t2=>?_;simp only [b7Q,Bool.and_eq_true,beq_iff_eq,Bool.not_eq_true',decide_eq_true_eq] at y;refine ⟨e.a,?_,⟨r,b1,t.1,t.2.1,t.2.2,kV,b5,pm,an,b4,ct,oc,od,b7,hl,hc,t2,y.1.1.1.1,y.1.1.1.2,y.1.1.2,y.1.2,y.2⟩,B e t f.tx⟩;show (a6y T fds d name).map _=_
  rw[O];rfl
 ·refine j5 (c8v hf) λb8 O c0=>?_;obtain ⟨e,J⟩:=b8;subst c0;exact b0p (b3k b Z O) λ_ _ _ t f=>B e t f.tx
 ·have I:(x,v)∈a1d:=O5 hv;have:=c2 _ I;rw [show (b5M T).fns.contains x=T.fns.contains x from rfl] at O;rw [show (b5M T).clss.contains x=T.clss.contains x from rfl] at R;rw [O,R] at this;simp only [Bool.or_self,Bool.false_or,b2S,Bool.and_eq_true] at this;exact ⟨Z3 this.1.1.1,Z3 this.1.1.2⟩
variable {K:Calls}
noncomputable def a4u (T:Tab):List (Nm×Nm):=T.fes.map λe=>(cnm e.cs,nm e.s)
theorem b6X (T:Tab) (fds:List Fn) (K:Frag) (h:Heap) (J:Addr) (O:List Int) (B:OsState):(a9p T fds K h J O B).F=b4T (a4u T) fds:=by
 funext c n
 have:∀ (l:List FE) (fds:List Fn),(((l.zip fds).find? λe=>Nat.beq (cnm e.1.cs) c&&Nat.beq (nm e.1.s) n).map λe=>e.2)=(((l.map λe=>(cnm e.cs,nm e.s)).zip fds).find? λe=>Nat.beq e.1.1 c&&Nat.beq e.1.2 n).map λe=>e.2:=by
  intro l;induction l with
  | nil=>intro fds;rfl
  | cons e l q =>
   intro fds;cases fds with
   | nil=>rfl
   | cons R fds =>
    rw[List.zip_cons_cons];rw[c7Z];rw[List.zip_cons_cons];refine b9 List.find?_cons ?_;refine b9 List.find?_cons ?_;dsimp only
    split
    ·rfl
    ·exact q fds
 exact this T.fes fds
theorem b2e {args:List WData} (h:WShape.hasAll [] args [.list .int]=true):∃ l:List Int,args=[.list (l.map WData.int)]:=by
 have one:∀ {q:List WData},WShape.hasItems [] q .int=true->∃ l:List Int,[WData.list q]=[.list (l.map WData.int)]:=λh=>by refine eE (items_int h) λl e=>?_;exact ⟨l,c7o (λx=>[WData.list x]) e⟩
 cases args with
 | nil=>exact nomatch (show false=true from h)
 | cons x r =>
  refine eA (c8u (show (WShape.has [] x (.list .int)&&WShape.hasAll [] r [])=true from h)) λB F=>?_;cases r with
  | cons y r=>exact nomatch (show false=true from F)
  | nil =>
   cases x with
   | list q=>exact one ((Bool.or_false _).symm.trans (show (WShape.hasItems [] q .int||false)=true from B))
   | _=>exact nomatch (show false=true from B)
theorem b6b {n:Int} {B:List Int} {z:List WData} {r:Option WData} (h:WTm.holds [] (.and (.not (.lt (.lit (.int n)) (.len (.arg 0)))) (.lit (.bool true))) {args:=[.list (B.map WData.int)],res:=r,after:=z}=true):(B.length:Int)<=n:=by
 have q:∀ d:Bool,WTm.holds [] (.and (.not (.lit (.bool d))) (.lit (.bool true))) {args:=[],res:=none,after:=[]}=true->d=false:=λd=>by cases d <;> first | exact λ_=>rfl | exact λh=>nomatch (show false=true from h)
 have:=q (decide (n < ((B.map WData.int).length:Nat))) h;rw [List.length_map] at this;exact Int.not_lt.mp (c78 this)
theorem b17 {v s:List WData}:(WShape.has [] (.bool true) .bool&&WTm.holds [] (.eq .res (.lit (.bool true))) {args:=v,res:=some (.bool true),after:=s})=true:=by
 have q:∀ d:Bool,d=true->WTm.holds [] (.lit (.bool d)) {args:=[],res:=none,after:=[]}=true:=λd e=>by rw[e];rfl
 exact q (same (.bool true) (.bool true)) (by decide +kernel)
theorem b1C {q:Str->Option Addr}:∀ {l:List Int} {vs:List Value} {as:List Addr},ReadsAllW [] q h vs (l.map WData.int) as->IntsAre vs l:=by
 intro l;induction l with
 | nil =>
  intro _ _ z;cases z;exact .nil
 | cons i l B =>
  intro _ _ z;cases z with
  | cons r rs =>
   cases r with
   | int _ t=>exact .cons i t (B rs)
inductive b9Y (h:Heap) (vals:List Value) (l:List Int):Prop
 | mk:∀ sa o vs k,vals=[.ref sa]->h.get? sa=some o->o.cls=.type "list"->o.data=.seq vs k->IntsAre vs.toList l->b9Y h vals l
theorem b2a {F:Str->Option Addr} {l:List Int} {q:List Value} {as:List Addr} (r:ReadsAllW [] F h q [.list (l.map WData.int)] as):b9Y h q l:=by
 cases r with
 | cons U rs =>
 cases rs;cases U with
 | list R J O B=>exact ⟨_,_,_,_,rfl,R,J,O,b1C B⟩
theorem c0r {K:Frag} {J:Addr} {F:Str->Option Value} {x:Str} {v:Value} (q:h.Ns J F) (X:K.In h) (e:nsIn K J x=some (some v)):F x=some v:=by
 refine a1i q λo b a W B _ U=>?_;clear q;unfold nsIn at e
 split at e
 ·rename_i c d O n f V;have:=X _ _ V;rw [W] at this;have Y:=E0 this;clear this;subst Y;injection B with B _
  subst B
  split at e
  ·rename_i Z R;cases e;refine w3 (U x) ?_;rewrite [nsFind,findBy];refine w3 Array.find?_toList ?_;rw[R];rfl
  ·split at e <;> cases e
 ·cases e
theorem b3N {l:OpenLaw} {w:World} {T:Tab} {L:List (Option Txt)} {fds:List Fn} {F:b08} {d B:Shared} {args:List WData} {U:List Value} {as:List Addr} {a:Addr} (ok:b0X T=true) (S:b2H T L B.heap)
  (u:L.map (λo=>o.bind (a58 T))=fds.map some) (Q:b4T (a4u T) fds=F) {C:Str->Option Value} (p:B.heap.Ns mainGlobals C) (m:C l.name=some (.ref a)) (W:T.fns.contains l.name=true)
  (hg:B.gens=#[]) (Z:l.row.claim.pre args=true) (s:ReadsAllW [] (classAt d.heap) B.heap U args as) (V:l.most=some 63) (O:l.bound=none)
  (A:∀ J:List Int,J.length<=63->∃ n,n<=40/\(j3 F n).call 0 (nm l.name) [.fz J] (λ_=>none) λv _=>v=.bool true) :
  wpAny (model l.prog w) callerA (call (.ref a) U) (λv i=>GoodWG l.row.claim (classAt d.heap) (ExcName.means d.heap) args B (.ok (.ret v)) i)
   (λe i=>GoodWG l.row.claim (classAt d.heap) (ExcName.means d.heap) args B (.error e) i) B:=by
 obtain ⟨⟨K,X,j,y⟩,o9,sysm⟩:=S;refine eA (c8u Z) λp1 p2=>eE (b2e p1) λJ q2=>?_;subst q2;have r:l.pre=.and (.not (.lt (.lit (.int (63:Nat))) (.len (.arg 0)))) (.lit (.bool true)):=by
  unfold OpenLaw.pre;rw[V];rw[O];rfl
 have Y:J.length<=63:=Int.ofNat_le.mp (b6b ((c7o (λt=>WTm.holds [] t _) r).symm.trans p2));obtain ⟨c,o,vs,k,rfl,ho,hc,hd,hi⟩:=b2a s;have g:Gok (a9p T fds K B.heap c J B.os) (b5M T):=b8u ok X j y o9 sysm u ⟨o,vs,k,ho,hc,hd,hi⟩;refine j5 (A J Y) λn H G=>?_;have ha:(a9p T fds K B.heap c J B.os).fa 0 (nm l.name)=some a:=by
  refine a1y (g.fn l.name W) λ_ f N P _=>?_;rw[N];have:C l.name=some (.ref f):=c0r p X P;rw [m] at this;injection this with this
  injection this with this
  rw[this];rfl
 have R:A7 (a9p T fds K B.heap c J B.os) w (λ_=>none) B.heap:=⟨λb I e=>⟨e,rfl⟩,λb mo e=>nomatch e⟩
 rw [<- Q,<-b6X T fds K B.heap c J B.os] at G;refine c62 (I6.call (vs:=[.fz J]) (us:=[.ref c]) (cn:=0) (name:=nm l.name) (a9l (b5V λ_ g h=>b1i g h) g n) ?_ R (.cons (show j7 _ _ (.fz J) _ from ⟨rfl,rfl⟩) .nil) ha G) (λv i M=>?_) λ_ _ e=>e.elim
 ·refine ⟨rfl,?_,?_⟩
  ·show 1+claimMargin+6 * n+5<=990;unfold claimMargin;exact c1v H
  ·show 4+200 * n+200<=9900;exact c1w H
 ·refine j9 M λx H' D E q=>?_;clear M;subst q;replace D:=b01 D;subst D;refine ⟨.inl ⟨_,.bool true,[],rfl,λ_=>rfl,.bool true,?_,λ_=>⟨.nil,λ_ h=>nomatch h⟩⟩,.of_keep λb I e=>E.ext.keep b I e rfl λz=>z,E.os,.of_eq (E.gens.trans hg)⟩
  exact b17
noncomputable abbrev c0p:Nm:=3879159
noncomputable abbrev Q0:Nm:=408450923
noncomputable abbrev y0:Nm:=879154534510834
noncomputable abbrev t8:Nm:=421097712
noncomputable abbrev G3:Nm:=7348374206323
noncomputable abbrev l8:Nm:=16130072790460838135
noncomputable abbrev a1n:Nm:=2064649317181367825907
noncomputable abbrev M4:Nm:=16130072790483972850
noncomputable abbrev Z0:Nm:=2064649317184081540708
noncomputable abbrev n_a:Nm:=225
noncomputable abbrev y6:Nm:=60605332325
noncomputable abbrev a1W:Nm:=3699300
noncomputable abbrev K5:Nm:=60615587054
noncomputable abbrev m8:Nm:=7761242453860
noncomputable abbrev n_b:Nm:=226
noncomputable abbrev Y2:Nm:=475559787
noncomputable abbrev a1X:Nm:=7792628595045
noncomputable abbrev V7:Nm:=60879926510
noncomputable abbrev F7:Nm:=7792630593395
noncomputable abbrev n_c:Nm:=227
noncomputable abbrev a1Y:Nm:=477722220
noncomputable abbrev a2l:Nm:=61148444275
noncomputable abbrev U1:Nm:=2110270205568046969586
noncomputable abbrev a1Z:Nm:=7861369123955
noncomputable abbrev x8:Nm:=3750629
noncomputable abbrev Z1:Nm:=61683135219
noncomputable abbrev Q9:Nm:=7900837279588
noncomputable abbrev w8:Nm:=484012772
noncomputable abbrev I3:Nm:=484079460
noncomputable abbrev a0o:Nm:=7932776905204
noncomputable abbrev u7:Nm:=61974869860
noncomputable abbrev b7C:Nm:=3797748
noncomputable abbrev O6:Nm:=486274917
noncomputable abbrev P4:Nm:=1019892022866162
noncomputable abbrev U2:Nm:=73491040912375915632965422232691
noncomputable abbrev u6:Nm:=488206576
noncomputable abbrev P5:Nm:=1023845527599731
noncomputable abbrev y5:Nm:=488208741
noncomputable abbrev t9:Nm:=488272872
noncomputable abbrev P6:Nm:=62777799416
noncomputable abbrev U3:Nm:=8036890161911
noncomputable abbrev a6T:Nm:=62788204528
noncomputable abbrev a5W:Nm:=1028727313560037
noncomputable abbrev a4X:Nm:=492565742
noncomputable abbrev O7:Nm:=494499956
noncomputable abbrev y9:Nm:=3863780
noncomputable abbrev S3:Nm:=494563955
noncomputable abbrev a3a:Nm:=63314852846
noncomputable abbrev O8:Nm:=3879152
noncomputable abbrev a2K:Nm:=496595174
noncomputable abbrev a6U:Nm:=63564184052
noncomputable abbrev F0:Nm:=496662373
noncomputable abbrev a0c:Nm:=1041782929879284
noncomputable abbrev a0p:Nm:=496761459
noncomputable abbrev a8u:Nm:=3880951
noncomputable abbrev a9G:Nm:=498628069
noncomputable abbrev a3I:Nm:=498628473
noncomputable abbrev a3J:Nm:=498628971
noncomputable abbrev v8:Nm:=63824508403
noncomputable abbrev a00:Nm:=1045836823361907
noncomputable abbrev N6:Nm:=63832896485
noncomputable abbrev W8:Nm:=8170610750180
noncomputable abbrev n_n:Nm:=238
noncomputable abbrev U4:Nm:=500789490
noncomputable abbrev C9:Nm:=500953701
noncomputable abbrev N7:Nm:=64122073843
noncomputable abbrev a0q:Nm:=134473735405565926
noncomputable abbrev i9:Nm:=1050784625686899
noncomputable abbrev N8:Nm:=3929957
noncomputable abbrev a4Y:Nm:=30704
noncomputable abbrev y7:Nm:=64401060594
noncomputable abbrev a4Z:Nm:=503165682
noncomputable abbrev A8:Nm:=64629668211
noncomputable abbrev b4b:Nm:=504920436
noncomputable abbrev o8:Nm:=64652603877
noncomputable abbrev x9:Nm:=8275533296371
noncomputable abbrev a2A:Nm:=3946480
noncomputable abbrev a32:Nm:=3947252
noncomputable abbrev a2m:Nm:=1067823836836580
noncomputable abbrev a3b:Nm:=8342373988334
noncomputable abbrev a3K:Nm:=1067828169570661
noncomputable abbrev Y3:Nm:=509245287
noncomputable abbrev a3c:Nm:=8376232343668
noncomputable abbrev a3L:Nm:=511275758
noncomputable abbrev f7:Nm:=511276646
noncomputable abbrev Z2:Nm:=2248622967450708571764
noncomputable abbrev a0r:Nm:=8376773588581
noncomputable abbrev a6V:Nm:=511341550
noncomputable abbrev a3M:Nm:=511343973
noncomputable abbrev a2L:Nm:=511440613
noncomputable abbrev N3:Nm:=511457268
noncomputable abbrev a1o:Nm:=65474754675
noncomputable abbrev a6W:Nm:=513308133
noncomputable abbrev a9H:Nm:=513374573
noncomputable abbrev a9I:Nm:=513375348
noncomputable abbrev a0Q:Nm:=513537636
noncomputable abbrev a8v:Nm:=4012016
noncomputable abbrev a1p:Nm:=513636718
noncomputable abbrev N2:Nm:=8447885834099
noncomputable abbrev N9:Nm:=66240330469
noncomputable abbrev J2:Nm:=1089678813591399
noncomputable abbrev a0d:Nm:=1089816225266291
noncomputable abbrev D0:Nm:=519729765
noncomputable def a6x:Fn:=⟨[S3],
 (d9 (I9 (p7 .add (h9 (.int 1)) (P9 .max (d7 (p7 .add (d6 S3) (G0 (d7 (h9 (.int 0)) f4))) f4))))
 m6)⟩
noncomputable def a2G:Fn:=⟨[f7,u6],
 (d9 (p9 (T1 (d6 f7) u6) (d6 u6))
 m6)⟩
noncomputable def a4H:Fn:=⟨[f7,n_c],
 (d9 (I9 (S0 (a3x (d6 y9) [C9] true (D8 (i8 (o6 (d6 f7) u6) a0q (d7 (d6 n_c) f4))) [y9] true (D8 (a0N (d6 C9) (h9 (.int 1)))) J4)))
 m6)⟩
noncomputable def a2Y:Fn:=⟨[f7,n_c],
 (d9 (p9 (R4 [(m5 a3L),(m5 J2)]) (B6 (d7 a2x (d7 (G0 (d7 (i8 (o6 (d6 f7) u6) I3 (d7 (d6 n_c) f4)) f4)) f4))))
 (d9 (a5z (y8 .ne (d6 J2) (G0 f4))
  (d9 (p9 (m5 y5) (i8 (d6 J2) a2A f4))
  (d9 (U9 (y8 .notin (d6 y5) (d6 a3L))
   (d9 (p9 (a0B (d6 a3L) (d6 y5)) (h9 (.bool true)))
   (d9 (r8 (i8 (d6 J2) Q9 (d7 (i8 (d6 f7) S3 (d7 (d6 y5) f4)) f4)))
   m6))
   m6)
  m6)))
 (d9 (I9 (P9 .sorted (d7 (d6 a3L) f4)))
 m6)))⟩
noncomputable def a0A:Fn:=⟨[f7,n_c],
 (d9 (p9 (R4 [(m5 u7),(m5 a2L),(m5 a3I)]) (B6 (d7 a2x (d7 (i8 (d6 f7) a2m (d7 (d6 n_c) f4)) (d7 (K3 (h9 (.int 1))) f4)))))
 (d9 (a5z (y8 .gt (P9 .len (d7 (d6 u7) f4)) (d6 a3I))
  (d9 (p9 (m5 a3I) (P9 .len (d7 (d6 u7) f4)))
  (d9 (S4 [y5] true (D8 (d6 a2L))
   (d9 (U9 (Q8 (y8 .notin (d6 y5) (d6 u7)) (Q8 (y8 .eq (A9 (d6 y9) [y9] true (D8 (i8 (d6 f7) S3 (d7 (d6 y5) f4))) (Q8 (y8 .notin (d6 y9) (d6 u7)) J4)) (G0 f4)) J4))
    (d9 (p9 (a0B (d6 u7) (d6 y5)) (A4 U1 (d7 (A9 (k8 (d6 u7) (d6 y9)) [y9] true (D8 (i8 (d6 f7) S3 (d7 (d6 y5) f4))) J4) f4)))
    m6)
    m6)
   m6))
  m6)))
 (d9 (I9 (d6 u7))
 m6)))⟩
noncomputable def a4c:Fn:=⟨[f7,n_c,a4Z],
 (d9 (p9 (R4 [(m5 u7),(m5 a2L),(m5 U3)]) (B6 (d7 a2x (d7 (i8 (d6 f7) a2m (d7 (d6 n_c) f4)) (d7 (h9 (.bool true)) f4)))))
 (d9 (a5z (a7z (d6 U3))
  (d9 (p9 (m5 U3) (h9 (.bool false)))
  (d9 (S4 [y5] true (D8 (d6 a2L))
   (d9 (S4 [C9] true (D8 (i8 (o6 (d6 f7) u6) a0q (d7 (d6 y5) f4)))
    (d9 (U9 (y8 .eq (A9 (d6 y9) [y9] true (D8 (a0N (d6 C9) (h9 (.int 1)))) (Q8 (y8 .notin (d6 y9) (d6 u7)) J4)) (G0 f4))
     (d9 (p9 (m5 N9) (a3w a4Z (d7 (A9 (k8 (d6 u7) (d6 y9)) [y9] true (D8 (a0N (d6 C9) (h9 (.int 1)))) J4) f4)))
     (d9 (U9 (V0 (y8 .notin (d6 y5) (d6 u7)) (V0 (y8 .lt (d6 N9) (k8 (d6 u7) (d6 y5))) a5x))
      (d9 (p9 (R4 [(a0B (d6 u7) (d6 y5)),(m5 U3)]) (B6 (d7 (d6 N9) (d7 (h9 (.bool true)) f4))))
      m6)
      m6)
     m6))
     m6)
    m6))
   m6))
  m6)))
 (d9 (I9 (k8 (d6 u7) (i8 (o6 (d6 f7) u6) I3 (d7 (d6 n_c) f4))))
 m6)))⟩
noncomputable def a2X:Fn:=⟨[f7,n_c],
 (d9 (I9 (B6 (d7 (i8 (d6 f7) a6U (d7 (d6 n_c) (d7 (h9 (.fn U1)) f4))) (d7 (i8 (i8 (d6 f7) U2 (d7 (d6 n_c) f4)) b7C (d7 (i8 (o6 (d6 f7) u6) I3 (d7 (d6 n_c) f4)) (d7 (K3 (h9 (.int 1))) f4))) f4))))
 m6)⟩
noncomputable def b5U:Fn:=⟨[a9I],
 (d9 (I9 (b5S (a7N (y8 .ne (d6 a9I) (h9 (.str "")))) (a7N (y8 .eq (A9 (d6 a6V) [a6V] true (D8 (d6 a9I)) (Q8 (V0 (a7z (i8 (d6 a6V) a5W f4)) (V0 (y8 .isin (d6 a6V) (h9 (.str "()[]{},:"))) a5x)) J4)) (G0 f4)))))
 m6)⟩
noncomputable def a4b:Fn:=⟨[f7],
 (d9 (p9 (T1 (d6 f7) N7) (G0 f4))
 (d9 (p9 (T1 (d6 f7) i9) a2x)
 (d9 (p9 (T1 (d6 f7) a0d) (G0 f4))
 (d9 (p9 (T1 (d6 f7) a1Z) (G0 f4))
 m6))))⟩
noncomputable def a7T:Fn:=⟨[f7],
 (d9 (I9 (P9 .len (d7 (o6 (d6 f7) N7) f4)))
 m6)⟩
noncomputable def a7U:Fn:=⟨[f7,a4Y,S3],
 (d9 (p9 (m5 C9) (p7 .add (B6 (d7 (d6 a4Y) f4)) (P9 .tuple (d7 (d6 S3) f4))))
 (d9 (U9 (y8 .isin (d6 C9) (o6 (d6 f7) i9))
  (d9 (I9 (k8 (o6 (d6 f7) i9) (d6 C9)))
  m6)
  m6)
 (d9 (r8 (i8 (d6 f7) a3K (d7 (d6 a4Y) f4)))
 (d9 (S4 [y9] true (D8 (a0N (d6 C9) (h9 (.int 1))))
  (d9 (U9 (b2V (a6l .le .lt (h9 (.int 0)) (d6 y9) (P9 .len (d7 (o6 (d6 f7) N7) f4))))
   (d9 b4y
   m6)
   m6)
  m6))
 (d9 (p9 (a0B (o6 (d6 f7) i9) (d6 C9)) (P9 .len (d7 (o6 (d6 f7) N7) f4)))
 (d9 (r8 (i8 (o6 (d6 f7) N7) m8 (d7 (d6 C9) f4)))
 (d9 (r8 (i8 (o6 (d6 f7) a0d) m8 (d7 (p7 .add (h9 (.int 1)) (P9 .sum (d7 (A9 (k8 (o6 (d6 f7) a0d) (d6 y9)) [y9] true (D8 (a0N (d6 C9) (h9 (.int 1)))) J4) f4))) f4)))
 (d9 (r8 (i8 (o6 (d6 f7) a1Z) m8 (d7 (p7 .add (h9 (.int 1)) (P9 .max (d7 (p7 .add (A9 (k8 (o6 (d6 f7) a1Z) (d6 y9)) [y9] true (D8 (a0N (d6 C9) (h9 (.int 1)))) J4) (G0 (d7 (h9 (.int 0)) f4))) f4))) f4)))
 (d9 (I9 (p7 .sub (P9 .len (d7 (o6 (d6 f7) N7) f4)) (h9 (.int 1))))
 m6)))))))))⟩
noncomputable def a4G:Fn:=⟨[f7,a4Y],
 (d9 (U9 (V0 (b2V (a7z (A4 a6T (d7 (d6 a4Y) f4)))) (V0 (y8 .eq (k8 (d6 a4Y) (h9 (.int 0))) (h9 (.str "?"))) a5x))
  (d9 b4y
  m6)
  m6)
 m6)⟩
noncomputable def b1s:Fn:=⟨[f7,n_n],
 (d9 (I9 (k8 (k8 (o6 (d6 f7) N7) (d6 n_n)) (h9 (.int 0))))
 m6)⟩
noncomputable def a7S:Fn:=⟨[f7,n_n],
 (d9 (I9 (a0N (k8 (o6 (d6 f7) N7) (d6 n_n)) (h9 (.int 1))))
 m6)⟩
noncomputable def a2Z:Fn:=⟨[f7],
 (d9 (p9 (T1 (d6 f7) y6) (G0 f4))
 (d9 (p9 (T1 (d6 f7) a0p) (G0 f4))
 (d9 (p9 (T1 (d6 f7) W8) (G0 f4))
 m6)))⟩
noncomputable def a5t:Fn:=⟨[f7],
 (d9 (r8 (i8 (o6 (d6 f7) y6) m8 (d7 (P9 .len (d7 (o6 (d6 f7) y6) f4)) f4)))
 (d9 (r8 (i8 (o6 (d6 f7) a0p) m8 (d7 (G0 (d7 (P9 .len (d7 (o6 (d6 f7) a0p) f4)) f4)) f4)))
 (d9 (I9 (p7 .sub (P9 .len (d7 (o6 (d6 f7) y6) f4)) (h9 (.int 1))))
 m6)))⟩
noncomputable def a5u:Fn:=⟨[f7],
 (d9 (I9 (P9 .len (d7 (o6 (d6 f7) y6) f4)))
 m6)⟩
noncomputable def a5s:Fn:=⟨[f7,n_a],
 (d9 (a5z (y8 .ne (k8 (o6 (d6 f7) y6) (d6 n_a)) (d6 n_a))
  (d9 (p9 (m5 n_a) (k8 (o6 (d6 f7) y6) (d6 n_a)))
  m6))
 (d9 (I9 (d6 n_a))
 m6))⟩
noncomputable def a4K:Fn:=⟨[f7,n_a,n_b],
 (d9 (p9 (R4 [(m5 O7),(m5 O6)]) (P9 .sorted (d7 (G0 (d7 (i8 (d6 f7) I3 (d7 (d6 n_a) f4)) (d7 (i8 (d6 f7) I3 (d7 (d6 n_b) f4)) f4))) f4)))
 (d9 (U9 (y8 .eq (d6 O7) (d6 O6))
  (d9 (I9 (h9 .none))
  m6)
  m6)
 (d9 (p9 (a0B (o6 (d6 f7) y6) (d6 O6)) (d6 O7))
 (d9 (r8 (i8 (k8 (o6 (d6 f7) a0p) (d6 O7)) Q9 (d7 (k8 (o6 (d6 f7) a0p) (d6 O6)) f4)))
 (d9 (r8 (i8 (o6 (d6 f7) W8) m8 (d7 (B6 (d7 (d6 O7) (d7 (d6 O6) f4))) f4)))
 (d9 (I9 (B6 (d7 (d6 O7) (d7 (d6 O6) f4))))
 m6))))))⟩
noncomputable def a3B:Fn:=⟨[f7,n_a],
 (d9 (I9 (P9 .sorted (d7 (k8 (o6 (d6 f7) a0p) (i8 (d6 f7) I3 (d7 (d6 n_a) f4))) f4)))
 m6)⟩
noncomputable def a4d:Fn:=⟨[f7],
 (d9 (p9 (T1 (d6 f7) Y2) (a6p Q0 f4))
 (d9 (p9 (T1 (d6 f7) N2) (a6p G3 f4))
 (d9 (p9 (T1 (d6 f7) Z1) (G0 f4))
 (d9 (p9 (T1 (d6 f7) a0o) (G0 f4))
 (d9 (p9 (T1 (d6 f7) a3a) a2x)
 (d9 (p9 (T1 (d6 f7) y6) a2x)
 (d9 (p9 (T1 (d6 f7) J2) (G0 f4))
 m6)))))))⟩
noncomputable def a7Y:Fn:=⟨[f7],
 (d9 (I9 (i8 (o6 (d6 f7) Y2) a3M f4))
 m6)⟩
noncomputable def a7X:Fn:=⟨[f7,n_n],
 (d9 (I9 (p7 .add (B6 (d7 (i8 (o6 (d6 f7) Y2) a4Y (d7 (d6 n_n) f4)) f4)) (P9 .tuple (d7 (A9 (i8 (d6 f7) I3 (d7 (d6 y9) f4)) [y9] true (D8 (i8 (o6 (d6 f7) Y2) S3 (d7 (d6 n_n) f4))) J4) f4))))
 m6)⟩
noncomputable def a9j:Fn:=⟨[f7,a4Y,i9],
 (d9 (p9 (m5 n_n) (i8 (o6 (d6 f7) Y2) a6W (d7 (d6 a4Y) (d7 (d6 i9) f4))))
 (d9 (U9 (y8 .lt (d6 n_n) (i8 (o6 (d6 f7) N2) a3M f4))
  (d9 (I9 (d6 n_n))
  m6)
  m6)
 (d9 (r8 (i8 (o6 (d6 f7) N2) a9G f4))
 (d9 (p9 (a0B (o6 (d6 f7) y6) (d6 n_n)) (G0 f4))
 (d9 (S4 [n_c] true (D8 (S0 (A9 (i8 (d6 f7) I3 (d7 (d6 y9) f4)) [y9] true (D8 (d6 i9)) J4)))
  (d9 (r8 (i8 (k8 (o6 (d6 f7) y6) (d6 n_c)) m8 (d7 (d6 n_n) f4)))
  m6))
 (d9 (r8 (i8 (d6 f7) a0c (d7 (d6 n_n) f4)))
 (d9 (I9 (d6 n_n))
 m6)))))))⟩
noncomputable def a9k:Fn:=⟨[f7,a9H],
 (d9 (I9 (i8 (d6 f7) a1W (d7 (k8 (d6 a9H) (h9 (.int 0))) (d7 (P9 .tuple (d7 (A9 (i8 (d6 f7) a32 (d7 (d6 b4b) f4)) [b4b] true (D8 (a0N (d6 a9H) (h9 (.int 1)))) J4) f4)) f4))))
 m6)⟩
noncomputable def a4I:Fn:=⟨[f7,n_n],
 (d9 (p9 (m5 y7) (i8 (o6 (d6 f7) a3a) Z2 (d7 (i8 (d6 f7) C9 (d7 (d6 n_n) f4)) (d7 (d6 n_n) f4))))
 (d9 (U9 (y8 .ne (i8 (d6 f7) I3 (d7 (d6 y7) f4)) (i8 (d6 f7) I3 (d7 (d6 n_n) f4)))
  (d9 (r8 (i8 (d6 f7) a4X (d7 (d6 y7) (d7 (d6 n_n) (d7 (B6 (d7 (h9 (.str "like")) f4)) f4)))))
  m6)
  m6)
 m6))⟩
noncomputable def a7V:Fn:=⟨[f7,n_n],
 (d9 (I9 (i8 (o6 (d6 f7) N2) I3 (d7 (d6 n_n) f4)))
 m6)⟩
noncomputable def a6u:Fn:=⟨[f7,n_a,n_b,a3b],
 (d9 (I9 (i8 (d6 f7) a4X (d7 (d6 n_a) (d7 (d6 n_b) (d7 (d6 a3b) f4)))))
 m6)⟩
noncomputable def a7W:Fn:=⟨[f7,n_a,n_b,a3b],
 (d9 (r8 (i8 (o6 (d6 f7) Z1) m8 (d7 (B6 (d7 (d6 n_a) (d7 (d6 n_b) (d7 (d6 a3b) f4)))) f4)))
 (d9 (p9 (m5 W8) (i8 (o6 (d6 f7) N2) N6 (d7 (d6 n_a) (d7 (d6 n_b) f4))))
 (d9 (U9 (y8 .is (d6 W8) (h9 .none))
  (d9 (I9 (h9 (.bool false)))
  m6)
  m6)
 (d9 (p9 (R4 [(m5 O7),(m5 O6)]) (d6 W8))
 (d9 (r8 (i8 (o6 (d6 f7) a0o) m8 (d7 (p7 .sub (P9 .len (d7 (o6 (d6 f7) Z1) f4)) (h9 (.int 1))) f4)))
 (d9 (r8 (i8 (o6 (d6 f7) J2) Q9 (d7 (k8 (o6 (d6 f7) y6) (d6 O6)) f4)))
 (d9 (p9 (a0B (o6 (d6 f7) y6) (d6 O7)) (p7 .add (k8 (o6 (d6 f7) y6) (d6 O7)) (i8 (o6 (d6 f7) y6) a2A (d7 (d6 O6) f4))))
 (d9 (I9 (h9 (.bool true)))
 m6))))))))⟩
noncomputable def a5r:Fn:=⟨[f7],
 (d9 (a5z (y8 .gt (P9 .len (d7 (o6 (d6 f7) J2) f4)) (h9 (.int 0)))
  (d9 (r8 (i8 (d6 f7) a0c (d7 (i8 (o6 (d6 f7) J2) a2A f4) f4)))
  m6))
 m6)⟩
noncomputable def a4J:Fn:=⟨[f7,n_c],
 (d9 (I9 (i8 (o6 (d6 f7) N2) a00 (d7 (d6 n_c) f4)))
 m6)⟩
noncomputable def a4e:Fn:=⟨[f7,n_c],
 (d9 (I9 (S0 (A9 (i8 (d6 f7) C9 (d7 (d6 n_n) f4)) [n_n] true (D8 (i8 (d6 f7) a00 (d7 (d6 n_c) f4))) J4)))
 m6)⟩
noncomputable def a7Z:Fn:=⟨[w8,D0],
 (d9 (p9 (a0B (d6 w8) (h9 (.str "turn"))) (p7 .add (k8 (d6 w8) (h9 (.str "turn"))) (h9 (.int 1))))
 (d9 (p9 (m5 a1p) (k8 (d6 w8) (h9 (.str "turn"))))
 (d9 (U9 (y8 .le (d6 a1p) (P9 .len (d7 (k8 (d6 w8) (h9 (.str "cells"))) f4)))
  (d9 (I9 (p7 .mod (k8 (k8 (d6 w8) (h9 (.str "cells"))) (p7 .sub (d6 a1p) (h9 (.int 1)))) (d6 D0)))
  m6)
  m6)
 (d9 (I9 (p7 .mod (p7 .mod (p7 .add (p7 .add (p7 .add (p7 .mul (p7 .mul (h9 (.int 5)) (d6 a1p)) (d6 a1p)) (p7 .mul (h9 (.int 11)) (d6 a1p))) (p7 .fdiv (d6 a1p) (h9 (.int 4)))) (k8 (d6 w8) (h9 (.str "blend")))) (h9 (.int 89))) (d6 D0)))
 m6))))⟩
noncomputable def a6v:Fn:=⟨[t9,A8],
 (d9 (p9 (R4 [(m5 v8),(m5 a1X)]) (B6 (d7 (a6o (p7 .add (d6 t9) (h9 (.int 1)))) (d7 (G0 f4) f4))))
 (d9 (a5z (y8 .ne (d6 v8) (d6 a1X))
  (d9 (p9 (R4 [(m5 a1X),(m5 x8)]) (B6 (d7 (P9 .list (d7 (d6 v8) f4)) (d7 (P9 .list (d7 (d6 A8) f4)) f4))))
  (d9 (S4 [N8] true (K8 (d7 (d6 t9) f4))
   (d9 (r8 (i8 (d6 x8) Q9 (d7 (A9 (B6 (d7 (p7 .add (d6 N8) (h9 (.int 1))) (d7 (p7 .add (d6 y7) (h9 (.int 1))) f4))) [y7] true (K8 (d7 (d6 N8) f4)) (Q8 (y8 .eq (k8 (d6 v8) (d6 N8)) (k8 (d6 v8) (d6 y7))) J4)) f4)))
   m6))
  (d9 (S4 [N8,y7] false (D8 (d6 x8))
   (d9 (p9 (R4 [(m5 a8u),(m5 a8v)]) (P9 .sorted (d7 (G0 (d7 (k8 (d6 v8) (d6 N8)) (d7 (k8 (d6 v8) (d6 y7)) f4))) f4)))
   (d9 (p9 (m5 v8) (A9 (a1D (y8 .eq (d6 a3J) (d6 a8v)) (d6 a8u) (d6 a3J)) [a3J] true (D8 (d6 v8)) J4))
   m6)))
  m6))))
 (d9 (I9 (d6 v8))
 m6)))⟩
noncomputable def a6w:Fn:=⟨[t9,A8,F7],
 (d9 (p9 (m5 v8) (A4 a1n (d7 (d6 t9) (d7 (d6 A8) f4))))
 (d9 (p9 (m5 K5) (A9 (d6 n_n) [n_n] true (K8 (d7 (p7 .add (d6 t9) (h9 (.int 1))) f4)) (Q8 (y8 .lt (k8 (d6 v8) (d6 n_n)) (d6 n_n)) J4)))
 (d9 (p9 (m5 Y3) (a1D (y8 .ne (d6 K5) (G0 f4)) (k8 (d6 v8) (k8 (d6 K5) (h9 (.int 0)))) (p7 .add (d6 t9) (h9 (.int 1)))))
 (d9 (p9 (m5 F0) (a1D (y8 .ne (d6 K5) (G0 f4)) (a9h (d6 v8) (k8 (d6 K5) (h9 (.int 0)))) (d6 v8)))
 (d9 (p9 (m5 U4) (p7 .mul (G0 (d7 (p7 .add (d6 t9) (h9 (.int 2))) f4)) (P9 .len (d7 (d6 F0) f4))))
 (d9 (S4 [V7] true (D8 (d6 F7))
  (d9 (p9 (m5 o8) (i8 (d6 F0) P6 (d7 (k8 (d6 v8) (d6 V7)) f4)))
  (d9 (S4 [a1o] true (K8 (d7 (P9 .len (d7 (d6 F0) f4)) f4))
   (d9 (p9 (a0B (d6 U4) (d6 o8)) (P9 .min (d7 (k8 (d6 U4) (d6 o8)) (d7 (p7 .add (h9 (.int 1)) (d6 a1o)) f4))))
   (d9 (U9 (Q8 (y8 .eq (p7 .add (d6 o8) (h9 (.int 1))) (P9 .len (d7 (d6 F0) f4))) (Q8 (y8 .eq (d6 K5) (G0 f4)) J4))
    (d9 b6w
    m6)
    m6)
   (d9 (p9 (m5 o8) (a1D (y8 .lt (p7 .add (d6 o8) (h9 (.int 1))) (P9 .len (d7 (d6 F0) f4))) (p7 .add (d6 o8) (h9 (.int 1))) (i8 (d6 F0) P6 (d7 (d6 Y3) f4))))
   m6))))
  m6)))
 (d9 (p9 (m5 a0Q) (G0 f4))
 (d9 (S4 [n_n] true (K8 (d7 (p7 .add (d6 t9) (h9 (.int 1))) f4))
  (d9 (p9 (m5 o8) (i8 (d6 F0) P6 (d7 (k8 (d6 v8) (d6 n_n)) f4)))
  (d9 (r8 (i8 (d6 a0Q) m8 (d7 (a1D (y8 .ne (d6 K5) (G0 f4)) (B6 (d7 (k8 (d6 U4) (d6 o8)) (d7 (a1D (y8 .ge (d6 o8) (i8 (d6 F0) P6 (d7 (d6 Y3) f4))) (K3 (h9 (.int 1))) (p7 .add (d6 o8) (h9 (.int 1)))) f4))) (B6 (d7 (k8 (d6 U4) (d6 o8)) (d7 (p7 .add (d6 n_n) (h9 (.int 1))) f4)))) f4)))
  m6)))
 (d9 (I9 (d6 a0Q))
 m6)))))))))⟩
noncomputable def a70:Fn:=⟨[N8,y7],
 (d9 (I9 (B6 (d7 (p7 .add (h9 (.int 1)) (P9 .max (d7 (k8 (d6 N8) (h9 (.int 0))) (d7 (k8 (d6 y7) (h9 (.int 0))) f4)))) (d7 (a1D (y8 .isin (K3 (h9 (.int 1))) (B6 (d7 (k8 (d6 N8) (h9 (.int 1))) (d7 (k8 (d6 y7) (h9 (.int 1))) f4)))) (K3 (h9 (.int 1))) (p7 .add (h9 (.int 1)) (P9 .max (d7 (k8 (d6 N8) (h9 (.int 1))) (d7 (k8 (d6 y7) (h9 (.int 1))) f4))))) f4))))
 m6)⟩
noncomputable def c0b:Fn:=⟨[a3c],
 (d9 (p9 (m5 a2l) (A9 (p7 .mod (P9 .int (d7 (d6 a1Y) f4)) (h9 (.int 1000003))) [a1Y] true (D8 (a9h (d6 a3c) (h9 (.int 40)))) J4))
 (d9 (p9 (m5 w8) (a7O ["cells","turn","blend"] (d7 (d6 a2l) (d7 (h9 (.int 0)) (d7 (P9 .sum (d7 (A9 (p7 .mod (P9 .abs (d7 (d6 a1Y) f4)) (h9 (.int 997))) [a1Y] true (D8 (d6 a2l)) J4) f4)) f4)))))
 (d9 (p9 (R4 [(m5 t9),(m5 u6)]) (B6 (d7 (p7 .add (h9 (.int 3)) (A4 l8 (d7 (d6 w8) (d7 (h9 (.int 4)) f4)))) (d7 (a6p t8 f4) f4))))
 (d9 (p9 (R4 [(m5 i9),(m5 A8),(m5 F7)]) (B6 (d7 (G0 (d7 (i8 (d6 u6) a32 (d7 (B6 (d7 (h9 (.str "x")) f4)) f4)) f4)) (d7 (G0 f4) (d7 (G0 (d7 (h9 (.int 0)) f4)) f4)))))
 (d9 (S4 [O8] true (K8 (d7 (d6 t9) f4))
  (d9 (r8 (i8 (d6 i9) m8 (d7 (i8 (d6 u6) a1W (d7 (h9 (.str "f")) (d7 (B6 (d7 (k8 (d6 i9) (K3 (h9 (.int 1)))) f4)) f4))) f4)))
  m6))
 (d9 (S4 [O8] true (K8 (d7 (A4 l8 (d7 (d6 w8) (d7 (h9 (.int 3)) f4))) f4))
  (d9 (r8 (i8 (d6 A8) m8 (d7 (B6 (d7 (A4 l8 (d7 (d6 w8) (d7 (p7 .add (d6 t9) (h9 (.int 1))) f4))) (d7 (A4 l8 (d7 (d6 w8) (d7 (p7 .add (d6 t9) (h9 (.int 1))) f4))) f4))) f4)))
  (d9 (r8 (i8 (d6 u6) N6 (d7 (k8 (d6 i9) (k8 (k8 (d6 A8) (K3 (h9 (.int 1)))) (h9 (.int 0)))) (d7 (k8 (d6 i9) (k8 (k8 (d6 A8) (K3 (h9 (.int 1)))) (h9 (.int 1)))) (d7 (B6 (d7 (h9 (.str "told")) (d7 (p7 .add (h9 (.str "p")) (P9 .str (d7 (d6 O8) f4))) f4))) f4)))))
  m6)))
 (d9 (S4 [O8] true (K8 (d7 (A4 l8 (d7 (d6 w8) (d7 (h9 (.int 3)) f4))) f4))
  (d9 (r8 (i8 (d6 F7) m8 (d7 (A4 l8 (d7 (d6 w8) (d7 (p7 .add (d6 t9) (h9 (.int 1))) f4))) f4)))
  (d9 (p9 (m5 a2K) (i8 (d6 u6) a32 (d7 (B6 (d7 (k8 (h9 (.str "yz")) (d6 O8)) f4)) f4)))
  (d9 (r8 (i8 (d6 u6) N6 (d7 (d6 a2K) (d7 (k8 (d6 i9) (k8 (d6 F7) (K3 (h9 (.int 1))))) (d7 (B6 (d7 (h9 (.str "told")) (d7 (p7 .add (h9 (.str "l")) (P9 .str (d7 (d6 O8) f4))) f4))) f4)))))
  (d9 (r8 (i8 (d6 i9) m8 (d7 (d6 a2K) f4)))
  m6)))))
 (d9 (p9 (m5 D0) (G0 f4))
 (d9 (S4 [O8] true (K8 (d7 (p7 .add (h9 (.int 1)) (A4 l8 (d7 (d6 w8) (d7 (h9 (.int 2)) f4)))) f4))
  (d9 (r8 (i8 (d6 D0) m8 (d7 (B6 (d7 (A4 l8 (d7 (d6 w8) (d7 (p7 .add (d6 t9) (h9 (.int 1))) f4))) (d7 (A4 l8 (d7 (d6 w8) (d7 (p7 .add (d6 t9) (h9 (.int 1))) f4))) f4))) f4)))
  (d9 (r8 (i8 (d6 i9) m8 (d7 (i8 (d6 u6) a1W (d7 (h9 (.str "g")) (d7 (B6 (d7 (k8 (d6 i9) (k8 (k8 (d6 D0) (K3 (h9 (.int 1)))) (h9 (.int 0)))) (d7 (k8 (d6 i9) (k8 (k8 (d6 D0) (K3 (h9 (.int 1)))) (h9 (.int 1)))) f4))) f4))) f4)))
  m6)))
 (d9 (r8 (i8 (d6 i9) m8 (d7 (i8 (d6 u6) a1W (d7 (h9 (.str "g")) (d7 (B6 (d7 (k8 (d6 i9) (K3 (h9 (.int 1)))) (d7 (k8 (d6 i9) (K3 (P9 .len (d7 (d6 D0) f4)))) f4))) f4))) f4)))
 (d9 (r8 (i8 (d6 u6) a0r f4))
 (d9 (p9 (m5 P4) (a6p y0 (d7 (d6 u6) f4)))
 (d9 (S4 [a1p] true (K8 (d7 (h9 (.int 2)) f4))
  (d9 (p9 (m5 x9) (A4 Z0 (d7 (d6 t9) (d7 (d6 A8) (d7 (d6 F7) f4)))))
  (d9 (p9 (m5 x8) (p7 .add (d6 x9) (A9 (k8 (d6 x9) (d6 V7)) [V7] true (D8 (a0N (d6 F7) (h9 (.int 1)))) J4)))
  (d9 (p9 (m5 x8) (p7 .add (d6 x8) (A9 (A4 M4 (d7 (k8 (d6 x9) (d6 N8)) (d7 (k8 (d6 x9) (d6 y7)) f4))) [N8,y7] false (D8 (d6 D0)) J4)))
  (d9 (r8 (i8 (d6 x8) m8 (d7 (A4 M4 (d7 (k8 (d6 x8) (K3 (h9 (.int 1)))) (d7 (k8 (d6 x8) (K3 (P9 .len (d7 (d6 D0) f4)))) f4))) f4)))
  (d9 (S4 [N3] true (D8 (B6 (d7 (A4 l8 (d7 (d6 w8) (d7 (p7 .add (d6 t9) (h9 (.int 1))) f4))) (d7 (A4 l8 (d7 (d6 w8) (d7 (P9 .len (d7 (d6 i9) f4)) f4))) f4))))
   (d9 (U9 (V0 (y8 .ne (i8 (d6 P4) P5 (d7 (k8 (d6 i9) (d6 N3)) f4)) (k8 (d6 x8) (d6 N3))) (V0 (y8 .ne (i8 (d6 P4) P5 (d7 (i8 (d6 u6) I3 (d7 (k8 (d6 i9) (d6 N3)) f4)) f4)) (k8 (d6 x8) (d6 N3))) a5x))
    (d9 (I9 (h9 (.bool false)))
    m6)
    m6)
   m6))
  (d9 (r8 (i8 (d6 A8) m8 (d7 (B6 (d7 (A4 l8 (d7 (d6 w8) (d7 (p7 .add (d6 t9) (h9 (.int 1))) f4))) (d7 (A4 l8 (d7 (d6 w8) (d7 (p7 .add (d6 t9) (h9 (.int 1))) f4))) f4))) f4)))
  (d9 (r8 (i8 (d6 u6) N6 (d7 (k8 (d6 i9) (k8 (k8 (d6 A8) (K3 (h9 (.int 1)))) (h9 (.int 0)))) (d7 (k8 (d6 i9) (k8 (k8 (d6 A8) (K3 (h9 (.int 1)))) (h9 (.int 1)))) (d7 (B6 (d7 (h9 (.str "told")) (d7 (h9 (.str "more")) f4))) f4)))))
  (d9 (r8 (i8 (d6 u6) a0r f4))
  m6)))))))))
 (d9 (I9 (h9 (.bool true)))
 m6))))))))))))))⟩
noncomputable def a71:List Fn:=[a6x,a2G,a4H,a2Y,a0A,a4c,a2X,b5U,a4b,a7T,a7U,a4G,b1s,a7S,a2Z,a5t,a5u,a5s,a4K,a3B,a4d,a7Y,a7X,a9j,a9k,a4I,a7V,a6u,a7W,a5r,a4J,a4e,a7Z,a6v,a6w,a70,c0b]
noncomputable def b3K:List (Nm×Nm):=[(0,U1),(y0,a8t),(y0,S3),(y0,a2m),(y0,U2),(y0,a6U),(y0,P5),(0,a6T),(Q0,a8t),(Q0,a3M),(Q0,a6W),(Q0,a3K),(Q0,a4Y),(Q0,S3),(G3,a8t),(G3,a9G),(G3,a3M),(G3,I3),(G3,N6),(G3,a00),(t8,a8t),(t8,a3M),(t8,C9),(t8,a1W),(t8,a32),(t8,a0c),(t8,I3),(t8,N6),(t8,a4X),(t8,a0r),(t8,a00),(t8,a0q),(0,l8),(0,a1n),(0,Z0),(0,M4),(0,c0p)]
noncomputable def FT:b08:=b4T b3K a71
end Mine.Internal
namespace Mine.Internal
set_option Elab.async false
set_option maxHeartbeats 0
open PySem PySem.W PyProof.Rows
noncomputable def T01:Tab where
 as:=[3,0,102,101,259,258,341,340,471,470,28,27,42,41,61,60,68,67,73,72,85,84,99,98,152,151,171,170,178,177,183,182,190,189,216,215,223,222,277,276,284,283,291,290,298,297,305,304,312,311,359,358,366,365,371,370,376,375,381,380,388,387,395,394,409,408,416,415,423,422,444,443,449,448,482,481,487,486,492,491,499,498,504,503]
 fns:=[(o5 "depth_over"),(o5 "is_op"),(o5 "_law_draw"),(o5 "_law_marks"),(o5 "_law_world"),(o5 "_law_over"),(o5 "law")]
 clss:=[(o5 "Grammar"),(o5 "Bank"),(o5 "Unions"),(o5 "Heap")]
 attrs:=[(o5 "heap"),(o5 "nodes"),(o5 "numbers"),(o5 "weights"),(o5 "depths"),(o5 "above"),(o5 "lots"),(o5 "merged"),(o5 "bank"),(o5 "unions"),(o5 "edges"),(o5 "forest"),(o5 "known"),(o5 "waiting")]
 cl:=[((o5 "Grammar"),102),((o5 "Bank"),259),((o5 "Unions"),341),((o5 "Heap"),471)]
 fes:=[⟨none,(o5 "depth_over"),28⟩,⟨some (o5 "Grammar"),(o5 "__init__"),42⟩,⟨some (o5 "Grammar"),(o5 "kids"),61⟩,⟨some (o5 "Grammar"),(o5 "reached"),68⟩,⟨some (o5 "Grammar"),(o5 "greatest_depths"),73⟩,⟨some (o5 "Grammar"),(o5 "least"),85⟩,⟨some (o5 "Grammar"),(o5 "heights"),99⟩,⟨none,(o5 "is_op"),152⟩,⟨some (o5 "Bank"),(o5 "__init__"),171⟩,⟨some (o5 "Bank"),(o5 "size"),178⟩,⟨some (o5 "Bank"),(o5 "take"),183⟩,⟨some (o5 "Bank"),(o5 "require"),190⟩,⟨some (o5 "Bank"),(o5 "op"),216⟩,⟨some (o5 "Bank"),(o5 "kids"),223⟩,⟨some (o5 "Unions"),(o5 "__init__"),277⟩,⟨some (o5 "Unions"),(o5 "make"),284⟩,⟨some (o5 "Unions"),(o5 "size"),291⟩,⟨some (o5 "Unions"),(o5 "find"),298⟩,⟨some (o5 "Unions"),(o5 "merge"),305⟩,⟨some (o5 "Unions"),(o5 "members"),312⟩,⟨some (o5 "Heap"),(o5 "__init__"),359⟩,⟨some (o5 "Heap"),(o5 "size"),366⟩,⟨some (o5 "Heap"),(o5 "node"),371⟩,⟨some (o5 "Heap"),(o5 "add"),376⟩,⟨some (o5 "Heap"),(o5 "put"),381⟩,⟨some (o5 "Heap"),(o5 "look_at"),388⟩,⟨some (o5 "Heap"),(o5 "find"),395⟩,⟨some (o5 "Heap"),(o5 "merge"),409⟩,⟨some (o5 "Heap"),(o5 "join"),416⟩,⟨some (o5 "Heap"),(o5 "settle"),423⟩,⟨some (o5 "Heap"),(o5 "members"),444⟩,⟨some (o5 "Heap"),(o5 "nodes_of"),449⟩,⟨none,(o5 "_law_draw"),482⟩,⟨none,(o5 "_law_marks"),487⟩,⟨none,(o5 "_law_world"),492⟩,⟨none,(o5 "_law_over"),499⟩,⟨none,(o5 "law"),504⟩]
noncomputable def b7Y:{F:(String->Str)->Program // At F Str.ofString PySem.Challenge.pw_pq0065_01}:=by
 refine ⟨?F,?h⟩
 case h =>
  refine atM ((?z:((?F:(String->Str)->Program) Str.ofString=PySem.Challenge.pw_pq0065_01)->(?F:(String->Str)->Program) Str.ofString=PySem.Challenge.pw_pq0065_01) ?w)
  case w =>
   unfold PySem.Challenge.pw_pq0065_01;generalize Str.ofString=f;exact b7M _ _
  case z=>intro _;exact Eq.refl PySem.Challenge.pw_pq0065_01
noncomputable def a6f:{p:Program // p=PySem.Challenge.pw_pq0065_01}:=⟨b7Y.1 o5,(c7o b7Y.1 a69.symm).trans b7Y.2⟩
noncomputable def a2j:List Str:=[o5 "_wall",o5 "depth_over",o5 "Grammar",o5 "HeapError",o5 "TermFault",o5 "is_op",o5 "parts",o5 "Bank",o5 "Unions",o5 "Heap",o5 "_law_draw",o5 "_law_marks",o5 "_law_world",o5 "_law_over"]
noncomputable def lhsF {α:Type} (f:Shared->α) (h:Params->Heap) (p:Program) (w:World) (os:OsState):=(a7y h w).bind λb=>b6o h p f 4000 b w os
noncomputable def seenF (ks:List Nat) (l:List Str) (p:Program) (s:Shared):=openSeen (view p ks) l (importedModules p.main.body) (λ_=>true) true s
noncomputable def goodF (ks:List Nat) (l:List Str) (p:Program):=openGood (view p ks) l
end Mine.Internal
section
set_option Elab.async false
set_option maxHeartbeats 0
lay_quick Mine.Internal.lhsF
lay_quick Mine.Internal.seenF
lay_quick Mine.Internal.goodF
end
section
set_option Elab.async false
set_option maxHeartbeats 0
open PySem PySem.W PyProof.Rows
theorem Mine.Internal.mini01:Mine.Internal.c0z Mine.Internal.T01 Mine.Internal.a6f.1=Mine.Internal.a71.map some:=by kernel_rfl
theorem Mine.Internal.seen01:∀ w,PySem.W.Fast.tw4264726734810522163 (λs=>(PySem.W.Fast.tw4036098521264024637 [20] Mine.Internal.a2j Mine.Internal.a6f.1 s,Mine.Internal.a3R Mine.Internal.T01 s)) Mine.Internal.b7k.1 Mine.Internal.a6f.1 w=λ_=>some (PySem.W.Fast.tw4065217944589469274 [20] Mine.Internal.a2j Mine.Internal.a6f.1,true,Mine.Internal.a94 Mine.Internal.T01 Mine.Internal.a6f.1):=by
 intro w;kernel_rfl
namespace Mine.Internal
variable {k:Nat}{t:SetTable}{x:Nm}{H:Hp}{o:a0z}{v:f5}{u:Value}{h:Heap}{a:Nat}{vs:Array Value}{xs:List f5}{l:List Nat}{s:Shared}{es:List (f5×f5)}{Q:l7}{e:Ev}{r:En}{i:Nat}{j:Int}{m:Nat}{K:Calls}
theorem m0 (q:Q v H):h9 v K r H Q:=q
theorem f6 (h:r x=some v) (q:Q v H):d6 x K r H Q:=⟨v,h,q⟩
theorem I4 {es:Lv} (h:es K r H λvs q=>Q (.tup vs) q):B6 es K r H Q:=h
theorem V1 {es:Lv} (h:es K r H λvs q=>∀ a,q a=none->Q (.ref a) (q.set a (.list vs))):G0 es K r H Q:=h
theorem g9 {Q:List f5->Hp->Prop} (q:Q [] H):f4 K r H Q:=q
theorem d8 {es:Lv} {Q:List f5->Hp->Prop} (h:e K r H λv q=>es K r q λvs B=>Q (v :: vs) B):d7 e es K r H Q:=h
theorem w9 {o:BOp} {a b:Ev} (h:a K r H λv q=>b K r q λw B=>a3q o v w B Q):p7 o a b K r H Q:=h
theorem a36 {a:Ev} (h:a K r H λv q=>∃ i,v=.int i/\Q (.int (-i)) q):K3 a K r H Q:=h
theorem c0F {a b:Ev} (h:a K r H λv q=>∃ t,v=.bool t/\(t=true->b K r q Q)/\(t=false->Q v q)):b5S a b K r H Q:=h
theorem b5i {c:Cv} (h:c K r H λb q=>Q (.bool b) q):a7N c K r H Q:=h
theorem a3o {c:Cv} {a b:Ev} (h:c K r H λt q=>(t=true->a K r q Q)/\(t=false->b K r q Q)):a1D c a b K r H Q:=h
theorem a5j (h:e K r H λv q=>b0k v x q Q):o6 e x K r H Q:=h
theorem B2 {e i:Ev} (h:e K r H λv q=>i K r q λw B=>a6F v w B Q):k8 e i K r H Q:=h
theorem P0 {b:BI} {as:Lv} (h:as K r H λvs q=>biW b vs q Q):P9 b as K r H Q:=h
theorem P1 {f:Nm} {as:Lv} (h:as K r H λvs q=>K.call 0 f vs q Q):A4 f as K r H Q:=h
theorem b04 {c:Nm} {as:Lv} (h:as K r H λvs q=>b1X K c vs q Q):a6p c as K r H Q:=h
theorem b9r {m:Nm} {as:Lv} (h:e K r H λv q=>∃ k,b7D K.has q v m k/\as K r q λvs B=>N5 K k v m vs B Q):i8 e m as K r H Q:=h
theorem B9 {o:COp} {a b:Ev} {Q:N4} (h:a K r H λv q=>b K r q λw B=>Y7 o v w B Q):y8 o a b K r H Q:=h
theorem a3T {Q:N4} (q:Q true H):J4 K r H Q:=q
theorem Z7 {c B:Cv} {Q:N4} (h:c K r H λb q=>(b=true->B K r q Q)/\(b=false->Q false q)):Q8 c B K r H Q:=h
theorem b7T {c:Cv} {Q:N4} (h:c K r H λb q=>Q (!b) q):b2V c K r H Q:=h
theorem a99 {Q:N4} (h:e K r H λv q=>∃ b,v=.bool b/\Q b q):a7z e K r H Q:=h
theorem a7u {a d c x:Nat} {fs:List (Nm×f5)} {u:f5} (B:H a=some (.inst c d)) (F:H d=some (.ns fs)) (J:a0l fs x=some u) (q:Q u H):b0k (.ref a) x H Q:=⟨c,d,fs,u,⟨a,rfl,B,F⟩,J,q⟩
theorem b0I {l:Nat} (h:i < l) (q:l<=o9):a1q l (i:Int)=some i:=by
 unfold a1q;rw[(c7X q)];rw[(c7X ⟨c7C _,by exact c8E h⟩)];rfl
theorem D9 {x:f5} (h:H a=some (.list xs)) (F:xs.length<=o9) (B:xs[i]?=some x) (q:Q x H):a6F (.ref a) (.int (i:Nat)) H Q :=
 .inr (.inl ⟨xs,i,i,x,.inr ⟨a,rfl,h⟩,rfl,b0I (c8r B).1 F,B,q⟩)
theorem a2g {x:f5} (F:xs.length<=o9) (B:xs[i]?=some x) (q:Q x H):a6F (.tup xs) (.int (i:Nat)) H Q :=
 .inr (.inl ⟨xs,i,i,x,.inl rfl,rfl,b0I (c8r B).1 F,B,q⟩)
theorem L9 (h:H a=some (.list xs)) (B:xs.length<=o9) (q:Q (.int (xs.length:Nat)) H):biW .len [.ref a] H Q:=⟨.ref a,xs,rfl,.inl (.inr ⟨a,rfl,h⟩),B,q⟩
theorem b4f {i j:Int} {Q:N4} (q:Q (!decide (i=j)) H):Y7 .ne (.int i) (.int j) H Q:=⟨decide (i=j),.inl (.inl ⟨rfl,rfl,by
 refine O0 (decide_eq_decide ..) ?_;exact ⟨λe=>by rw[e];rfl,λe=>by injection e⟩⟩),q⟩
theorem a6r {i j:Int} {Q:N4} (q:Q (decide (i=j)) H):Y7 .eq (.int i) (.int j) H Q:=⟨decide (i=j),.inl (.inl ⟨rfl,rfl,by
 refine O0 (decide_eq_decide ..) ?_;exact ⟨λe=>by rw[e];rfl,λe=>by injection e⟩⟩),q⟩
theorem lt_int {i j:Int} {Q:N4} (q:Q (decide (i < j)) H):Y7 .lt (.int i) (.int j) H Q:=⟨i,j,rfl,rfl,q⟩
theorem gt_int {i j:Int} {Q:N4} (q:Q (decide (i > j)) H):Y7 .gt (.int i) (.int j) H Q:=⟨i,j,rfl,rfl,q⟩
theorem s6 {i j:Int} (q:Q (.int (i+j)) H):a3q .add (.int i) (.int j) H Q:=.inl ⟨i,j,rfl,rfl,q⟩
theorem a8X {l m:List f5} (B:l.length+m.length<=o9) (q:Q (.tup (l++m)) H):a3q .add (.tup l) (.tup m) H Q:=.inr (.inr (.inl ⟨l,m,rfl,rfl,B,q⟩))
theorem sub_int {i j:Int} (q:Q (.int (i - j)) H):a3q .sub (.int i) (.int j) H Q:=⟨i,j,rfl,rfl,q⟩
theorem B4 {Q:v9} (h:e K r H λ_ q=>Q .next r q):r8 e K r H Q:=h
theorem w6 {t:Tv} {Q:v9} (h:e K r H λv q=>t K v r q λF B=>Q .next F B):p9 t e K r H Q:=h
theorem z0 {Q:a2Q} (h:Q (r.set x v) H):m5 x K v r H Q:=h
theorem G4 {Q:v9} (h:e K r H λv q=>Q (.ret v) r q):I9 e K r H Q:=h
theorem W9 {c:Cv} {a b:Bv} {Q:v9} (h:c K r H λt q=>(t=true->a K r q Q)/\(t=false->b K r q Q)):U9 c a b K r H Q:=h
theorem b0l {Q:v9} (h:Q .next r H):m6 K r H Q:=h
theorem g8 {s b:Bv} {Q:v9} (h:s K r H λf B q=>a3P f (b K B q Q) (λv=>Q (.ret v) B q) (Q .brk B q)):d9 s b K r H Q:=h
variable {p:Array Nat}{y:Ev}{E:Value->Shared->Prop}{I:Addr}{one:Bool}{acc:List f5}{it:It}{ep:Nat}{L:List El}{up:List Nat}{g:Nat}
theorem b9s {c:En->Hp->N4->Prop} {b:En->Hp->v9->Prop} {Q:v9} (I:Nat->En->Hp->Prop)
  (h:∀ k r H,I k r H->∀ W:v9,(∀ B F q,B < k->I B F q->W .next F q)->c r H λt q=>(t=true->b r q W)/\(t=false->Q .next r q)) :
  ∀ m k r H,k < m->I k r H->b5j c b m r H Q:=by
 intro m;induction m with
 | zero=>intro _ _ _ O _;exact c7Y O (c8p _)
 | succ m V=>intro k r H O U;exact h k r H U _ λB F q R J=>V B F q (c7v R (c7A O)) J
theorem a54 {c:Cv} {b:Bv} {Q:v9} (I:Nat->En->Hp->Prop) (k:Nat) (J:I k r H)
  (h:∀ k r H,I k r H->∀ W:v9,(∀ B F q,B < k->I B F q->W .next F q)->c K r H λt q=>(t=true->b K r q W)/\(t=false->Q .next r q)):a5z c b K r H Q :=
 ⟨k+1,b9s I h (k+1) k r H (c7y k) J⟩
theorem a2H {t:List Nm} {b:En->Hp->v9->Prop} {src:Src} {Q:v9} (l:List f5) (I:Nat->En->Hp->Prop)
  (a:∀ i r H,I i r H->src.next H i l[i]?) (Y:∀ r H,I l.length r H->Q .next r H)
  (h:∀ i v r H,l[i]?=some v->I i r H->∀ W:v9,(∀ F B,I (i+1) F B->W .next F B)->(∀ v F B,Q (.ret v) F B->W (.ret v) F B)->∃ V,a0k t one v r V/\b V H W) :
  ∀ m i r H,l.length - i < m->i<=l.length->I i r H->a4f t one b src m i r H Q:=by
 intro m;induction m with
 | zero=>intro _ _ _ U _ _;exact c7Y U (c8p _)
 | succ m c =>
  intro i r H U Z O;refine ⟨l[i]?,a i r H O,λe=>?_,λv e=>?_⟩
  ·rw [List.getElem?_eq_none_iff] at e;obtain rfl:i=l.length:=Nat.le_antisymm Z e;exact Y r H O
  ·have J:=(c8r e).1;exact h i v r H e O _ (λF B R=>c (i+1) F B (by exact c7v (Nat.sub_succ_lt_self _ _ J) (c7A U)) J R) λv F B q=>q
theorem b5K {turn:f5->Hp->(List f5->Hp->Prop)->Prop} {src:Src} {Q:List f5->Hp->Prop} (l:List f5) (I:Nat->List f5->Hp->Prop)
  (Z:∀ i acc H,I i acc H->src.next H i l[i]?) (V:∀ acc H,I l.length acc H->Q acc H)
  (h:∀ i v acc H,l[i]?=some v->I i acc H->acc.length<=o9/\∀ W:List f5->Hp->Prop,(∀ xs B,I (i+1) (acc++xs) B->W xs B)->turn v H W) :
  ∀ m i acc H,l.length - i < m->i<=l.length->I i acc H->a1L turn src m i acc H Q:=by
 intro m;induction m with
 | zero=>intro _ _ _ O _ _;exact c7Y O (c8p _)
 | succ m a =>
  intro i acc H O Y F;refine ⟨l[i]?,Z i acc H F,λe=>?_,λv e=>?_⟩
  ·rw [List.getElem?_eq_none_iff] at e;obtain rfl:i=l.length:=Nat.le_antisymm Y e;exact V acc H F
  ·have q:=(c8r e).1;exact eA (h i v acc H e F) λR U=>⟨R,U _ λxs B J=>a (i+1) (acc++xs) B (by exact c7v (Nat.sub_succ_lt_self _ _ q) (c7A O)) q J⟩
theorem N0:a0k [x] true v r (r.set x v):=.inl ⟨rfl,x,rfl,rfl⟩
theorem b7F {t:List Nm} {b:Bv} {Q:v9} (h:it.iv K r H λsrc q=>∃ n,a4f t one (b K) src n 0 r q Q):S4 t one it b K r H Q:=h
theorem s9 {n:Nat} {c f:Nm} {vs:List f5} {fd:Fn} (F:FT c f=some fd) (J:vs.length=fd.params.length)
  (h:fd.body (j3 FT n) (bindL fd.params vs En.nil) H λB _ q=>a3P B (Q .none q) λv=>Q v q):(j3 FT (n+1)).call c f vs H Q:=⟨fd,F,J,h⟩
inductive Slot where
 | eg (k:Nat) | lot (i:Nat) | us (i:Nat) | ow (k:Nat)
 deriving DecidableEq
noncomputable abbrev B3:=Slot->Option a0z
noncomputable def upd (C:B3) (s:Slot) (o:a0z):B3:=λt=>if t=s then some o else C t
noncomputable def K4 (lay:Slot->Nat) (s:Slot) (a:Nat):Slot->Nat:=λt=>if t=s then a else lay t
theorem D3 {C:B3} {s:Slot}:upd C s o s=some o:=c7X rfl
theorem j8 {C:B3} {s t:Slot} (h:t≠s):upd C s o t=C t:=c7W h
theorem a2q {lay:Slot->Nat} {s:Slot}:K4 lay s a s=a:=c7X rfl
theorem R9 {lay:Slot->Nat} {s t:Slot} (h:t≠s):K4 lay s a t=lay t:=c7W h
structure J1 (lay:Slot->Nat) (C:B3) (H:Hp):Prop where
 at_:∀ s o,C s=some o->H (lay s)=some o
 inj:∀ s t o p,C s=some o->C t=some p->lay s=lay t->s=t
noncomputable def m7 (H H':Hp):Prop:=∀ a o,H a=some o->H' a=some o
theorem m7.refl (H:Hp):m7 H H:=λ_ _ e=>e
theorem m7.trans {H q B:Hp} (x:m7 H q) (y:m7 q B):m7 H B:=λa o e=>y a o (x a o e)
theorem m7.new (h:H a=none):m7 H (H.set a o):=λb p e=>by
 unfold Hp.set;rw[(c7W (λz=>by rw [z,h] at e;cases e))];exact e
theorem l9:(H.set a o) a=some o:=c7X rfl
theorem J9 {a b:Nat} (h:b≠a):(H.set a o) b=H b:=c7W h
theorem J1.keep {lay:Slot->Nat} {C:B3} {H q:Hp} (x:J1 lay C H) (k:m7 H q):J1 lay C q:=⟨λs o e=>k _ _ (x.at_ s o e),x.inj⟩
theorem J1.put {lay:Slot->Nat} {C:B3} (x:J1 lay C H) {s:Slot} {o p:a0z} (h:C s=some p):J1 lay (upd C s o) (H.set (lay s) o):=by
 have B:∀ t q,upd C s o t=some q->∃ F,C t=some F:=λt q e=>by
  by_cases z:t=s
  ·exact ⟨p,z▸h⟩
  ·rw [j8 z] at e;exact ⟨q,e⟩
 refine ⟨λt q e=>?_,λt u q F e J z=>?_⟩
 ·by_cases z:t=s
  ·subst z;rw [D3] at e;have O:=E0 e;clear e;subst O;exact l9
  ·rw [j8 z] at e;rw[(J9 λw=>z (x.inj t s q p e h w))];exact x.at_ t q e
 ·exact eE (B t q e) λ_ a=>eE (B u F J) λ_ b=>x.inj t u _ _ a b z
theorem J1.take {lay:Slot->Nat} {C:B3} (x:J1 lay C H) {s:Slot} (h:H a=none):J1 (K4 lay s a) (upd C s o) (H.set a o):=by
 have B:∀ t q,C t=some q->lay t≠a:=λt q e z=>by
  have:=x.at_ t q e;rw [z,h] at this;cases this
 refine ⟨λt q e=>?_,λt u q J e F z=>?_⟩
 ·by_cases w:t=s
  ·subst w;rw [D3] at e;have O:=E0 e;clear e;subst O;rw[a2q];exact l9
  ·rw [j8 w] at e;rw[(R9 w)];rw[(J9 (B t q e))];exact x.at_ t q e
 ·by_cases w:t=s <;> by_cases v:u=s
  ·rw[w];rw[v];rfl
  ·rw [j8 v] at F;rw [w,a2q,R9 v] at z;exact c7Y z.symm (B u J F)
  ·rw [j8 w] at e;rw [v,a2q,R9 w] at z;exact c7Y z (B t q e)
  ·rw [j8 w] at e;rw [j8 v] at F;rw [R9 w,R9 v] at z;exact x.inj t u q J e F z
noncomputable abbrev M9:=String×List Nat
noncomputable def iL (l:List Nat):List f5:=l.map λ(i:Nat)=>f5.int i
noncomputable def D6 (x:M9):f5:=.tup (.str x.1 :: iL x.2)
structure St where
 nd:List M9
 up:List Nat
 kn:List (M9×Nat)
 us:List (Nat×List Nat)
 wt:List Nat
 m:Nat
 e:Nat
 f:Nat
noncomputable def a6C (lay:Slot->Nat):List (Nm×f5):=[(Y2,.ref (lay (.eg 2))),(N2,.ref (lay (.eg 8))),(Z1,.ref (lay (.eg 13))),(a0o,.ref (lay (.eg 14))),(a3a,.ref (lay (.eg 15))),(y6,.ref (lay (.eg 16))),(J2,.ref (lay (.eg 17)))]
noncomputable def a8Y (lay:Slot->Nat):List (Nm×f5):=[(N7,.ref (lay (.eg 4))),(i9,.ref (lay (.eg 5))),(a0d,.ref (lay (.eg 6))),(a1Z,.ref (lay (.eg 7)))]
noncomputable def b7R (lay:Slot->Nat):List (Nm×f5):=[(y6,.ref (lay (.eg 10))),(a0p,.ref (lay (.eg 11))),(W8,.ref (lay (.eg 12)))]
noncomputable def T9 (lay:Slot->Nat) (n:Nat):List f5:=(List.range n).map λi=>f5.ref (lay (.lot i))
noncomputable def a01 (nd:List M9):List (f5×f5):=nd.zipIdx.map λp=>(D6 p.1,f5.int p.2)
noncomputable def knV (kn:List (M9×Nat)):List (f5×f5):=kn.map λp=>(D6 p.1,f5.int p.2)
noncomputable def Z5 (lay:Slot->Nat) (us:List (Nat×List Nat)):List (f5×f5):=us.map λp=>(f5.int p.1,f5.ref (lay (.us p.1)))
structure Hd (lay:Slot->Nat) (C:B3):Prop where
 c0:C (.eg 0)=some (.inst t8 (lay (.eg 1)))
 c1:C (.eg 1)=some (.ns (a6C lay))
 c2:C (.eg 2)=some (.inst Q0 (lay (.eg 3)))
 c3:C (.eg 3)=some (.ns (a8Y lay))
 c8:C (.eg 8)=some (.inst G3 (lay (.eg 9)))
 c9:C (.eg 9)=some (.ns (b7R lay))
noncomputable def c0g:Slot->Bool
 | .eg k=>k==0||k==1||k==2||k==3||k==8||k==9
 | _=>false
noncomputable def c6e:Slot->Bool
 | .eg _=>true
 | _=>false
theorem Hd.upd {lay:Slot->Nat} {C:B3} {s:Slot} (h:Hd lay C) (B:c0g s=false):Hd lay (upd C s o):=by
 have q:∀ t,c0g t=true->t≠s:=λt ht e=>by rw [e,B] at ht;cases ht
 exact ⟨(j8 (q _ rfl)).trans h.c0,(j8 (q _ rfl)).trans h.c1,(j8 (q _ rfl)).trans h.c2,(j8 (q _ rfl)).trans h.c3,(j8 (q _ rfl)).trans h.c8,(j8 (q _ rfl)).trans h.c9⟩
theorem Hd.take {lay:Slot->Nat} {C:B3} {s:Slot} (h:Hd lay C) (q:c6e s=false):Hd (K4 lay s a) (Mine.Internal.upd C s o):=by
 cases s with
 | eg k=>cases q
 | lot i=>exact ⟨h.c0,h.c1,h.c2,h.c3,h.c8,h.c9⟩
 | us i=>exact ⟨h.c0,h.c1,h.c2,h.c3,h.c8,h.c9⟩
 | ow i=>exact ⟨h.c0,h.c1,h.c2,h.c3,h.c8,h.c9⟩
structure Up (up:List Nat):Prop where
 le:∀ (i p:Nat),up[i]?=some p->p<=i
noncomputable def a5a (up:List Nat):Nat->Nat->Nat
 | 0,i=>i
 | f+1,i=>match up[i]? with
  | some p=>if p=i then i else a5a up f p
  | none=>i
noncomputable def f9 (up:List Nat) (i:Nat):Nat:=a5a up i i
noncomputable def b9U (C:B3) (up:List Nat) (i:Nat):Prop:=∃ xs:List Nat,C (.lot i)=some (.list (iL xs))/\xs.Nodup/\(∀ j∈xs,j < up.length/\f9 up j=f9 up i)/\(f9 up i=i->∀ j,j < up.length->f9 up j=i->j∈xs)
structure EG (lay:Slot->Nat) (C:B3) (st:St):Prop extends Hd lay C where
 c4:C (.eg 4)=some (.list (st.nd.map D6))
 c5:∃ ep,C (.eg 5)=some (.dict (a01 st.nd) ep)
 c6:∃ l:List Int,C (.eg 6)=some (.list (l.map f5.int))/\l.length=st.nd.length
 c7:∃ l:List Int,C (.eg 7)=some (.list (l.map f5.int))/\l.length=st.nd.length
 c10:C (.eg 10)=some (.list (iL st.up))
 c11:C (.eg 11)=some (.list (T9 lay st.up.length))
 cl:∀ i,i < st.up.length->b9U C st.up i
 c12:∃ xs,C (.eg 12)=some (.list xs)/\xs.length=st.m
 c13:∃ xs,C (.eg 13)=some (.list xs)/\xs.length=st.e
 c14:∃ xs,C (.eg 14)=some (.list xs)/\xs.length=st.f
 c15:∃ ep,C (.eg 15)=some (.dict (knV st.kn) ep)
 c16:∃ ep,C (.eg 16)=some (.dict (Z5 lay st.us) ep)
 cu:∀ p∈st.us,C (.us p.1)=some (.list (iL p.2))
 c17:C (.eg 17)=some (.list (iL st.wt))
theorem a9R (u:Up up):∀ f i,i<=f->a5a up f i=a5a up i i:=by
 intro f;induction f using Nat.strongRecOn with
 | ind f B =>
  intro i q;cases f with
  | zero =>
   obtain rfl:i=0:=by exact Nat.eq_zero_of_le_zero q
   rfl
  | succ f =>
   cases i with
   | zero =>
    unfold a5a;cases e:up[0]? with
    | none=>rfl
    | some p =>
     have:=u.le 0 p e;obtain rfl:p=0:=by exact Nat.eq_zero_of_le_zero this
     simp
   | succ i =>
    unfold a5a;cases e:up[i+1]? with
    | none=>rfl
    | some p =>
     dsimp only;by_cases z:p=i+1
     ·rw[(c7X z)];rw[(c7X z)];rfl
     ·have:=u.le _ p e;rw[(c7W z)];rw[(c7W z)];rw[(B f (c7y f) p (c34 q z this))];by_cases w:i < f
      ·rw[(B i (zo1 w) p (b9F z this))];rfl
      ·obtain rfl:i=f:=by exact Nat.eq_of_lt_succ_of_not_lt q w
       rw[(B i (c7y _) p (b9F z this))];rfl
theorem D4 (u:Up up) {i p:Nat} (e:up[i]?=some p):f9 up i=if p=i then i else f9 up p:=by
 unfold f9;cases i with
 | zero =>
  have:=u.le 0 p e;obtain rfl:p=0:=by exact Nat.eq_zero_of_le_zero this
  rfl
 | succ i =>
  conv=>lhs;unfold a5a
  rw[e];dsimp only;by_cases z:p=i+1
  ·rw[(c7X z)];rw[(c7X z)];rfl
  ·have:=u.le _ p e;rw[(c7W z)];rw[(c7W z)];rw[(a9R u i p (b9F z this))];rfl
theorem a4P {x:Nat} (h:l[i]?=some x):(iL l)[i]?=some (.int x):=by
 unfold iL;rw[c7m];rw[h];rfl
theorem m9 (l:List Nat):(iL l).length=l.length:=c7f ..
theorem b7r {n:Nat} {lay:Slot->Nat} {C:B3} {st:St} (L:J1 lay C H) (E:EG lay C st) (u:Up st.up) (h:∀ p∈st.up,p < st.up.length) (j:st.up.length<=o9) (ha:a < st.up.length) (q:Q (.int (f9 st.up a:Nat)) H) :
  (j3 FT (n+1)).call G3 I3 [.ref (lay (.eg 8)),.int (a:Nat)] H Q:=by
 refine s9 rfl rfl ?_;have l:=L.at_ _ _ E.c8;have m:=L.at_ _ _ E.c9;have o:=L.at_ _ _ E.c10;have J:∀ {r:En} {i p:Nat} {Q:l7},r f7=some (.ref (lay (.eg 8)))->r n_a=some (.int (i:Nat))->st.up[i]?=some p->Q (.int (p:Nat)) H->k8 (o6 (d6 f7) y6) (d6 n_a) (j3 FT n) r H Q:=λO B c q =>
  B2 (a5j (f6 O (a7u l m rfl (f6 B (D9 o (by rw[(m9 ..)];exact j) (a4P c) q)))))
 refine g8 (a54 (λk V Y=>Y=H/\V f7=some (.ref (lay (.eg 8)))/\V n_a=some (.int (k:Nat))/\k < st.up.length/\f9 st.up k=f9 st.up a) a ⟨rfl,rfl,rfl,ha,rfl⟩ λk V Y Z W d=>?_);refine a5L Z λs O B g b=>?_;clear Z;subst s;have F:=c7h g;generalize st.up[k]=p at F;have U:=D4 u F;refine B9 (J O B F (f6 B (b4f ⟨λt=>?_,λt=>?_⟩)))
 ·have R:p≠k:=λe=>by subst e;simp at t
  rw [if_neg R] at U;have:=u.le _ _ F;exact g8 (w6 (J O B F (z0 (d p _ _ (by exact c8k this R) ⟨rfl,O,rfl,h p (c7e F),U.symm.trans b⟩))))
 ·have f:p=k:=by
   have t:decide ((p:Int)=(k:Nat))=true:=by simpa using t
   have:=c7n t;exact b2B this
  rw [if_pos f] at U;refine g8 (G4 (f6 B ?_));show Q _ _;refine w3 U ?_;rw[b];exact q
theorem G7 (u:Up up) (B:∀ p∈up,p < up.length):∀ a,a < up.length->f9 up a < up.length:=by
 intro a;induction a using Nat.strongRecOn with
 | ind a F =>
  intro q;have e:=c7h q;rw[(D4 u e)]
  split
  ·exact q
  ·rename_i h;have:=u.le _ _ e;exact F _ (by exact c8k this h) (B _ (c7e e))
theorem J3 (u:Up up):∀ a,a < up.length->up[f9 up a]?=some (f9 up a):=by
 intro a;induction a using Nat.strongRecOn with
 | ind a B =>
  intro q;have e:=c7h q;rw[(D4 u e)]
  split
  ·rename_i h;rw[e];rw[h];rfl
  ·rename_i h;have:=u.le _ _ e;exact B _ (by exact c8k this h) (by exact c7k this q)
theorem a7f (u:Up up) (h:k < g):Up (up.set g k):=⟨λi p e=>by
 rw [List.getElem?_set] at e
 split at e
 ·rename_i z
  split at e
  ·have q:=E0 e;clear e;subst q;exact c7g (c74 h) (c7z z)
  ·cases e
 ·exact u.le i p e⟩
theorem b8D (l:∀ p∈up,p < up.length) (h:k < up.length):∀ p∈up.set g k,p < (up.set g k).length:=λp B=>by
 rw[c8q];rcases List.mem_or_eq_of_mem_set B with q | rfl
 ·exact l p q
 ·exact h
theorem a3e (u:Up up) (l:∀ p∈up,p < up.length) (O:up[k]?=some k) (F:up[g]?=some g) (h:k < g):∀ a,a < up.length->f9 (up.set g k) a=if f9 up a=g then k else f9 up a:=by
 have U:g < up.length:=(c8r F).1;have V:f9 (up.set g k) k=k:=by
  have:(up.set g k)[k]?=some k:=by refine b9 (List.getElem?_set_ne (by exact Ne.symm (c7F h))) ?_;exact O
  rw[(D4 (a7f u h) this)];rw[(c7X rfl)];rfl
 intro a;induction a using Nat.strongRecOn with
 | ind a R =>
  intro J;have e:=c7h J;by_cases z:a=g
  ·subst z;have B:(up.set a k)[a]?=some k:=by refine b9 (List.getElem?_set_self U) ?_;rfl
   rw[(D4 (a7f u h) B)];rw[(c7W (by exact c7F h))];rw[V];rw[(D4 u F)];rw[(c7X rfl)];rw[(c7X rfl)];rfl
  ·have B:(up.set g k)[a]?=some up[a]:=by refine b9 (List.getElem?_set_ne (λq=>z q.symm)) ?_;exact e
   rw[(D4 (a7f u h) B)];rw[(D4 u e)];by_cases w:up[a]=a
   ·rw[(c7X w)];rw[(c7X w)];rw[(c7W z)];rfl
   ·have:=u.le _ _ e;rw[(c7W w)];rw[(c7W w)];exact R _ (by exact c8k this w) (l _ (c7e e))
theorem a0f (u:Up up) (ha:a < up.length):f9 up (f9 up a)=f9 up a:=by
 rw[(D4 u (J3 u a ha))];rw[(c7X rfl)];rfl
theorem a0g (u:Up up) (h:up[a]?=some a):f9 up a=a:=by rw[(D4 u h)];rw[(c7X rfl)];rfl
theorem a3n (u:Up up):Up (up++[up.length]):=⟨λi p e=>by
 by_cases h:i < up.length
 ·rw [List.getElem?_append_left h] at e;exact u.le i p e
 ·rw [List.getElem?_append_right (b5p h)] at e;have:=c7e e;have:=c8x this;exact Nat.not_lt.mp (this▸h)⟩
theorem b48 (h:a < up.length):(up++[up.length])[a]?=up[a]?:=c8h h
theorem a7e:(up++[up.length])[up.length]?=some up.length:=by simp
theorem V5 (u:Up up) (l:∀ p∈up,p < up.length):∀ a,a < up.length->f9 (up++[up.length]) a=f9 up a:=by
 intro a;induction a using Nat.strongRecOn with
 | ind a B =>
  intro q;have e:=c7h q;rw[(D4 (a3n u) ((b48 q).trans e))];rw[(D4 u e)]
  split
  ·rfl
  ·rename_i h;have:=u.le _ _ e;exact B _ (by exact c8k this h) (l _ (c7e e))
theorem a3d {α:Type} {l m:List α} (h:l.Nodup) (s:∀ a∈l,a∈m):l.length<=m.length:=by
 classical
 induction l generalizing m with
 | nil=>exact c7q _
 | cons a l F =>
  rw [List.nodup_cons] at h;have q:=s a (c7j);have:=F (m:=m.erase a) h.2 λb B=>(List.mem_erase_of_ne λe=>h.1 (by refine w3 e ?_;exact B)).mpr (s b (c7i _ B))
  rw [List.length_erase_of_mem q] at this;have:=List.length_pos_of_mem q;rw[c72];exact c2t ‹_› this
theorem a0s {n:Nat} (h:l.Nodup) (s:∀ a∈l,a < n):l.length<=n:=by
 have:=a3d h (m:=List.range n) λa q=>c8C (s a q);rwa [c70] at this
section
variable {n:Nat}
theorem F6 {m c:Nm} {as:Lv} {a d:Nat} {fs:List (Nm×f5)} (O:(FT c m).isSome=true) (B:H a=some (.inst c d)) (F:H d=some (.ns fs)) (J:a0l fs m=none)
  (R:∀ Q:l7,Q (.ref a) H->e (j3 FT n) r H Q) (h:as (j3 FT n) r H λvs q=>(j3 FT n).call c m (.ref a :: vs) q Q):i8 e m as (j3 FT n) r H Q :=
 R _ ⟨.inst c,⟨d,fs,⟨a,rfl,B,F⟩,J,by rw[(a5I ..)];exact O⟩,h⟩
theorem a5k {e i:Ev} (h:e K r H λv q=>i K r q λw B=>a68 v w B Q):a0N e i K r H Q:=h
theorem a2n {l:List f5} (B:l.length+1<=o9) (q:Q (.tup l) H):a68 (.tup (v :: l)) (.int 1) H Q:=⟨v :: l,1,rfl,by exact Int.le_refl 1,by simp;exact Int.le_add_of_nonneg_left (c7C _),B,.inl ⟨rfl,q⟩⟩
structure Ok (st:St):Prop where
 up:Up st.up
 lt:∀ p∈st.up,p < st.up.length
 small:st.up.length<=17
 nd:st.nd.length<=17
 two:∀ x∈st.nd,x.2.length<=2
variable {lay:Slot->Nat}{C:B3}{st:St}
theorem l5 (h:k<=17):k<=o9:=c7g h (by decide)
theorem P8 (L:J1 lay C H) (E:Hd lay C) (B:∀ Q:l7,Q (.ref (lay (.eg 0))) H->e K r H Q) (h:a0l (a6C lay) x=some v) (q:Q v H):o6 e x K r H Q :=
 a5j (B _ (a7u (L.at_ _ _ E.c0) (L.at_ _ _ E.c1) h q))
theorem a1K (L:J1 lay C H) (E:Hd lay C) (B:∀ Q:l7,Q (.ref (lay (.eg 2))) H->e K r H Q) (h:a0l (a8Y lay) x=some v) (q:Q v H):o6 e x K r H Q :=
 a5j (B _ (a7u (L.at_ _ _ E.c2) (L.at_ _ _ E.c3) h q))
theorem a2b (L:J1 lay C H) (E:Hd lay C) (B:∀ Q:l7,Q (.ref (lay (.eg 8))) H->e K r H Q) (h:a0l (b7R lay) x=some v) (q:Q v H):o6 e x K r H Q :=
 a5j (B _ (a7u (L.at_ _ _ E.c8) (L.at_ _ _ E.c9) h q))
theorem n8 (h:r x=some v):∀ Q:l7,Q v H->d6 x K r H Q:=λ_ q=>⟨v,h,q⟩
theorem b7S (L:J1 lay C H) (E:EG lay C st) (o:Ok st) (q:Q (.int (st.up.length:Nat)) H):(j3 FT (n+1)).call G3 a3M [.ref (lay (.eg 8))] H Q:=by
 refine s9 rfl rfl (g8 (G4 (P0 (d8 (a2b L E.toHd (n8 rfl) rfl (g9 (L9 (L.at_ _ _ E.c10) ?_ ?_)))))))
 ·rw[(m9 ..)];exact l5 o.small
 ·rw[(m9 ..)];exact q
theorem a4O (L:J1 lay C H) (E:EG lay C st) (o:Ok st) (ha:a < st.up.length) (q:Q (.int (f9 st.up a:Nat)) H):(j3 FT (n+2)).call t8 I3 [.ref (lay (.eg 0)),.int (a:Nat)] H Q:=by
 refine s9 rfl rfl (g8 (G4 (F6 (rfl) (L.at_ _ _ E.c8) (L.at_ _ _ E.c9) rfl (λ_ q=>P8 L E.toHd (n8 rfl) rfl q) (d8 (f6 rfl (g9 (b7r L E o.up o.lt (l5 o.small) ha ?_)))))));exact q
theorem bop (L:J1 lay C H) (E:EG lay C st) (o:Ok st) {x:M9} (B:st.nd[i]?=some x) (q:Q (.str x.1) H):(j3 FT (n+1)).call Q0 a4Y [.ref (lay (.eg 2)),.int (i:Nat)] H Q:=by
 refine s9 rfl rfl (g8 (G4 (B2 (B2 (a1K L E.toHd (n8 rfl) rfl (f6 rfl (D9 (x:=D6 x) (L.at_ _ _ E.c4) ?_ ?_ (m0 (a2g (i:=0) ?_ rfl ?_)))))))))
 ·rw[(c7f ..)];exact l5 o.nd
 ·rw[c7m];rw[B];rfl
 ·show (iL x.2).length+1<=o9;have:=o.two x (c7e B);rw[(m9 ..)];unfold o9;exact zo5 this
 ·exact q
theorem b91 (L:J1 lay C H) (E:EG lay C st) (o:Ok st) {x:M9} (B:st.nd[i]?=some x) (q:Q (.tup (iL x.2)) H):(j3 FT (n+1)).call Q0 S3 [.ref (lay (.eg 2)),.int (i:Nat)] H Q:=by
 refine s9 rfl rfl (g8 (G4 (a5k (B2 (a1K L E.toHd (n8 rfl) rfl (f6 rfl (D9 (x:=D6 x) (L.at_ _ _ E.c4) ?_ ?_ (m0 (a2n (v:=.str x.1) ?_ ?_)))))))))
 ·rw[(c7f ..)];exact l5 o.nd
 ·rw[c7m];rw[B];rfl
 ·have:=o.two x (c7e B);rw[(m9 ..)];unfold o9;exact zo5 this
 ·exact q
theorem b1u {α β:Type} (l:List α) (g:α->List β) (i:Nat):((l.take i).flatMap g).length<=(l.flatMap g).length:=by
 have:=c7o List.length (c7o (List.flatMap g) (List.take_append_drop i l));rw [List.flatMap_append,List.length_append] at this;exact Nat.le.intro this
theorem J5 {α β:Type} (l:List α) (g:α->β):(l.flatMap λa=>[g a])=l.map g:=(List.map_eq_flatMap ..).symm
noncomputable def a6e (it:It) (K:Calls) (r:En) (H:Hp) (L:List f5):Prop:=∀ R:Src->Hp->Prop,(∀ src H1,m7 H H1->(∀ H',m7 H1 H'->∀ i,src.next H' i L[i]?)->R src H1)->it.iv K r H R
end
variable {α:Type}{l:List α}{elt:c8H}{ifs:List c8H}{g:α->List f5}{f:α->f5}
theorem Z8 {turn:f5->Hp->(List f5->Hp->Prop)->Prop} {src:Src} {O:Hp} {Q:List f5->Hp->Prop} (Z:∀ B,m7 O B->∀ i,src.next B i (l.map f)[i]?) (Y:(l.flatMap g).length<=o9)
  (h:∀ a∈l,∀ B,m7 O B->∀ P:List f5->Hp->Prop,(∀ J,m7 B J->P (g a) J)->turn (f a) B P) (q:∀ B,m7 O B->Q (l.flatMap g) B):∃ n,a1L turn src n 0 [] O Q:=by
 refine ⟨(l.map f).length+1,b5K (l.map f) (λi acc H=>m7 O H/\acc=(l.take i).flatMap g) (λi acc H F=>Z H F.1 i) (λacc H F=>?_) (λi v acc H U F=>?_) _ 0 [] O (c7y _) (c7q _) ⟨.refl _,rfl⟩⟩
 ·rw[F.2];rw[(c7f ..)];rw[c8c];exact q H F.1
 ·rw [List.getElem?_map] at U;refine j5 (c8v U) λa R b=>?_;subst b;rw[F.2];refine ⟨c7g (b1u l g i) Y,λW V=>h a (c7e R) H F.1 W λJ k=>V _ _ ⟨F.1.trans k,?_⟩⟩;rw[List.take_add_one];rw[R];rw[List.flatMap_append];exact c7o (_++·) (c8d _).symm
theorem Y4 {elt:Ev} {ifs:Cv} (W:(l.flatMap g).length<=o9) (J:a6e it K r H (l.map f))
  (h:∀ a∈l,∀ B,m7 H B->∀ P:List f5->Hp->Prop,(∀ F,m7 B F->P (g a) F)->a2E elt ifs K (r.set x (f a)) B P)
  (q:∀ B a,m7 H B->B a=none->Q (.ref a) (B.set a (.list (l.flatMap g)))):A9 elt [x] true it ifs K r H Q :=
 J _ λsrc b R Y=>Z8 Y W (λv Z B O P U=>⟨_,N0,h v Z B (R.trans O) P U⟩) λB O a V=>q B a (R.trans O) V
variable {l:List Nat}
theorem a3F {l:List f5} (F:∀ Q:l7,(∀ q,m7 H q->Q (.tup l) q)->e K r H Q):a6e (D8 e) K r H l:=λR B=>F _ λq k=>.inl ⟨l,rfl,B _ q k λ_ _ _=>rfl⟩
theorem a4R {l:List f5} (F:∀ Q:l7,(∀ a q,m7 H q->q a=some (.list l)->Q (.ref a) q)->e K r H Q):a6e (D8 e) K r H l :=
 λR B=>F _ λa q k h=>.inr (.inr ⟨a,l,rfl,h,B _ q k λO J i=>⟨l,J _ _ h,rfl⟩⟩)
theorem a05 (k:Nat):Q3 0 (k:Nat)=iL (List.range k):=by
 unfold Q3 iL;rw[(Int.sub_zero ..)];rw[(Int.toNat_natCast ..)];exact c7r λi _=>c7o f5.int (Int.zero_add _)
theorem b3E {e:Lv} (B:k<=o9) (J:∀ Q:List f5->Hp->Prop,(∀ q,m7 H q->Q [.int (k:Nat)] q)->e K r H Q):a6e (K8 e) K r H (iL (List.range k)) :=
 λR F=>J _ λq O=>.inl ⟨k,rfl,by have:=B;exact b9x,by have:=B;exact c8F B,F _ q O λ_ _ i=>c7o (·[i]?) (a05 k).symm⟩
theorem O9 {elt:Ev} {P:List f5->Hp->Prop} (h:elt K r H λx q=>P [x] q):a2E elt J4 K r H P:=⟨λ_=>h,λe=>nomatch e⟩
theorem a8T (h:H a=some (.list xs)) (B:xs.length<=o9) (q:Q (.tup xs) H):biW .tuple [.ref a] H Q:=⟨.ref a,xs,rfl,.inr ⟨a,rfl,h⟩,B,q⟩
theorem b0Z (B:xs.length<=o9) (q:Q (.tup xs) H):biW .tuple [.tup xs] H Q:=⟨.tup xs,xs,rfl,.inl rfl,B,q⟩
theorem b38 (h:v∈iL l):∃ i,i∈l/\v=.int (i:Nat):=by
 refine j5 (c8s h) λi q B=>?_;subst B;exact ⟨i,q,rfl⟩
section
variable {g n:Nat}{lay:Slot->Nat}{C:B3}{st:St}
noncomputable def A5 (up:List Nat) (x:M9):M9:=(x.1,x.2.map (f9 up))
theorem b7s (L:J1 lay C H) (E:EG lay C st) (o:Ok st) (b:Nat.beq f7 x=false) (Y:r f7=some (.ref (lay (.eg 0)))) (W:l.length<=o9) (V:∀ k∈l,k < st.up.length)
  (J:a6e it (j3 FT (n+2)) r H (iL l)) (q:∀ B a,m7 H B->B a=none->Q (.ref a) (B.set a (.list (iL (l.map (f9 st.up)))))):A9 (i8 (d6 f7) I3 (d7 (d6 x) f4)) [x] true it J4 (j3 FT (n+2)) r H Q:=by
 have e:(l.flatMap λi=>[f5.int (f9 st.up i:Nat)])=iL (l.map (f9 st.up)):=by rw[(J5 ..)];unfold iL;rw[c7U];rfl
 refine Y4 (l:=l) (f:=λi=>.int (i:Nat)) (g:=λi=>[.int (f9 st.up i:Nat)]) (by rw[(J5 ..)];rw[(c7f ..)];exact W) J (λi U B k P R=>?_) (by rw[e];exact q)
 have Z:(r.set x (.int (i:Nat))) f7=some (.ref (lay (.eg 0))):=by unfold En.set;rw[b];exact Y
 have O:(r.set x (.int (i:Nat))) x=some (.int (i:Nat)):=by unfold En.set;rw[(Nat.beq_refl ..)];rfl
 have F:=L.keep k;exact O9 (F6 rfl (F.at_ _ _ E.c0) (F.at_ _ _ E.c1) rfl (n8 Z) (d8 (f6 O (g9 (a4O F E o (V i U) (R B (.refl _)))))))
theorem b7w (L:J1 lay C H) (E:EG lay C st) (o:Ok st) (V:∀ x∈st.nd,∀ k∈x.2,k < st.up.length) {x:M9} (F:st.nd[i]?=some x) (q:∀ J,m7 H J->Q (D6 (A5 st.up x)) J):(j3 FT (n+3)).call t8 C9 [.ref (lay (.eg 0)),.int (i:Nat)] H Q:=by
 have B:=o.two x (c7e F);refine s9 rfl rfl (g8 (G4 (w9 (I4 (d8 (F6 (rfl) (L.at_ _ _ E.c2) (L.at_ _ _ E.c3) rfl (λ_ q=>P8 L E.toHd (n8 rfl) rfl q) (d8 (f6 rfl (g9 (bop L E o F (g9 (P0 (d8 (b7s (n:=n) (l:=x.2) L E o rfl rfl ?_ (V x (c7e F)) (a3F λR O=>F6 (rfl) (L.at_ _ _ E.c2) (L.at_ _ _ E.c3) rfl (λ_ q=>P8 L E.toHd (n8 rfl) rfl q) (d8 (f6 rfl (g9 (b91 L E o F (O H (.refl _))))))) λJ a k U=>g9 (a8T l9 ?_ (a8X ?_ ?_))))))))))))))))
 ·unfold o9;exact zo6 B
 ·rw[(m9 ..)];rw[(c7f ..)];unfold o9;exact zo6 B
 ·rw[(m9 ..)];rw[(c7f ..)];show 1+_<=_;unfold o9;exact b9w B
 ·exact q _ (k.trans (.new U))
variable {as:Lv}
theorem E9 (F:∀ Q:l7,Q (.ref a) H->e K r H Q) (B:H a=some (.list xs)) (h:as K r H λvs q=>N5 K (.lst .append) (.ref a) m8 vs q Q):i8 e m8 as K r H Q :=
 F _ ⟨.lst .append,⟨⟨a,xs,rfl,B⟩,rfl⟩,h⟩
theorem a26 (F:∀ Q:l7,Q (.ref a) H->e K r H Q) (B:H a=some (.list xs)) (h:as K r H λvs q=>N5 K (.lst .extend) (.ref a) Q9 vs q Q):i8 e Q9 as K r H Q :=
 F _ ⟨.lst .extend,⟨⟨a,xs,rfl,B⟩,rfl⟩,h⟩
theorem b35 (F:∀ Q:l7,Q (.ref a) H->e K r H Q) (B:H a=some (.list xs)) (h:as K r H λvs q=>N5 K (.lst .pop) (.ref a) a2A vs q Q):i8 e a2A as K r H Q :=
 F _ ⟨.lst .pop,⟨⟨a,xs,rfl,B⟩,rfl⟩,h⟩
theorem b8F (F:∀ Q:l7,Q (.ref a) H->e K r H Q) (B:H a=some (.dict es ep)) (h:as K r H λvs q=>N5 K (.dct .pop) (.ref a) a2A vs q Q):i8 e a2A as K r H Q :=
 F _ ⟨.dct .pop,⟨⟨a,es,ep,rfl,B⟩,rfl⟩,h⟩
theorem b8G (F:∀ Q:l7,Q (.ref a) H->e K r H Q) (B:H a=some (.dict es ep)) (h:as K r H λvs q=>N5 K (.dct .setdefault) (.ref a) Z2 vs q Q):i8 e Z2 as K r H Q :=
 F _ ⟨.dct .setdefault,⟨⟨a,es,ep,rfl,B⟩,rfl⟩,h⟩
theorem H9 {ys:List f5} (h:H a=some (.list ys)) (B:ys.length<=o9) (q:Q .none (H.set a (.list (ys++[v])))):N5 K (.lst .append) (.ref a) m8 [v] H Q:=⟨a,ys,rfl,h,v,rfl,B,q⟩
theorem a2S {b:Nat} {xs ys:List f5} (h:H a=some (.list xs)) (F:H b=some (.list ys)) (B:b≠a) (J:xs.length+ys.length<=o9) (q:Q .none (H.set a (.list (xs++ys)))):N5 K (.lst .extend) (.ref a) Q9 [.ref b] H Q:=⟨a,xs,rfl,h,b,ys,rfl,B,F,J,q⟩
theorem b2I (h:H a=some (.list xs)) (B:xs.length<=o9) (F:xs.getLast?=some v) (q:Q v (H.set a (.list xs.dropLast))):N5 K (.lst .pop) (.ref a) a2A [] H Q:=⟨a,xs,rfl,h,v,rfl,B,F,q⟩
theorem b72 {k v:f5} (h:H a=some (.dict es ep)) (B:M2 es k) (F:es.length<=o9) (J:C0 es k=some v) (q:Q v (H.set a (.dict (a39 es k) (ep+1)))):N5 K (.dct .pop) (.ref a) a2A [k] H Q:=⟨a,es,ep,rfl,h,k,v,rfl,B,F,J,q⟩
theorem b71 {k d:f5} (h:H a=some (.dict es ep)) (B:M2 es k) (q:Q ((C0 es k).getD d) H):N5 K (.dct .get) (.ref a) b7C [k,d] H Q:=⟨a,es,ep,rfl,h,k,d,rfl,B,q⟩
theorem b73 {k d:f5} (h:H a=some (.dict es ep)) (q:M2 es k) (B:es.length<=o9) (F:∀ v,C0 es k=some v->Q v H) (J:C0 es k=none->Q d (H.set a (.dict (es++[(k,d)]) (ep+1)))):N5 K (.dct .setdefault) (.ref a) Z2 [k,d] H Q :=
 ⟨a,es,ep,rfl,h,k,d,rfl,q,B,F,J⟩
theorem a6q:Slot.eg k≠.lot i:=λe=>nomatch e
theorem M6:Slot.lot i≠.eg k:=λe=>nomatch e
theorem O1:Slot.us i≠.eg k:=λe=>nomatch e
theorem a5N:Slot.eg k≠.us i:=λe=>nomatch e
theorem b5c:Slot.us i≠.lot k:=λe=>nomatch e
theorem a9C:Slot.lot i≠.us k:=λe=>nomatch e
structure Q6 (lay:Slot->Nat) (C:B3) (lay':Slot->Nat) (C':B3):Prop where
 eg:∀ k,lay' (.eg k)=lay (.eg k)
 lay:∀ k,lay' (.ow k)=lay (.ow k)
 con:∀ k,C' (.ow k)=C (.ow k)
theorem Q6.refl (lay:Slot->Nat) (C:B3):Q6 lay C lay C:=⟨λ_=>rfl,λ_=>rfl,λ_=>rfl⟩
theorem Q6.trans {J O R:Slot->Nat} {q B F:B3} (x:Q6 J q O B) (y:Q6 O B R F):Q6 J q R F:=⟨λk=>(y.eg k).trans (x.eg k),λk=>(y.lay k).trans (x.lay k),λk=>(y.con k).trans (x.con k)⟩
variable {A:Around}{D:Addr}
noncomputable def St.made (st:St):St:={st with up:=st.up++[st.up.length]}
theorem a0E:iL l++[f5.int (i:Nat)]=iL (l++[i]):=by unfold iL;rw[c7T];rfl
theorem c0E (L:J1 lay C H) (E:EG lay C st) (o:Ok st) (q:∀ R Z k,J1 R Z k->EG R Z st.made->Q6 lay C R Z->Q (.int (st.up.length:Nat)) k):(j3 FT (n+1)).call G3 a9G [.ref (lay (.eg 8))] H Q:=by
 have F:st.up.length<=o9:=l5 o.small;have B:(T9 lay st.up.length).length=st.up.length:=by unfold T9;rw[(c7f ..)];rw[c70];rfl
 have V:=L.put (o:=.list (iL (st.up++[st.up.length]))) E.c10;have c:=E.toHd.upd (s:=.eg 10) (o:=.list (iL (st.up++[st.up.length]))) rfl;have U:(upd C (.eg 10) (.list (iL (st.up++[st.up.length])))) (.eg 11)=some (.list (T9 lay st.up.length)):=(j8 (by decide)).trans E.c11
 refine s9 rfl rfl (g8 (B4 (E9 (λ_ q=>a2b L E.toHd (n8 rfl) rfl q) (L.at_ _ _ E.c10) (d8 (P0 (d8 (a2b L E.toHd (n8 rfl) rfl (g9 (L9 (L.at_ _ _ E.c10) ?_ (g9 (H9 (L.at_ _ _ E.c10) ?_ ?_)))))))))))
 ·rw[(m9 ..)];exact F
 ·rw[(m9 ..)];exact F
 rw[(m9 ..)];rw[a0E];refine g8 (B4 (E9 (λ_ q=>a2b V c (n8 rfl) rfl q) (V.at_ _ _ U) (d8 (V1 (d8 (P0 (d8 (a2b V c (n8 rfl) rfl (g9 (L9 (V.at_ _ _ U) ?_ (g9 λa A=>?_)))))))))))
 ·rw[B];exact F
 rw[B];have l:=V.take (s:=.lot st.up.length) (o:=.list [.int (st.up.length:Nat)]) A;have t:=c.take (s:=.lot st.up.length) (o:=.list [.int (st.up.length:Nat)]) (a:=a) rfl;have f:T9 (K4 lay (.lot st.up.length) a) st.up.length=T9 lay st.up.length:=by
  refine c7r λi W=>?_;(rewrite [R9 λe=>?_];try rfl);injection e with e
  exact c7Y (c8D W) (by exact e▸c7J _)
 have d:=l.put (s:=.eg 11) (o:=.list (T9 (K4 lay (.lot st.up.length) a) (st.up.length+1))) ((j8 a6q).trans U);have h:=t.upd (s:=.eg 11) (o:=.list (T9 (K4 lay (.lot st.up.length) a) (st.up.length+1))) rfl;refine g9 (H9 (l.at_ (.eg 11) _ ((j8 a6q).trans U)) (by rw[B];exact F) ?_)
 have g:T9 lay st.up.length++[.ref a]=T9 (K4 lay (.lot st.up.length) a) (st.up.length+1):=by
  unfold T9;rw[List.range_succ];rw[c7T];show _=T9 _ _++[f5.ref (K4 _ _ _ _)];rw[f];rw[a2q];rfl
 rw[g];refine g8 (G4 (w9 (P0 (d8 (a2b d h (n8 rfl) rfl (g9 (L9 (d.at_ (.eg 10) (.list (iL (st.up++[st.up.length]))) ?_) ?_ (m0 (sub_int ?_)))))))))
 ·exact (j8 (by decide)).trans ((j8 a6q).trans D3)
 ·rw[(m9 ..)];rw[c7P];have:=o.small;show st.up.length+1<=o9;unfold o9;exact c7k this (c7d rfl)
 rw[(m9 ..)];rw[c7P];have u:(((st.up.length+[st.up.length].length:Nat):Int) - 1)=(st.up.length:Nat):=by
  show ((st.up.length+1:Nat):Int) - 1=_;exact Int.sub_eq_iff_eq_add.mpr rfl
 rw[u];refine q _ _ _ d ?_ ⟨λ_=>rfl,λ_=>rfl,λ_=>rfl⟩;exact {h with
  c4:=E.c4,c5:=E.c5,c6:=E.c6,c7:=E.c7
  c10:=rfl
  c11:=by rw[(show (St.made st).up.length=st.up.length+1 from c7P)];exact D3
  cl:=λi W=>by
   by_cases z:i=st.up.length
   ·subst z;refine ⟨[st.up.length],(j8 M6).trans D3,List.nodup_cons.mpr ⟨c7E,c8g⟩,λj J=>?_,λ_ j J e=>?_⟩
    ·rw[(c8x J)];exact ⟨W,rfl⟩
    ·have J:j < (st.up++[st.up.length]).length:=J;have e:f9 (st.up++[st.up.length]) j=st.up.length:=e;rw [List.length_append] at J;refine c8B (Decidable.byContradiction λI=>?_);have O:j < st.up.length:=c8k (c7A J) I;rw [V5 o.up o.lt j O] at e;exact c7Y (G7 o.up o.lt j O) (by rw[e];exact c7J _)
   ·rw [show (St.made st).up.length=st.up.length+1 from List.length_append] at W;have Y:i < st.up.length:=c8k (c7A W) z;refine N1 (E.cl i Y) λK v G x y=>?_;have r:=V5 o.up o.lt i Y;refine ⟨K,(j8 M6).trans ((j8 (λe=>by injection e with e;exact z e)).trans ((j8 M6).trans v)),G,λj J=>?_,λe j J m=>?_⟩
    ·refine eA (x j J) λa b=>⟨?_,(V5 o.up o.lt j a).trans (b.trans r.symm)⟩;show j < (st.up++[st.up.length]).length;rw[c7P];exact c8n a
    ·have J:j < (st.up++[st.up.length]).length:=J;rw [List.length_append] at J;by_cases w:j=st.up.length
     ·subst w;exact c7Y ((a0g (a3n o.up) a7e).symm.trans m).symm z
     ·have O:j < st.up.length:=c8k (c7A J) w;exact y (r.symm.trans e) j O ((V5 o.up o.lt j O).symm.trans m)
  c12:=E.c12,c13:=E.c13,c14:=E.c14,c15:=E.c15,c16:=E.c16
  cu:=λp D=>(j8 O1).trans ((j8 b5c).trans ((j8 O1).trans (E.cu p D)))
  c17:=E.c17}
theorem b4L (x y:Int):T0 [x,y]=[min x y,max x y]:=by
 unfold T0;have e:[x,y].mergeSort (λa b=>decide (a<=b))=if x<=y then [x,y] else [y,x]:=by
  simp [List.mergeSort,List.MergeSort.Internal.splitInTwo,List.merge]
 rw[e];by_cases h:x<=y
 ·rw[(c7X h)];rw[(Int.min_eq_left h)];rw[(Int.max_eq_right h)];rfl
 ·rw[(c7W h)];rw[(Int.min_eq_right (by exact Int.le_of_not_le h))];rw[(Int.max_eq_left (by exact Int.le_of_not_le h))];rfl
theorem b0y {Q:N4} (q:(v=.none->Q true H)/\(v≠.none->Q false H)):Y7 .is v .none H Q:=by
 refine ⟨rfl,?_⟩;by_cases h:v=.none
 ·have e:=q.1 h;rwa [<- @decide_eq_true _ (Classical.propDecidable _) h] at e
 ·have e:=q.2 h;rwa [<- @decide_eq_false _ (Classical.propDecidable _) h] at e
theorem a8L {e i:Ev} {Q:a2Q} (B:∀ Q:l7,Q (.ref a) H->e K r H Q) (F:∀ Q:l7,Q (.int (k:Nat)) H->i K r H Q) (h:H a=some (.list xs)) (J:k < xs.length) (O:xs.length<=o9) (q:Q r (H.set a (.list (xs.set k v)))):a0B e i K v r H Q :=
 B _ (F _ (.inl ⟨a,xs,k,rfl,h,rfl,c7C _,by exact c8E J,O,q⟩))
theorem a4W {x y:Nm} {v w:f5} {u:f5} {Q:a2Q} (h:a14 H u [v,w]) (q:Q ((r.set x v).set y w) H):R4 [m5 x,m5 y] K u r H Q:=⟨[v,w],h,rfl,v,[w],rfl,w,[],rfl,rfl,q⟩
theorem b47 (L:J1 lay C H) (E:EG lay C st) (o:Ok st) (ha:a < st.up.length) (q:Q (.int (f9 st.up a:Nat)) H):(j3 FT (n+1)).call G3 I3 [.ref (lay (.eg 8)),.int (a:Nat)] H Q :=
 b7r L E o.up o.lt (l5 o.small) ha q
noncomputable def St.joined (st:St) (k g:Nat):St:={st with up:=st.up.set g k,m:=st.m+1}
variable {x1 x3:Nat}{X:Addr->Prop}{S:Addr}
theorem b3y {k v:Nat}:(iL l).set k (.int (v:Nat))=iL (l.set k v):=by
 unfold iL;rw[List.map_set];rfl
theorem a6N (h:i < m):(T9 lay m)[i]?=some (.ref (lay (.lot i))):=by
 unfold T9;rw[c7m];refine b9 (List.getElem?_range h) ?_;rfl
theorem a95 (L:J1 lay C H) (E:EG lay C st) (o:Ok st) (V:k < g) (f:g < st.up.length) (rk:st.up[k]?=some k) (rg:st.up[g]?=some g) (hm:st.m<=17) (G:r f7=some (.ref (lay (.eg 8)))) (y:r O7=some (.int (k:Nat))) (A:r O6=some (.int (g:Nat)))
  (q:∀ K u,J1 lay K u->EG lay K (st.joined k g)->Q6 lay C lay K->Q (.tup [.int (k:Nat),.int (g:Nat)]) u) {B:Prop} :
  (d9 (p9 (a0B (o6 (d6 f7) y6) (d6 O6)) (d6 O7))
  (d9 (r8 (i8 (k8 (o6 (d6 f7) a0p) (d6 O7)) Q9 (d7 (k8 (o6 (d6 f7) a0p) (d6 O6)) f4)))
  (d9 (r8 (i8 (o6 (d6 f7) W8) m8 (d7 (B6 (d7 (d6 O7) (d7 (d6 O6) f4))) f4)))
  (d9 (I9 (B6 (d7 (d6 O7) (d7 (d6 O6) f4))))
  m6)))) (j3 FT n) r H (λfl _ u=>a3P fl B λv=>Q v u):=by
 have O:st.up.length<=o9:=l5 o.small;have l:(T9 lay st.up.length).length=st.up.length:=by unfold T9;rw[(c7f ..)];rw[c70];rfl
 have U:=L.put (o:=.list (iL (st.up.set g k))) E.c10;have M:=E.toHd.upd (s:=.eg 10) (o:=.list (iL (st.up.set g k))) rfl;have t:(upd C (.eg 10) (.list (iL (st.up.set g k)))) (.eg 11)=some (.list (T9 lay st.up.length)):=(j8 (by decide)).trans E.c11
 have rs:=a3e o.up o.lt rk rg V;have R:=a0g o.up rk;have d:=a0g o.up rg;refine N1 (E.cl k (c77 V f)) λY x1 xn P x3=>N1 (E.cl g f) λZ y1 yn S y3=>?_;have xl:Y.length<=17:=c7g (a0s xn λj F=>(P j F).1) o.small;have yl:Z.length<=17:=c7g (a0s yn λj F=>(S j F).1) o.small;refine j5 E.c12 λN m1 m2=>?_;have I:(upd C (.eg 10) (.list (iL (st.up.set g k)))) (.lot k)=some (.list (iL Y)):=(j8 M6).trans x1
 have ng:(upd C (.eg 10) (.list (iL (st.up.set g k)))) (.lot g)=some (.list (iL Z)):=(j8 M6).trans y1;refine g8 (w6 (f6 y (a8L (λ_ q=>a2b L E.toHd (n8 G) rfl q) (n8 A) (L.at_ _ _ E.c10) (by rw[(m9 ..)];exact f) (by rw[(m9 ..)];exact O) ?_)))
 rw[b3y];refine g8 (B4 (a26 (λ_ q=>B2 (a2b U M (n8 G) rfl (f6 y (D9 (U.at_ _ _ t) (by rw[l];exact O) (a6N (by exact c77 V f)) q)))) (U.at_ _ _ I) (d8 (B2 (a2b U M (n8 G) rfl (f6 A (D9 (U.at_ _ _ t) (by rw[l];exact O) (a6N f) (g9 (a2S (U.at_ _ _ I) (U.at_ _ _ ng) ?_ ?_ ?_)))))))))
 ·intro e;have:=U.inj _ _ _ _ ng I e;injection this with this
  exact c7F V this.symm
 ·rw[(m9 ..)];rw[(m9 ..)];unfold o9;exact c7g (c8f xl yl) (c7d rfl)
 rw[(show iL Y++iL Z=iL (Y++Z) from (c7T ..).symm)];have x:=U.put (o:=.list (iL (Y++Z))) I;have T:=M.upd (s:=.lot k) (o:=.list (iL (Y++Z))) rfl;have c:(upd (upd C (.eg 10) (.list (iL (st.up.set g k)))) (.lot k) (.list (iL (Y++Z)))) (.eg 12)=some (.list N):=(j8 a6q).trans ((j8 (by decide)).trans m1)
 have L3:=x.put (o:=.list (N++[.tup [.int (k:Nat),.int (g:Nat)]])) c;have E3:=T.upd (s:=.eg 12) (o:=.list (N++[.tup [.int (k:Nat),.int (g:Nat)]])) rfl;refine g8 (B4 (E9 (λ_ q=>a2b x T (n8 G) rfl q) (x.at_ _ _ c) (d8 (I4 (d8 (f6 y (d8 (f6 A (g9 (g9 (H9 (x.at_ _ _ c) ?_ ?_)))))))))))
 ·rw[m2];unfold o9;exact c7g hm (c7d rfl)
 refine g8 (G4 (I4 (d8 (f6 y (d8 (f6 A (g9 ?_)))))));refine q _ _ L3 ?_ ⟨λ_=>rfl,λ_=>rfl,λ_=>rfl⟩;have W:(st.joined k g).up.length=st.up.length:=c8q;exact {E3 with
  c4:=E.c4,c5:=E.c5,c6:=E.c6,c7:=E.c7
  c10:=rfl
  c11:=by rw[W];exact E.c11
  cl:=λi D=>by
   rw [W] at D;by_cases z:i=k
   ·subst z;have e:f9 (st.up.set g i) i=i:=by rw[(rs i (c77 V f))];rw[(c7W (c38 V R))];exact R
    refine ⟨Y++Z,(j8 M6).trans D3,List.nodup_append.mpr ⟨xn,yn,λa X b hb z=>?_⟩,λj F=>?_,λ_ j F J=>?_⟩
    ·rw [z] at X;have:=(P b X).2.symm.trans (S b hb).2;exact c7F V (R.symm.trans (this.trans d))
    ·show j < (st.up.set g i).length/\f9 (st.up.set g i) j=f9 (st.up.set g i) i;rw[e];rcases c8w F with h | h
     ·refine eA (P j h) λa b=>?_;rw[c8q];rw[(rs j a)];rw[b];rw[R];rw[(c7W (by exact c7F V))];exact ⟨a,rfl⟩
     ·refine eA (S j h) λa b=>?_;rw[c8q];rw[(rs j a)];rw[b];rw[d];rw[(c7X rfl)];exact ⟨a,rfl⟩
    ·have F:j < (st.up.set g i).length:=F;have J:f9 (st.up.set g i) j=i:=J;rw [List.length_set] at F;rw [rs j F] at J;refine List.mem_append.mpr ?_;by_cases w:f9 st.up j=g
     ·exact .inr (y3 d j F w)
     ·rw [if_neg w] at J;exact .inl (x3 R j F J)
   ·refine N1 (E.cl i D) λzs z1 zn z2 z3=>⟨zs,(j8 M6).trans ((j8 (λe=>by injection e with e;exact z e)).trans ((j8 M6).trans z1)),zn,λj F=>?_,λe j F J=>?_⟩
    ·refine eA (z2 j F) λa b=>?_;show j < (st.up.set g k).length/\f9 (st.up.set g k) j=f9 (st.up.set g k) i;rw[c8q];rw[(rs j a)];rw[(rs i D)];rw[b];exact ⟨a,rfl⟩
    ·have F:j < (st.up.set g k).length:=F;rw [List.length_set] at F;have J:f9 (st.up.set g k) j=i:=J;have e:f9 (st.up.set g k) i=i:=e;rw [rs j F] at J;rw [rs i D] at e;by_cases w:f9 st.up j=g
     ·rw [if_pos w] at J;exact c7Y J.symm z
     ·rw [if_neg w] at J;by_cases w2:f9 st.up i=g
      ·rw [if_pos w2] at e;exact c7Y e.symm z
      ·rw [if_neg w2] at e;exact z3 e j F J
  c12:=⟨_,D3,by rw[c7P];rw[m2];rfl⟩
  c13:=E.c13
  c14:=E.c14
  c15:=E.c15,c16:=E.c16
  cu:=λp hp=>(j8 O1).trans ((j8 b5c).trans ((j8 O1).trans (E.cu p hp)))
  c17:=E.c17}
theorem a17 {l:List Int} (h:H a=some (.list (l.map f5.int))) (B:l.length < 64) (q:∀ b,H b=none->Q (.ref b) (H.set b (.list ((T0 l).map f5.int)))):biW .sorted [.ref a] H Q :=
 ⟨a,l,rfl,.inl h,B,by rw[(c7f ..)];rewrite [T0];rw[(List.length_mergeSort ..)];unfold o9;exact b69 B,q⟩
theorem b9o (L:J1 lay C H) (E:EG lay C st) (o:Ok st) {a b:Nat} (ha:a < st.up.length) (R:b < st.up.length) (i:st.m<=17)
  (r:f9 st.up a=f9 st.up b->∀ q,m7 H q->Q .none q)
  (u:f9 st.up a≠f9 st.up b->∀ F q,J1 lay F q->EG lay F (st.joined (min (f9 st.up a) (f9 st.up b)) (max (f9 st.up a) (f9 st.up b)))->Q6 lay C lay F ->
   Q (.tup [.int (min (f9 st.up a) (f9 st.up b):Nat),.int (max (f9 st.up a) (f9 st.up b):Nat)]) q):(j3 FT (n+2)).call G3 N6 [.ref (lay (.eg 8)),.int (a:Nat),.int (b:Nat)] H Q:=by
 have v:=G7 o.up o.lt a ha;have w:=G7 o.up o.lt b R;have O:st.up[min (f9 st.up a) (f9 st.up b)]?=some (min (f9 st.up a) (f9 st.up b)):=by
  rcases c7O (f9 st.up a) (f9 st.up b) with z | z
  ·rw[(Nat.min_eq_left z)];exact J3 o.up a ha
  ·rw[(Nat.min_eq_right z)];exact J3 o.up b R
 have J:st.up[max (f9 st.up a) (f9 st.up b)]?=some (max (f9 st.up a) (f9 st.up b)):=by
  rcases c7O (f9 st.up a) (f9 st.up b) with z | z
  ·rw[(Nat.max_eq_right z)];exact J3 o.up b R
  ·rw[(Nat.max_eq_left z)];exact J3 o.up a ha
 refine s9 rfl rfl (g8 (w6 (P0 (d8 (V1 (d8 (F6 (rfl) (L.at_ _ _ E.c8) (L.at_ _ _ E.c9) rfl (n8 rfl) (d8 (f6 rfl (g9 (b47 L E o ha (d8 (F6 (rfl) (L.at_ _ _ E.c8) (L.at_ _ _ E.c9) rfl (n8 rfl) (d8 (f6 rfl (g9 (b47 L E o R (g9 λc g=>g9 (a17 (l:=[(f9 st.up a:Int),(f9 st.up b:Int)]) l9 (c7d rfl) λd h=>?_)))))))))))))))))));have j:m7 H (H.set c (.list [.int (f9 st.up a:Nat),.int (f9 st.up b:Nat)])):=.new g
 have V:=j.trans (.new (o:=.list ((T0 [(f9 st.up a:Int),(f9 st.up b:Int)]).map f5.int)) h);have W:=L.keep V;have f:(T0 [(f9 st.up a:Int),(f9 st.up b:Int)]).map f5.int=[.int (min (f9 st.up a) (f9 st.up b):Nat),.int (max (f9 st.up a) (f9 st.up b):Nat)]:=by
  have k:min (f9 st.up a:Int) (f9 st.up b:Int)=((min (f9 st.up a) (f9 st.up b):Nat):Int):=by exact c5k
  have p:max (f9 st.up a:Int) (f9 st.up b:Int)=((max (f9 st.up a) (f9 st.up b):Nat):Int):=by exact b9y
  rw[(b4L ..)];rw[k];rw[p];rfl
 generalize Y:(Hp.set (H.set c (.list [.int (f9 st.up a:Nat),.int (f9 st.up b:Nat)])) d (.list ((T0 [(f9 st.up a:Int),(f9 st.up b:Int)]).map f5.int)))=Z at V W;have U:Z d=some (.list [.int (min (f9 st.up a) (f9 st.up b):Nat),.int (max (f9 st.up a) (f9 st.up b):Nat)]):=by refine w3 Y ?_;rw[f];exact l9
 clear Y;refine a4W (.inr ⟨d,rfl,U⟩) (g8 (W9 (B9 (f6 rfl (f6 rfl (a6r ⟨λt=>?_,λt=>?_⟩))))))
 ·have t:=c7n t;exact g8 (G4 (m0 (r (c1K t) _ V)))
 ·have t:=c78 t;refine a95 (B:=True) W E o (c23 t) (by exact Nat.max_lt.mpr ⟨v,w⟩) O J i rfl rfl rfl λF q l e s=>u (c24 t) F q l e s
section
open Classical
variable {x:M9}{ug:List Nat}
theorem a72 {α:Type} {l:List α} {f:α->f5×f5} {k:f5} {x:α} (h:x∈l) (B:(f x).1=k) (q:∀ y∈l,(f y).1=k->y=x):C0 (l.map f) k=some (f x).2:=by
 unfold C0;have:((l.map f).find? λp=>decide (p.1=k))=some (f x):=by
  induction l with
  | nil=>cases h
  | cons y l J =>
   rw[c7Z];refine b9 List.find?_cons ?_;by_cases e:(f y).1=k
   ·rw[(c76 e)];rw[(q y (c7j) e)];rfl
   ·rw[(c7N e)];refine J ?_ λz F=>q z (c7i _ F);rcases c8z h with rfl | h
    ·exact c7Y B e
    ·exact h
 rw[this];rfl
theorem b1t {α:Type} {l:List α} {f:α->f5×f5} {k:f5} (h:∀ y∈l,(f y).1≠k):C0 (l.map f) k=none:=by
 unfold C0;have:((l.map f).find? λp=>decide (p.1=k))=none:=by
  refine O0 (List.find?_eq_none ..) ?_;intro p q;refine j5 (c8s q) λy B F=>?_;subst F;simpa using h y B
 rw[this];rfl
theorem b0x {α:Type} {l:List α} {f:α->f5×f5} {g:α->Nat} (h:∀ y,(f y).1=.int (g y:Nat)) (i:Nat):M2 (l.map f) (.int (i:Nat)):=by
 refine ⟨rfl,λp q=>?_⟩;refine j5 (c8s q) λy _ B=>?_;subst B;rw[(h y)];rfl
noncomputable def Q5 (us:List (Nat×List Nat)) (k g:Nat) (ug:List Nat):List (Nat×List Nat):=(us.filter λp=>p.1 != g).map λp=>if p.1=k then (k,p.2++ug) else p
theorem b5N {lay:Slot->Nat} {us:List (Nat×List Nat)}:a39 (Z5 lay us) (.int (g:Nat))=Z5 lay (us.filter λp=>p.1 != g):=by
 unfold a39 Z5;rw[List.filter_map]
 congr 1
 refine List.filter_congr λp _=>?_;show decide (f5.int (p.1:Nat)≠f5.int (g:Nat))=_;by_cases e:p.1=g
 ·rw[e];simp
 ·have:f5.int (p.1:Nat)≠f5.int (g:Nat):=λz=>by injection z with z;exact e (Int.ofNat_inj.mp z)
  rw[(c76 this)];simp [e]
end
variable {ug:List Nat}
structure Us (st:St):Prop where
 nod:(st.us.map (·.1)).Nodup
 has:∀ c,c < st.up.length->f9 st.up c=c->∃ u,(c,u)∈st.us
 len:st.us.length<=17
 small:∀ p∈st.us,p.2.length<=100000
 wt:st.wt.length<=100000
 m:st.m<=17
 e:st.e<=100000
 f:st.f<=100000
noncomputable def St.edge (st:St):St:={st with e:=st.e+1}
noncomputable def St.join (st:St) (k g:Nat) (ug:List Nat):St:={st with up:=st.up.set g k,m:=st.m+1,e:=st.e+1,f:=st.f+1,wt:=st.wt++ug,us:=Q5 st.us k g ug}
variable {x:M9}
theorem b5b (u:Us st) {c:Nat} {R:List Nat} (h:(c,R)∈st.us):C0 (Z5 lay st.us) (.int (c:Nat))=some (.ref (lay (.us c))):=by
 refine a72 (f:=λp:Nat×List Nat=>(f5.int (p.1:Nat),f5.ref (lay (.us p.1)))) h rfl λy J e=>?_;have e:y.1=c:=by injection e with e;exact b2B e
 refine eE (c8A h) λi B=>eE (c8A J) λj q=>?_;have F:=c8r B;have:i=j:=(List.getElem?_inj (by simpa using F.1) u.nod).mp (by rw[c7m];rw[c7m];rw[B];rw[q];exact c7o some e.symm)
 subst this;rw [B] at q;have O:=E0 q;clear q;subst O;rfl
theorem a6c {us:List (Nat×List Nat)} (c:Nat):M2 (Z5 lay us) (.int (c:Nat)):=b0x (g:=λp=>p.1) (λ_=>rfl) c
theorem T8 {i x:f5} (h:H a=some (.dict es ep)) (B:M2 es i) (F:C0 es i=some x) (q:Q x H):a6F (.ref a) i H Q:=.inr (.inr ⟨a,es,ep,x,rfl,h,B,F,q⟩)
theorem b1r (L:J1 lay C H) (E:EG lay C st) (F:C (.eg 13)=some (.list xs)) (J:xs.length=st.e):J1 lay (upd C (.eg 13) (.list (xs++[v]))) (H.set (lay (.eg 13)) (.list (xs++[v])))/\EG lay (upd C (.eg 13) (.list (xs++[v]))) st.edge :=
 ⟨L.put F,{E.toHd.upd (s:=.eg 13) (o:=.list (xs++[v])) rfl with
  c4:=E.c4,c5:=E.c5,c6:=E.c6,c7:=E.c7,c10:=E.c10,c11:=E.c11
  cl:=λi q=>(E.cl i q).imp λ_=>And.imp_left (j8 M6).trans
  c12:=E.c12
  c13:=⟨_,D3,by rw[c7P];rw[J];rfl⟩
  c14:=E.c14,c15:=E.c15,c16:=E.c16
  cu:=λp B=>(j8 O1).trans (E.cu p B)
  c17:=E.c17}⟩
theorem Ok.edge (o:Ok st):Ok st.edge:=⟨o.up,o.lt,o.small,o.nd,o.two⟩
variable {p:Nat}
theorem b5Q {us:List (Nat×List Nat)} (h:(C0 (Z5 lay us) (.int (k:Nat))).isSome=true):K2 (Z5 lay us) (.int (k:Nat)) (.ref a)=Z5 (K4 lay (.us k) a) (us.map λp=>if p.1=k then (k,p.2++ug) else p):=by
 unfold K2;rw[(c7X h)];unfold Z5;rw[c7U];rw[c7U];refine c7r λp _=>?_;show (@ite _ (f5.int (p.1:Nat)=f5.int (k:Nat)) (Classical.propDecidable _) (f5.int (p.1:Nat),f5.ref a) (f5.int (p.1:Nat),f5.ref (lay (.us p.1))))=(f5.int ((if p.1=k then (k,p.2++ug) else p).1:Nat),f5.ref (K4 lay (.us k) a (.us (if p.1=k then (k,p.2++ug) else p).1)))
 by_cases e:p.1=k
 ·refine b9 (c7X (by rw[e];rfl)) ?_;rw[(c7X e)];rw[a2q];rw[e];rfl
 ·rw[(c7W (λz=>e (by injection z with z;exact b2B z)))];rw[(c7W e)];rw[(R9 (λz=>e (by injection z)))];rfl
theorem add_list {a b:Nat} {xs ys:List f5} (B:H a=some (.list xs)) (F:H b=some (.list ys)) (J:xs.length+ys.length<=o9) (q:∀ c,H c=none->Q (.ref c) (H.set c (.list (xs++ys)))):a3q .add (.ref a) (.ref b) H Q :=
 .inr (.inr (.inr ⟨a,b,xs,ys,rfl,rfl,B,F,by rw[c7P];exact J,q⟩))
theorem a18 {e i:Ev} {k:f5} {Q:a2Q} (B:∀ Q:l7,Q (.ref a) H->e K r H Q) (F:∀ Q:l7,Q k H->i K r H Q) (h:H a=some (.dict es ep)) (J:M2 es k) (O:es.length<=o9) (q:Q r (H.set a (.dict (K2 es k v) (dep es k ep)))):a0B e i K v r H Q :=
 B _ (F _ (.inr ⟨a,es,ep,rfl,h,J,O,q⟩))
theorem b1B {uk ug:List Nat} (L:J1 lay C H) (E:EG lay C (st.edge.joined k g)) (u:Us st) (K:(k,uk)∈st.us) (X:(g,ug)∈st.us) (a4:k≠g) (x:r f7=some (.ref (lay (.eg 0)))) (w:r O7=some (.int (k:Nat))) (W:r O6=some (.int (g:Nat)))
  (q:∀ O C' T,J1 O C' T->EG O C' (st.join k g ug)->Q6 lay C O C'->Q (.bool true) T) {B:Prop} :
  (d9 (r8 (i8 (o6 (d6 f7) a0o) m8 (d7 (p7 .sub (P9 .len (d7 (o6 (d6 f7) Z1) f4)) (h9 (.int 1))) f4)))
  (d9 (r8 (i8 (o6 (d6 f7) J2) Q9 (d7 (k8 (o6 (d6 f7) y6) (d6 O6)) f4)))
  (d9 (p9 (a0B (o6 (d6 f7) y6) (d6 O7)) (p7 .add (k8 (o6 (d6 f7) y6) (d6 O7)) (i8 (o6 (d6 f7) y6) a2A (d7 (d6 O6) f4))))
  (d9 (I9 (h9 (.bool true)))
  m6)))) (j3 FT n) r H (λfl _ T=>a3P fl B λv=>Q v T):=by
 refine j5 E.c13 λes e1 e2=>j5 E.c14 λl f1 f2=>eE E.c16 λR a1=>?_;have m1:(st.edge.joined k g).m=st.m+1:=rfl;have e3:es.length=st.e+1:=e2;have um:=u.m;have ue:=u.e;refine g8 (B4 (E9 (λ_ q=>P8 L E.toHd (n8 x) rfl q) (L.at_ _ _ f1) (d8 (w9 (P0 (d8 (P8 L E.toHd (n8 x) rfl (g9 (L9 (L.at_ _ _ e1) ?_ (m0 (sub_int (g9 (H9 (L.at_ _ _ f1) ?_ ?_)))))))))))))
 ·rw[e3];unfold o9;exact c7k ue (c7d rfl)
 ·have:=u.f;rw[f2];unfold o9;show st.f<=_;exact c7g this (c7d rfl)
 generalize f5.int (_:Int)=t;have U:=L.put (o:=.list (l++[t])) f1;have S:=E.toHd.upd (s:=.eg 14) (o:=.list (l++[t])) rfl;have gk:=b5b (lay:=lay) u K;have gg:=b5b (lay:=lay) u X;have y:(upd C (.eg 14) (.list (l++[t]))) (.eg 16)=some (.dict (Z5 lay st.us) R):=(j8 (by decide)).trans a1
 have J:(upd C (.eg 14) (.list (l++[t]))) (.eg 17)=some (.list (iL st.wt)):=(j8 (by decide)).trans E.c17
 have Z:(upd C (.eg 14) (.list (l++[t]))) (.us g)=some (.list (iL ug)):=(j8 O1).trans (E.cu _ X);have N:(upd C (.eg 14) (.list (l++[t]))) (.us k)=some (.list (iL uk)):=(j8 O1).trans (E.cu _ K);generalize Y:upd C (.eg 14) (.list (l++[t]))=d at U S y J Z N;refine g8 (B4 (a26 (λ_ q=>P8 U S (n8 x) rfl q) (U.at_ _ _ J) (d8 (B2 (P8 U S (n8 x) rfl (f6 W (T8 (U.at_ _ _ y) (a6c g) gg (g9 (a2S (U.at_ _ _ J) (U.at_ _ _ Z) ?_ ?_ ?_)))))))))
 ·intro e;exact O1 (U.inj _ _ _ _ Z J e)
 ·have:=u.small _ X;have:=u.wt;rw[(m9 ..)];rw[(m9 ..)];unfold o9;dsimp only at *;exact c2Q ‹_› this
 rw[(show iL st.wt++iL ug=iL (st.wt++ug) from (c7T ..).symm)];have A:=U.put (o:=.list (iL (st.wt++ug))) J;have E2:=S.upd (s:=.eg 17) (o:=.list (iL (st.wt++ug))) rfl;have b:(upd d (.eg 17) (.list (iL (st.wt++ug)))) (.eg 16)=some (.dict (Z5 lay st.us) R):=(j8 (by decide)).trans y
 have L3:=A.put (o:=.dict (Z5 lay (st.us.filter λp=>p.1 != g)) (R+1)) b;have E3:=E2.upd (s:=.eg 16) (o:=.dict (Z5 lay (st.us.filter λp=>p.1 != g)) (R+1)) rfl;have a8:(upd (upd d (.eg 17) (.list (iL (st.wt++ug)))) (.eg 16) (.dict (Z5 lay (st.us.filter λp=>p.1 != g)) (R+1))) (.us k)=some (.list (iL uk)):=(j8 O1).trans ((j8 O1).trans N);have a7:(upd (upd d (.eg 17) (.list (iL (st.wt++ug)))) (.eg 16) (.dict (Z5 lay (st.us.filter λp=>p.1 != g)) (R+1))) (.us g)=some (.list (iL ug)):=(j8 O1).trans ((j8 O1).trans Z)
 have a6:(Z5 lay st.us).length<=o9:=by unfold Z5;rw[(c7f ..)];exact l5 u.len
 refine g8 (w6 (w9 (B2 (P8 A E2 (n8 x) rfl (f6 w (T8 (A.at_ _ _ b) (a6c k) gk (b8F (λ_ q=>P8 A E2 (n8 x) rfl q) (A.at_ _ _ b) (d8 (f6 W (g9 (b72 (A.at_ _ _ b) (a6c g) a6 gg ?_)))))))))));rw[b5N];refine add_list (L3.at_ _ _ a8) (L3.at_ _ _ a7) ?_ λc hc=>?_
 ·have:=u.small _ K;have:=u.small _ X;rw[(m9 ..)];rw[(m9 ..)];unfold o9;dsimp only at *;exact c2q ‹_› this
 rw[(show iL uk++iL ug=iL (uk++ug) from (c7T ..).symm)];have L4:=L3.take (s:=.us k) (o:=.list (iL (uk++ug))) hc;have E4:=E3.take (s:=.us k) (o:=.list (iL (uk++ug))) (a:=c) rfl;have P:(upd (upd (upd d (.eg 17) (.list (iL (st.wt++ug)))) (.eg 16) (.dict (Z5 lay (st.us.filter λp=>p.1 != g)) (R+1))) (.us k) (.list (iL (uk++ug)))) (.eg 16)=some (.dict (Z5 lay (st.us.filter λp=>p.1 != g)) (R+1)):=(j8 a5N).trans D3
 have a3:(k,uk)∈st.us.filter λp=>p.1 != g:=List.mem_filter.mpr ⟨K,by simpa using a4⟩
 have u':((st.us.filter λp=>p.1 != g).map (·.1)).Nodup:=List.Nodup.sublist (List.filter_sublist.map _) u.nod;have a0:(C0 (Z5 lay (st.us.filter λp=>p.1 != g)) (.int (k:Nat))).isSome=true:=by
  cases e:C0 (Z5 lay (st.us.filter λp=>p.1 != g)) (.int (k:Nat)) with
  | some _=>rfl
  | none =>
   unfold C0 at e;rw [Option.map_eq_none_iff,List.find?_eq_none] at e;have:=e _ (c8t ⟨_,a3,rfl⟩);simp at this
 refine a18 (λ_ q=>P8 L4 E4 (n8 x) rfl q) (n8 w) (L4.at_ _ _ P) (a6c k) ?_ ?_
 ·unfold Z5;rw[(c7f ..)];exact c7g (List.length_filter_le ..) (l5 u.len)
 rw[(b5Q (ug:=ug) a0)];generalize dep _ _ _=F;have L5:=L4.put (o:=.dict (Z5 (K4 lay (.us k) c) (Q5 st.us k g ug)) F) P;have E5:=E4.upd (s:=.eg 16) (o:=.dict (Z5 (K4 lay (.us k) c) (Q5 st.us k g ug)) F) rfl;refine g8 (G4 (m0 ?_));refine q _ _ _ L5 ?_ ⟨λ_=>rfl,λ_=>rfl,λj=>?_⟩
 ·have D:∀ s,(∀ i,s≠.us i)->s≠.eg 16->s≠.eg 17->upd (upd (upd (upd d (.eg 17) (.list (iL (st.wt++ug)))) (.eg 16) (.dict (Z5 lay (st.us.filter λp=>p.1 != g)) (R+1))) (.us k) (.list (iL (uk++ug)))) (.eg 16) (.dict (Z5 (K4 lay (.us k) c) (Q5 st.us k g ug)) F) s=d s :=
   λs w W G=>(j8 W).trans ((j8 (w k)).trans ((j8 W).trans (j8 G)))
  have h:∀ s,(∀ i,s≠.us i)->s≠.eg 16->s≠.eg 17->s≠.eg 14->upd (upd (upd (upd d (.eg 17) (.list (iL (st.wt++ug)))) (.eg 16) (.dict (Z5 lay (st.us.filter λp=>p.1 != g)) (R+1))) (.us k) (.list (iL (uk++ug)))) (.eg 16) (.dict (Z5 (K4 lay (.us k) c) (Q5 st.us k g ug)) F) s=C s :=
   λs w W G h4=>(D s w W G).trans (by refine w3 Y ?_;exact j8 h4)
  have V:∀ j,j≠16->j≠17->j≠14->_=C (.eg j):=λj w W G=>h (.eg j) (λ_=>a5N) (λe=>w (by injection e)) (λe=>W (by injection e)) (λe=>G (by injection e))
  exact {E5 with
   c4:=(V 4 (by decide) (by decide) (by decide)).trans E.c4
   c5:=E.c5.imp λ_=>(V 5 (by decide) (by decide) (by decide)).trans
   c6:=E.c6.imp λ_=>And.imp_left (V 6 (by decide) (by decide) (by decide)).trans
   c7:=E.c7.imp λ_=>And.imp_left (V 7 (by decide) (by decide) (by decide)).trans
   c10:=(V 10 (by decide) (by decide) (by decide)).trans E.c10
   c11:=(V 11 (by decide) (by decide) (by decide)).trans E.c11
   cl:=λi I=>(E.cl i I).imp λ_=>And.imp_left (h (.lot i) (λ_=>a9C) M6 M6 M6).trans
   c12:=E.c12.imp λ_=>And.imp_left (V 12 (by decide) (by decide) (by decide)).trans
   c13:=E.c13.imp λ_=>And.imp_left (V 13 (by decide) (by decide) (by decide)).trans
   c14:=⟨l++[t],(D (.eg 14) (λ_=>a5N) (by decide) (by decide)).trans (by refine w3 Y ?_;exact D3),by rw[c7P];rw[f2];rfl⟩
   c15:=E.c15.imp λ_=>(V 15 (by decide) (by decide) (by decide)).trans
   c16:=⟨F,D3⟩
   cu:=λp hp=>by
    refine j5 (c8s hp) λp0 a5 q2=>?_;subst q2;have M:=List.mem_filter.mp a5;by_cases z:p0.1=k
    ·rw[(c7X z)];have:p0=(k,uk):=by
      refine eE (c8A K) λi I=>eE (c8A M.1) λj hj=>?_;have a2:=c8r I;have e:i=j:=(List.getElem?_inj (by simpa using a2.1) u.nod).mp (by rw[c7m];rw[c7m];rw[I];rw[hj];exact c7o some z.symm)
      subst e;rw [I] at hj;have q1:=E0 hj;clear hj;subst q1;rfl
     subst this;exact (j8 O1).trans D3
    ·rw[(c7W z)];refine (j8 O1).trans ((j8 (λe=>z (by injection e))).trans ((j8 O1).trans ((j8 O1).trans ?_)))
     refine w3 Y ?_;exact (j8 O1).trans (E.cu p0 M.1)
   c17:=(j8 (by decide)).trans ((j8 a5N).trans ((j8 (by decide)).trans D3))}
 ·show d (.ow j)=C (.ow j);refine w3 Y ?_;rfl
theorem b7v (L:J1 lay C H) (E:EG lay C st) (o:Ok st) (u:Us st) {a b:Nat} {U:f5} (ha:a < st.up.length) (f:b < st.up.length)
  (q0:f9 st.up a=f9 st.up b->∀ J O,J1 lay J O->EG lay J st.edge->Q6 lay C lay J->Q (.bool false) O)
  (q1:f9 st.up a≠f9 st.up b->∀ ug,(max (f9 st.up a) (f9 st.up b),ug)∈st.us->∀ F J O,J1 F J O->EG F J (st.join (min (f9 st.up a) (f9 st.up b)) (max (f9 st.up a) (f9 st.up b)) ug)->Q6 lay C F J->Q (.bool true) O) :
  (j3 FT (n+3)).call t8 a4X [.ref (lay (.eg 0)),.int (a:Nat),.int (b:Nat),U] H Q:=by
 refine j5 E.c13 λM d p=>?_;have P:=u.e;refine eA (b1r L E d p (v:=.tup [.int (a:Nat),.int (b:Nat),U])) λR V=>?_;have j:Q6 lay C lay (upd C (.eg 13) (.list (M++[.tup [.int (a:Nat),.int (b:Nat),U]]))):=⟨λ_=>rfl,λ_=>rfl,λ_=>rfl⟩;refine s9 rfl rfl (g8 (B4 (E9 (λ_ q=>P8 L E.toHd (n8 rfl) rfl q) (L.at_ _ _ d) (d8 (I4 (d8 (f6 rfl (d8 (f6 rfl (d8 (f6 rfl (g9 (g9 (H9 (L.at_ _ _ d) ?_ ?_))))))))))))))
 ·rw[p];unfold o9;exact c7g P (c7d rfl)
 generalize upd C (.eg 13) _=S at R V j;generalize Hp.set H _ _=X at R;refine g8 (w6 (F6 (rfl) (R.at_ _ _ V.c8) (R.at_ _ _ V.c9) rfl (λ_ q=>P8 R V.toHd (n8 rfl) rfl q) (d8 (f6 rfl (d8 (f6 rfl (g9 (b9o R V o.edge ha f u.m (λe D k=>?q0) λe T D G A N=>?q1))))))))
 case q0 =>
  refine z0 (g8 (W9 (B9 (f6 rfl (m0 (b0y ⟨λ_=>⟨λ_=>g8 (G4 (m0 ?_)),(λt=>nomatch t)⟩,λt=>c7Y rfl t⟩))))))
  exact q0 e _ _ (R.keep k) V j
 case q1 =>
  refine z0 (g8 (W9 (B9 (f6 rfl (m0 (b0y (v:=.tup [_,_]) ⟨(λt=>nomatch t),λ_=>⟨(λt=>nomatch t),λ_=>?_⟩⟩))))))
  refine b0l (K:=j3 FT (n+2)) ?_;have w:=J3 o.up a ha;have x:=J3 o.up b f;have i:=G7 o.up o.lt a ha;have Y:=G7 o.up o.lt b f;have Z:∀ c,c < st.up.length->st.up[c]?=some c->f9 st.up c=c:=λc _ h=>by rw[(D4 o.up h)];rw[(c7X rfl)];rfl
  have g:∃ y,(min (f9 st.up a) (f9 st.up b),y)∈st.us:=u.has _ (by exact c7k (Nat.min_le_right _ _) Y) (by
   rcases c7O (f9 st.up a) (f9 st.up b) with z | z
   ·rw[(Nat.min_eq_left z)];exact Z _ i w
   ·rw[(Nat.min_eq_right z)];exact Z _ Y x)
  have W:∃ ug,(max (f9 st.up a) (f9 st.up b),ug)∈st.us:=u.has _ (by exact Nat.max_lt.mpr ⟨i,Y⟩) (by
   rcases c7O (f9 st.up a) (f9 st.up b) with z | z
   ·rw[(Nat.max_eq_right z)];exact Z _ Y x
   ·rw[(Nat.max_eq_left z)];exact Z _ i w)
  revert g;intro q1;refine eE q1 λy g=>?_;clear q1;revert W;intro r;refine eE r λug W=>?_;clear r;refine g8 (w6 (f6 rfl (a4W (.inl rfl) ?_)));exact b1B (B:=True) G A u g W (by have:f9 st.edge.up a≠f9 st.edge.up b:=e;have:f9 st.up a≠f9 st.up b:=this;exact b5r ‹_›) rfl rfl rfl λF J O l I s=>q1 e ug W F J O l I (j.trans (N.trans s))
end
section
open Classical
variable {x:M9}{p:Nat}
theorem b3x:∀ {l m:List Nat},iL l=iL m->l=m:=by
 intro l;induction l with
 | nil =>
  intro q;cases q with
  | nil =>
   intro _;exact rfl
  | cons _ _ =>
   intro h;exact nomatch h
 | cons a l F =>
  intro B;cases B with
  | nil =>
   intro h;exact nomatch h
  | cons b m =>
   intro h;have h:f5.int (a:Nat) :: iL l=f5.int (b:Nat) :: iL m:=h;injection h with h1 h2
   injection h1 with h1
   rw[(F h2)];rw[(Int.ofNat.inj h1)];rfl
theorem a42 {x y:M9} (h:D6 x=D6 y):x=y:=by
 unfold D6 at h;injection h with h
 injection h with h1 h2
 injection h1 with h1
 obtain ⟨a,l⟩:=x;obtain ⟨b,m⟩:=y;rw[(show a=b from h1)];rw[(show l=m from b3x h2)];rfl
theorem b0C (n:Nat) (l:List Nat):Y8 n (iL l)=true:=by
 induction l with
 | nil=>rfl
 | cons a l q=>exact c8G ⟨by cases n <;> rfl,q⟩
theorem b6n (x:M9):G6 7 (D6 x)=true:=c8G ⟨rfl,b0C _ _⟩
noncomputable def K9 (kn:List (M9×Nat)) (x:M9):Option Nat:=(kn.find? λp=>decide (p.1=x)).map (·.2)
theorem a4k {kn:List (M9×Nat)}:C0 (knV kn) (D6 x)=(K9 kn x).map λ(i:Nat)=>f5.int i:=by
 unfold C0 K9 knV;refine b9 List.find?_map ?_;rw[(Option.map_map ..)];rw[(Option.map_map ..)]
 congr 1
 congr 1
 funext p
 show decide (D6 p.1=D6 x)=decide (p.1=x);refine O0 (decide_eq_decide ..) ?_;exact ⟨a42,λe=>by rw[e];rfl⟩
theorem a8b {kn:List (M9×Nat)} (x:M9):M2 (knV kn) (D6 x):=by
 refine ⟨b6n x,λp q=>?_⟩;refine j5 (c8s q) λy _ B=>?_;subst B;rfl
end
variable {x:M9}
noncomputable def St.know (st:St) (x:M9) (i:Nat):St:={st with kn:=st.kn++[(x,i)]}
section
variable {p:Nat}{ug:List Nat}{n:Nat}{lay:Slot->Nat}{C:B3}{st:St}
theorem b3M (L:J1 lay C H) (E:EG lay C st) (F:C (.eg 15)=some (.dict (knV st.kn) ep)) {i ep':Nat}:J1 lay (upd C (.eg 15) (.dict (knV st.kn++[(D6 x,.int (i:Nat))]) ep')) (H.set (lay (.eg 15)) (.dict (knV st.kn++[(D6 x,.int (i:Nat))]) ep')) /\
  EG lay (upd C (.eg 15) (.dict (knV st.kn++[(D6 x,.int (i:Nat))]) ep')) (st.know x i) :=
 ⟨L.put F,{E.toHd.upd (s:=.eg 15) (o:=.dict (knV st.kn++[(D6 x,.int (i:Nat))]) ep') rfl with
  c4:=E.c4,c5:=E.c5,c6:=E.c6,c7:=E.c7,c10:=E.c10,c11:=E.c11
  cl:=λi q=>(E.cl i q).imp λ_=>And.imp_left (j8 M6).trans
  c12:=E.c12,c13:=E.c13,c14:=E.c14
  c15:=⟨ep',by rw[D3];unfold knV St.know;rw[c7T];rfl⟩
  c16:=E.c16
  cu:=λp B=>(j8 O1).trans (E.cu p B)
  c17:=E.c17}⟩
theorem Ok.know (o:Ok st) (x:M9) (i:Nat):Ok (st.know x i):=⟨o.up,o.lt,o.small,o.nd,o.two⟩
theorem Us.know (u:Us st) (x:M9) (i:Nat):Us (st.know x i):=⟨u.nod,u.has,u.len,u.small,u.wt,u.m,u.e,u.f⟩
theorem a8m (L:J1 lay C H) (E:EG lay C st) (o:Ok st) (u:Us st) (W:i < st.up.length) (Y:p < st.up.length) (R:r f7=some (.ref (lay (.eg 0)))) (U:r y7=some (.int (p:Nat))) (V:r n_n=some (.int (i:Nat)))
  (d:f9 st.up p=f9 st.up i->Q .none H)
  (f:f9 st.up p≠f9 st.up i->∀ ug,(max (f9 st.up p) (f9 st.up i),ug)∈st.us->∀ q J F,J1 q J F->EG q J (st.join (min (f9 st.up p) (f9 st.up i)) (max (f9 st.up p) (f9 st.up i)) ug)->Q6 lay C q J->Q .none F) {B:Prop} :
  (d9 (U9 (y8 .ne (i8 (d6 f7) I3 (d7 (d6 y7) f4)) (i8 (d6 f7) I3 (d7 (d6 n_n) f4)))
  (d9 (r8 (i8 (d6 f7) a4X (d7 (d6 y7) (d7 (d6 n_n) (d7 (B6 (d7 (h9 (.str "like")) f4)) f4)))))
  m6)
  m6)
 m6) (j3 FT (n+3)) r H (λa _ F=>a3P a (Q .none F) λv=>Q v F):=by
 refine g8 (W9 (B9 (F6 (rfl) (L.at_ _ _ E.c0) (L.at_ _ _ E.c1) rfl (n8 R) (d8 (f6 U (g9 (a4O (n:=n+1) L E o Y (F6 (rfl) (L.at_ _ _ E.c0) (L.at_ _ _ E.c1) rfl (n8 R) (d8 (f6 V (g9 (a4O (n:=n+1) L E o W (b4f ⟨λt=>?_,λt=>?_⟩)))))))))))))
 ·have O:f9 st.up p≠f9 st.up i:=λe=>by rw [e] at t;simp at t
  refine g8 (B4 (F6 (rfl) (L.at_ _ _ E.c0) (L.at_ _ _ E.c1) rfl (n8 R) (d8 (f6 U (d8 (f6 V (d8 (I4 (d8 (m0 (g9 (g9 (b7v L E o u Y W (λe=>c7Y e O) λe ug c q J F l Z s=>?_)))))))))))));exact f e ug c q J F l Z s
 ·have b:f9 st.up p=f9 st.up i:=by
   have t:decide ((f9 st.up p:Int)=(f9 st.up i:Nat))=true:=by simpa using t
   have:=c7n t;exact b2B this
  exact d b
variable {g:Nat}
noncomputable def lkO (st:St) (x:M9) (i:Nat):Nat:=(K9 st.kn x).getD i
noncomputable def lkS (st:St) (x:M9) (i:Nat):St:=if (K9 st.kn x).isSome then st else st.know x i
theorem c0e (L:J1 lay C H) (E:EG lay C st) (o:Ok st) (u:Us st) (r:∀ x∈st.nd,∀ k∈x.2,k < st.up.length) (a:∀ p∈st.kn,p.2 < st.up.length) (hl:st.kn.length<=100000) (t:st.nd[i]?=some x) (W:i < st.up.length)
  (q0:f9 st.up (lkO st (A5 st.up x) i)=f9 st.up i->∀ J R,J1 lay J R->EG lay J (lkS st (A5 st.up x) i)->Q6 lay C lay J->Q .none R)
  (q1:f9 st.up (lkO st (A5 st.up x) i)≠f9 st.up i->∀ ug,(max (f9 st.up (lkO st (A5 st.up x) i)) (f9 st.up i),ug)∈st.us->∀ F J R,J1 F J R ->
   EG F J ((lkS st (A5 st.up x) i).join (min (f9 st.up (lkO st (A5 st.up x) i)) (f9 st.up i)) (max (f9 st.up (lkO st (A5 st.up x) i)) (f9 st.up i)) ug)->Q6 lay C F J->Q .none R) :
  (j3 FT (n+4)).call t8 a0c [.ref (lay (.eg 0)),.int (i:Nat)] H Q:=by
 refine eE E.c15 λf b=>?_;have U:lkO st (A5 st.up x) i < st.up.length:=by
  unfold lkO K9;cases e:st.kn.find? λp=>decide (p.1=A5 st.up x) with
  | none=>exact W
  | some p=>exact a p (c7L e)
 refine s9 rfl rfl (g8 (w6 (b8G (λ_ q=>P8 L E.toHd (n8 rfl) rfl q) (L.at_ _ _ b) (d8 (F6 (rfl) (L.at_ _ _ E.c0) (L.at_ _ _ E.c1) rfl (n8 rfl) (d8 (f6 rfl (g9 (b7w L E o r t λw Y=>d8 (f6 rfl (g9 (b73 ((L.keep Y).at_ _ _ b) (a8b _) ?hl (λv O=>z0 ?q0) λO=>z0 ?q1))))))))))))
 case hl=>unfold knV;rw[(c7f ..)];unfold o9;exact c7g hl (c7d rfl)
 case q0 =>
  rw [a4k] at O;refine j5 (c8v O) λp g q1=>?_;subst q1;have V:lkO st (A5 st.up x) i=p:=by unfold lkO;rw[g];rfl
  have Z:lkS st (A5 st.up x) i=st:=by unfold lkS;rw[g];rfl
  rw [V,Z] at q0 q1;rw [V] at U;exact a8m (B:=True) (n:=n) (L.keep Y) E o u W U rfl rfl rfl (λe=>q0 e _ _ (L.keep Y) E (.refl _ _)) q1
 case q1 =>
  rw [a4k] at O;have O:=Option.map_eq_none_iff.mp O;have V:lkO st (A5 st.up x) i=i:=by unfold lkO;rw[O];rfl
  have Z:lkS st (A5 st.up x) i=st.know (A5 st.up x) i:=by unfold lkS;rw[O];rfl
  rw [V,Z] at q0 q1;refine eA (b3M (L.keep Y) E b (x:=A5 st.up x) (i:=i) (ep':=f+1)) λd c=>?_;have h:Q6 lay C lay (upd C (.eg 15) (.dict (knV st.kn++[(D6 (A5 st.up x),.int (i:Nat))]) (f+1))):=⟨λ_=>rfl,λ_=>rfl,λ_=>rfl⟩;exact a8m (B:=True) (n:=n) (st:=st.know (A5 st.up x) i) d c (o.know _ _) (u.know _ _) W W rfl rfl rfl (λe=>q0 e _ _ d c h) λe ug m F J R l j s=>q1 e ug m F J R l j (h.trans s)
theorem b8v (L:J1 lay C H) (E:EG lay C st) (o:Ok st) (u:Us st) {a b:Nat} {J:f5} (ha:a < st.up.length) (O:b < st.up.length)
  (R:f9 st.up a=f9 st.up b->∀ B F,J1 lay B F->EG lay B st.edge->Q6 lay C lay B->Q (.bool false) F)
  (U:f9 st.up a≠f9 st.up b->∀ ug,(max (f9 st.up a) (f9 st.up b),ug)∈st.us->∀ q B F,J1 q B F->EG q B (st.join (min (f9 st.up a) (f9 st.up b)) (max (f9 st.up a) (f9 st.up b)) ug)->Q6 lay C q B->Q (.bool true) F) :
  (j3 FT (n+4)).call t8 N6 [.ref (lay (.eg 0)),.int (a:Nat),.int (b:Nat),J] H Q:=by
 refine s9 rfl rfl (g8 (G4 (F6 (rfl) (L.at_ _ _ E.c0) (L.at_ _ _ E.c1) rfl (n8 rfl) (d8 (f6 rfl (d8 (f6 rfl (d8 (f6 rfl (g9 (b7v L E o u ha O ?_ ?_)))))))))))
 ·exact R
 ·exact U
end
variable {X:Addr->Prop}{p g:Nat}{ug:List Nat}
structure a37 (nd:List M9) (lh:List (Nat×Nat)) (E:Nat->Nat->Prop):Prop where
 refl:∀ a,E a a
 symm:∀ a b,E a b->E b a
 trans:∀ a b c,E a b->E b c->E a c
 tie:∀ p∈lh,E p.1 p.2
 node:∀ (i j:Nat) (x y:M9),nd[i]?=some x->nd[j]?=some y->x.1=y.1->x.2.length=y.2.length->(∀ (q a b:Nat),x.2[q]?=some a->y.2[q]?=some b->E a b)->E i j
noncomputable def a3f (up:List Nat):Nat:=((List.range up.length).filter λa=>up[a]?==some a).length
noncomputable def Cmp (st:St) (X:Nat->Nat->Prop):Prop:=∀ (i:Nat) (x:M9),st.nd[i]?=some x->i∈st.wt\/∃ p,K9 st.kn (A5 st.up x)=some p/\(f9 st.up p=f9 st.up i\/X p i)
structure K1 (lh:List (Nat×Nat)) (st:St):Prop extends Ok st where
 eqn:st.nd.length=st.up.length
 kid:∀ x∈st.nd,∀ k∈x.2,k < st.up.length
 knlt:∀ p∈st.kn,p.2 < st.up.length
 knk:∀ p∈st.kn,∀ a∈p.1.2,a < st.up.length
 kn:∀ p∈st.kn,∃ y,st.nd[p.2]?=some y/\y.1=p.1.1/\y.2.map (f9 st.up)=p.1.2.map (f9 st.up)
 use:∀ (i:Nat) (x:M9),st.nd[i]?=some x->∀ k∈x.2,∃ u,(f9 st.up k,u)∈st.us/\i∈u
 sound:∀ E,a37 st.nd lh E->∀ a b,a < st.up.length->b < st.up.length->f9 st.up a=f9 st.up b->E a b
 told:∀ p∈lh,f9 st.up p.1=f9 st.up p.2
 tlt:∀ p∈lh,p.1 < st.up.length/\p.2 < st.up.length
 wlt:∀ i∈st.wt,i < st.up.length
 ult:∀ p∈st.us,∀ i∈p.2,i < st.up.length
 uslt:∀ p∈st.us,p.1 < st.up.length
 nod:(st.us.map (·.1)).Nodup
 has:∀ c,c < st.up.length->f9 st.up c=c->∃ u,(c,u)∈st.us
 ulen:st.us.length<=st.up.length
 usum:(st.us.map λp=>p.2.length).sum<=2 * st.up.length
 mr:st.m+a3f st.up=st.up.length
 wm:st.wt.length<=34 * st.m
 km:st.kn.length+st.wt.length<=st.up.length+34 * st.m
 fm:st.f=st.m
 em:st.e<=st.m+lh.length
 tl:lh.length<=20
 low:∀ (i:Nat) (x:M9),st.nd[i]?=some x->∀ k∈x.2,k < i
theorem a7g {us:List (Nat×List Nat)} (n:(us.map (·.1)).Nodup) {c:Nat} {u v:List Nat} (J:(c,u)∈us) (O:(c,v)∈us):u=v:=by
 refine eE (c8A J) λi q=>eE (c8A O) λj F=>?_;have B:=c8r q;have e:i=j:=(List.getElem?_inj (by simpa using B.1) n).mp (by rw[c7m];rw[c7m];rw[q];rw[F];rfl)
 subst e;rw [q] at F;cases F;rfl
theorem a0n {us:List (Nat×List Nat)} {p:Nat×List Nat}:p∈Q5 us k g ug↔∃ q∈us,q.1≠g/\p=if q.1=k then (k,q.2++ug) else q:=by
 unfold Q5;refine O0 (List.mem_map ..) ?_;constructor
 ·rintro ⟨q,J,rfl⟩
  exact eA (List.mem_filter.mp J) λB F=>⟨q,B,by simpa using F,rfl⟩
 ·rintro ⟨q,B,F,rfl⟩
  exact ⟨q,List.mem_filter.mpr ⟨B,by simpa using F⟩,rfl⟩
theorem a3S:∀ {us:List (Nat×List Nat)} {p:Nat×List Nat},p∈us->p.2.length<=(us.map λp=>p.2.length).sum:=by
 intro us;induction us with
 | nil=>exact λh=>c7Y h c7E
 | cons q us B =>
  intro p h;rw[c7Z];rw[c8o];rcases c8z h with rfl | h
  ·exact b9D
  ·have:=B h;exact Nat.le_add_left_of_le this
theorem K1.us {F:List (Nat×Nat)} {st:St} (I:K1 F st):Us st:=by
 have q:st.m<=17:=by have:=I.mr;have:=I.small;exact c3l ‹_› this
 refine ⟨I.nod,I.has,c7g I.ulen I.small,λp B=>?_,?_,q,?_,?_⟩
 ·have:=a3S B;have:=I.usum;have:=I.small;exact c3D ‹_› ‹_› this
 ·have:=I.wm;exact c2U q this
 ·have:=I.em;have:=I.tl;exact c3T q ‹_› this
 ·have:=I.fm;exact c2T q this
theorem K1.knl {q:List (Nat×Nat)} {st:St} (I:K1 q st):st.kn.length<=100000:=by
 have:=I.mr;have:=I.small;have:=I.km;exact c4V ‹_› ‹_› this
variable {st:St}
theorem a6P {l m:List Nat} (u:Up up) (lt:∀ p∈up,p < up.length) (O:up[k]?=some k) (J:up[g]?=some g) (h:k < g) (B:∀ a∈l,a < up.length) (R:∀ a∈m,a < up.length) (e:l.map (f9 up)=m.map (f9 up)) :
  l.map (f9 (up.set g k))=m.map (f9 (up.set g k)):=by
 have q:∀ l:List Nat,(∀ a∈l,a < up.length)->l.map (f9 (up.set g k))=(l.map (f9 up)).map λc=>if c=g then k else c:=λl B=>by
  rw[c7U];exact c7r λa F=>a3e u lt O J h a (B a F)
 rw[(q l B)];rw[(q m R)];rw[e];rfl
theorem a7B (o:Ok st) (kid:∀ x∈st.nd,∀ k∈x.2,k < st.up.length) (eqn:st.nd.length=st.up.length) (knlt:∀ p∈st.kn,p.2 < st.up.length) (nod:(st.us.map (·.1)).Nodup) (use:∀ (i:Nat) (x:M9),st.nd[i]?=some x->∀ k∈x.2,∃ u,(f9 st.up k,u)∈st.us/\i∈u)
  (Y:st.up[k]?=some k) (V:st.up[g]?=some g) (h:k < g) (O:(g,ug)∈st.us) {X:Nat->Nat->Prop} (U:∀ p i,X p i->(f9 st.up p=k\/f9 st.up p=g)/\(f9 st.up i=k\/f9 st.up i=g)) (c:Cmp st X):Cmp (st.join k g ug) λ_ _=>False:=λi x J=>by
 have W:i < st.up.length:=by have:=(c8r J).1;refine w3 eqn ?_;exact this
 have rs:=a3e o.up o.lt Y V h;by_cases z:∃ q∈x.2,f9 st.up q=g
 ·refine j5 z λq F e=>?_;clear z;refine j5 (use i x J q F) λu B h2=>?_;rw [e] at B;rw [a7g nod B O] at h2;exact .inl (c7t _ h2)
 ·have Z:A5 (st.up.set g k) x=A5 st.up x:=by
   unfold A5
   congr 1
   refine c7r λq F=>?_;rw[(rs q (kid x (c7e J) q F))];rw[(c7W λe=>z ⟨q,F,e⟩)];rfl
  rcases c i x J with B | ⟨p,B,h2⟩
  ·exact .inl (c7s _ B)
  ·have d:p < st.up.length:=by
    refine j5 (c8v B) λe R f=>?_;subst f;exact knlt e (c7L R)
   refine .inr ⟨p,by show K9 st.kn (A5 (st.up.set g k) x)=_;rw[Z];exact B,.inl ?_⟩
   show f9 (st.up.set g k) p=f9 (st.up.set g k) i;rw[(rs p d)];rw[(rs i W)];rcases h2 with h2 | h2
   ·rw[h2];rfl
   ·refine eA (U p i h2) λa b=>?_;rcases a with a | a <;> rcases b with b | b <;> rw [a,b] <;> simp <;> omega
theorem a5A {us:List (Nat×List Nat)} (n:(us.map (·.1)).Nodup) (h:(g,ug)∈us):((us.filter λp=>p.1 != g).map λp=>p.2.length).sum+ug.length=(us.map λp=>p.2.length).sum:=by
 induction us with
 | nil=>cases h
 | cons q us O =>
  rw [List.map_cons,List.nodup_cons] at n;by_cases e:q.1=g
  ·have J:q=(g,ug):=by
    rcases c8z h with h | h
    ·exact h.symm
    ·exact c7Y (c8t ⟨_,h,e.symm⟩) n.1
   have B:us.filter (λp=>p.1 != g)=us:=by
    refine O0 (List.filter_eq_self ..) ?_;intro p F;have:p.1≠g:=λz=>n.1 (c8t ⟨p,F,z.trans e.symm⟩);simpa using this
   rw[(List.filter_cons_of_neg (by simpa using e))];rw[B];rw[c7Z];rw[c8o];rw[J]
   show _+ug.length=ug.length+_;exact c19
  ·rw[(List.filter_cons_of_pos (by simpa using e))];rw[c7Z];rw[c8o];rw[c7Z];rw[c8o]
   have:=O n.2 ((c8z h).resolve_left λz=>e (by refine w3 z ?_;rfl))
   exact (Nat.add_assoc _ _ _).trans (c7o (_+·) this)
theorem b4R {us:List (Nat×List Nat)} (n:(us.map (·.1)).Nodup) {uk ug:List Nat} (h:(k,uk)∈us):((us.map λp=>if p.1=k then (k,p.2++ug) else p).map λp=>p.2.length).sum=(us.map λp=>p.2.length).sum+ug.length:=by
 induction us with
 | nil=>cases h
 | cons q us J =>
  rw [List.map_cons,List.nodup_cons] at n;rw [List.map_cons,List.map_cons,List.sum_cons,List.map_cons,List.sum_cons];by_cases e:q.1=k
  ·have B:(us.map λp=>if p.1=k then (k,p.2++ug) else p)=us:=by
    conv=>rhs;(rewrite [<- List.map_id us];try rfl)
    refine c7r λp F=>?_;have:p.1≠k:=λz=>n.1 (c8t ⟨p,F,z.trans e.symm⟩);rw[(c7W this)];rfl
   rw[B];rw[(c7X e)];rw[c7P];exact c3k
  ·rw[(c7W e)];refine b9 (J n.2 ((c8z h).resolve_left λz=>e (by refine w3 z ?_;rfl))) ?_
   exact c3j
theorem a97 {us:List (Nat×List Nat)}:(Q5 us k g ug).map (·.1)=(us.filter λp=>p.1 != g).map (·.1):=by
 unfold Q5;rw[c7U];refine c7r λp _=>?_;show (if p.1=k then (k,p.2++ug) else p).1=p.1
 split
 ·rename_i e;exact e.symm
 ·rfl
theorem a98 {us:List (Nat×List Nat)} (n:(us.map (·.1)).Nodup) {uk ug:List Nat} (h:(k,uk)∈us) (B:(g,ug)∈us) (q:k≠g):((Q5 us k g ug).map λp=>p.2.length).sum=(us.map λp=>p.2.length).sum:=by
 unfold Q5;rw[(b4R (uk:=uk) (List.Nodup.sublist (List.filter_sublist.map _) n) (List.mem_filter.mpr ⟨h,by simpa using q⟩))];rw[(a5A n B)];rfl
theorem b2c (J:up[g]?=some g) (h:k≠g):a3f (up.set g k)+1=a3f up:=by
 have O:g < up.length:=(c8r J).1;unfold a3f;rw[c8q];have e:(List.range up.length).filter (λa=>(up.set g k)[a]?==some a)=((List.range up.length).filter λa=>up[a]?==some a).filter λa=>a != g:=by
  rw[List.filter_filter];refine List.filter_congr λa _=>?_;by_cases z:a=g
  ·subst z;refine b9 (List.getElem?_set_self O) ?_;simp [h]
  ·refine b9 (List.getElem?_set_ne (λq=>z q.symm)) ?_;simp [z]
 rw[e];have B:((List.range up.length).filter λa=>up[a]?==some a).Nodup:=List.Nodup.sublist List.filter_sublist List.nodup_range;have F:g∈(List.range up.length).filter λa=>up[a]?==some a:=List.mem_filter.mpr ⟨c8C O,by rw[J];simp⟩
 generalize (List.range up.length).filter (λa=>up[a]?==some a)=l at B F;induction l with
 | nil=>cases F
 | cons a l U =>
  rw [List.nodup_cons] at B;by_cases z:a=g
  ·subst z;rw[(List.filter_cons_of_neg (by simp))]
   have:l.filter (λx=>x != a)=l:=by
    refine O0 (List.filter_eq_self ..) ?_;intro x R;have:x≠a:=λe=>B.1 (e▸R);simpa using this
   rw[this];rfl
  ·rw[(List.filter_cons_of_pos (by simpa using z))];rw[c72];rw[c72];rw[(U B.2 ((c8z F).resolve_left λe=>z e.symm))];rfl
variable {A:Around}{Q:N4}{D S:Addr}{c:Nat}{lh ties':List (Nat×Nat)}{uk:List Nat}
theorem a77 (I:K1 lh st) (s:st.up[k]?=some k) (l:st.up[g]?=some g) (h:k < g) (o:(k,uk)∈st.us) (O:(g,ug)∈st.us)
  (G:∀ E,a37 st.nd ties' E->E k g) (sub:∀ p∈lh,p∈ties') (new:∀ p∈ties',p∈lh\/((p.1 < st.up.length/\p.2 < st.up.length)/\(f9 st.up p.1=k\/f9 st.up p.1=g)/\(f9 st.up p.2=k\/f9 st.up p.2=g))) (tl:lh.length<=ties'.length) (D:ties'.length<=20):K1 ties' (st.join k g ug):=by
 have rs:=a3e I.up I.lt s l h;have M:k < st.up.length:=(c8r s).1;have B:(st.join k g ug).up.length=st.up.length:=c8q;have rk:f9 st.up k=k:=by rw[(D4 I.up s)];rw[(c7X rfl)];rfl
 have rg:f9 st.up g=g:=by rw[(D4 I.up l)];rw[(c7X rfl)];rfl
 have lg:g < st.up.length:=(c8r l).1;have same:∀ a b,a < st.up.length->b < st.up.length->f9 st.up a=f9 st.up b->f9 (st.up.set g k) a=f9 (st.up.set g k) b:=λa b F V e=>by rw[(rs a F)];rw[(rs b V)];rw[e];rfl
 have Y:∀ a b,a < st.up.length->b < st.up.length->(f9 st.up a=k\/f9 st.up a=g)->(f9 st.up b=k\/f9 st.up b=g)->f9 (st.up.set g k) a=f9 (st.up.set g k) b:=λa b F V ea eb=>by
  rw[(rs a F)];rw[(rs b V)];rcases ea with ea | ea <;> rcases eb with eb | eb <;> rw [ea,eb] <;> simp <;> omega
 have r:∀ c u,(c,u)∈st.us->∃ v,((if c=g then k else c),v)∈Q5 st.us k g ug/\∀ i∈u,i∈v:=λc u n=>by
  by_cases z:c=g
  ·subst z;rw[(c7X rfl)];have:=a7g I.nod n O;subst this;exact ⟨uk++u,a0n.mpr ⟨(k,uk),o,by show k≠c;exact c7F h,by rw[(c7X rfl)];rfl⟩,λi hi=>c7t _ hi⟩
  ·rw[(c7W z)];by_cases w:c=k
   ·subst w;exact ⟨u++ug,a0n.mpr ⟨(c,u),n,z,by rw[(c7X rfl)];rfl⟩,λi hi=>c7s _ hi⟩
   ·exact ⟨u,a0n.mpr ⟨(c,u),n,z,by rw[(c7W w)];rfl⟩,λi hi=>hi⟩
 have Q:=a3S O;have P:=I.usum;have N:=I.small;have Z:(g,ug).2.length=ug.length:=rfl;refine {toOk:=⟨a7f I.up h,b8D I.lt M,by rw[B];exact I.small,I.nd,I.two⟩,eqn:=by rw[B];exact I.eqn,kid:=by rw[B];exact I.kid,knlt:=by rw[B];exact I.knlt,knk:=by rw[B];exact I.knk,kn:=λp J=>?_,use:=λi x L q H=>?_,sound:=λE R a b F V e=>?_,told:=λp J=>?_,tlt:=λp J=>?_,wlt:=λi hi=>?_,ult:=λp J i hi=>?_,uslt:=λp J=>?u,nod:=?_,has:=λc A e=>?_,ulen:=?_,usum:=?_,mr:=?_,wm:=?_,km:=?_,fm:=?_,em:=?_,tl:=D,low:=I.low}
 case u =>
  rw[B];refine y4 (a0n.mp J) λq W C W=>?_;subst W
  split
  ·exact M
  ·exact I.uslt q W
 ·exact y4 (I.kn p J) λy S y2 y3=>⟨y,S,y2,a6P I.up I.lt s l h (I.kid y (c7e S)) (I.knk p J) y3⟩
 ·refine j5 (I.use i x L q H) λu T X=>j5 (r _ _ T) λv h3 h4=>⟨v,?_,h4 i X⟩;show (f9 (st.up.set g k) q,v)∈_;rw[(rs q (I.kid x (c7e L) q H))];exact h3
 ·rw [B] at F V;have t:a37 st.nd lh E:=⟨R.refl,R.symm,R.trans,λp J=>R.tie p (sub p J),R.node⟩;have kg:=G E R;have toR:∀ a,a < st.up.length->E a (f9 st.up a):=λa F=>I.sound E t a _ F (G7 I.up I.lt a F) (by
   rw[(D4 I.up (J3 I.up a F))];rw[(c7X rfl)];rfl)
  have U:∀ a,a < st.up.length->E a (f9 (st.up.set g k) a):=λa F=>by
   rw[(rs a F)]
   split
   ·rename_i z;have:=toR a F;rw [z] at this;exact R.trans _ _ _ this (R.symm _ _ kg)
   ·exact toR a F
  have e:f9 (st.up.set g k) a=f9 (st.up.set g k) b:=e;exact R.trans _ _ _ (U a F) (by rw[e];exact R.symm _ _ (U b V))
 ·rcases new p J with j | ⟨⟨a,b⟩,c,d⟩
  ·exact same _ _ (I.tlt p j).1 (I.tlt p j).2 (I.told p j)
  ·exact Y _ _ a b c d
 ·rw[B];rcases new p J with j | ⟨a,_⟩
  ·exact I.tlt p j
  ·exact a
 ·rw[B];rcases c8w hi with hi | hi
  ·exact I.wlt i hi
  ·exact I.ult _ O i hi
 ·rw[B];refine y4 (a0n.mp J) λq W C C=>?_;subst C
  split at hi
  ·rcases c8w hi with hi | hi
   ·exact I.ult _ W i hi
   ·exact I.ult _ O i hi
  ·exact I.ult _ W i hi
 ·show ((Q5 st.us k g ug).map (·.1)).Nodup;rw[a97];exact List.Nodup.sublist (List.filter_sublist.map _) I.nod
 ·rw [B] at A;have e:f9 (st.up.set g k) c=c:=e;rw [rs c A] at e;by_cases z:f9 st.up c=g
  ·rw [if_pos z] at e;subst e;rw [rk] at z;exact (b9B h z).elim
  ·rw [if_neg z] at e;refine eE (I.has c A e) λu n=>j5 (r c u n) λv K _=>?_;rw [if_neg (λw=>z (by rw[e];rw[w];rfl))] at K
   exact ⟨v,K⟩
 ·rw[B];have:(Q5 st.us k g ug).length<=st.us.length:=by
   unfold Q5;rw[(c7f ..)];exact List.length_filter_le ..
  exact c7g this I.ulen
 ·rw[B];show ((Q5 st.us k g ug).map λp=>p.2.length).sum<=_;rw[(a98 I.nod o O (by exact c7F h))]
  exact I.usum
 ·rw[B];have:=b2c l (show k≠g by exact c7F h)
  have e:=I.mr;show st.m+1+a3f (st.up.set g k)=_;exact c4x this e
 ·have:=I.wm;show (st.wt++ug).length<=34 * (st.m+1);rw[c7P];exact c4X Q P N Z this
 ·have:=I.km;show st.kn.length+(st.wt++ug).length<=(st.up.set g k).length+34 * (st.m+1);rw[c7P];rw[c8q];exact c5c Q P N Z this
 ·show st.f+1=st.m+1;rw[I.fm];rfl
 ·have:=I.em;show st.e+1<=st.m+1+ties'.length;exact c4Q tl this
theorem a3G {kn:List (M9×Nat)} (h:K9 kn x=some p):(x,p)∈kn:=by
 unfold K9 at h;refine j5 (c8v h) λe B F=>?_;subst F;have q:=List.find?_some B;have q:=c7n q;refine w3 q ?_;exact c7L B
theorem a9x {kn:List (M9×Nat)} {x y:M9} (h:K9 kn x=some p):K9 (kn++[(y,i)]) x=some p:=by
 unfold K9 at h ⊢;refine j5 (c8v h) λe q B=>?_;subst B;refine b9 List.find?_append ?_;rw[q];rfl
theorem b1I {kn:List (M9×Nat)} (h:K9 kn x=none):K9 (kn++[(x,i)]) x=some i:=by
 unfold K9 at h ⊢;refine b9 List.find?_append ?_;rw[(Option.map_eq_none_iff.mp h)];simp
noncomputable abbrev a1B (st:St):Prop:=Cmp st λ_ _=>False
noncomputable def b7X (st:St) (i:Nat):Prop:=∀ (j:Nat) (y:M9),st.nd[j]?=some y->j≠i->j∈st.wt\/∃ p,K9 st.kn (A5 st.up y)=some p/\f9 st.up p=f9 st.up j
variable {E:Nat->Nat->Prop}
theorem K1.toR (I:K1 lh st) (q:a37 st.nd lh E) (ha:a < st.up.length):E a (f9 st.up a) :=
 I.sound E q a _ ha (G7 I.up I.lt a ha) (a0f I.up ha).symm
theorem K1.like (I:K1 lh st) (B:a37 st.nd lh E) {y:M9} (U:st.nd[p]?=some y) (R:st.nd[i]?=some x) (V:y.1=x.1) (F:y.2.map (f9 st.up)=x.2.map (f9 st.up)):E p i:=by
 refine B.node p i y x U R V (by have:=c7o List.length F;simpa using this) λq a b J O=>?_
 refine I.sound E B a b (I.kid y (c7e U) a (c7e J)) (I.kid x (c7e R) b (c7e O)) ?_;have:=c7o (λl=>l[q]?) F;simpa [J,O] using this
theorem K1.nlt (I:K1 lh st) (q:st.nd[i]?=some x):i < st.up.length:=by
 refine w3 I.eqn ?_;exact (c8r q).1
theorem a8p (I:K1 lh st) (h:∀ k∈l,k < st.up.length):(l.map (f9 st.up)).map (f9 st.up)=l.map (f9 st.up):=by
 rw[c7U];exact c7r λk q=>a0f I.up (h k q)
theorem b3D (I:K1 lh st) (q:st.nd[i]?=some x) (R:st.kn.length+st.wt.length+1<=st.up.length+34 * st.m):K1 lh (st.know (A5 st.up x) i) :=
 have F:=I.kid x (c7e q)
 {I with
  knlt:=λp hp=>by
   rcases c8w hp with hp | hp
   ·exact I.knlt p hp
   ·obtain rfl:=c8x hp;exact I.nlt q
  knk:=λp hp a B=>by
   rcases c8w hp with hp | hp
   ·exact I.knk p hp a B
   ·obtain rfl:=c8x hp;refine j5 (c8s B) λb J O=>?_;subst O;exact G7 I.up I.lt b (F b J)
  kn:=λp hp=>by
   rcases c8w hp with hp | hp
   ·exact I.kn p hp
   ·obtain rfl:=c8x hp;exact ⟨x,q,rfl,(a8p I F).symm⟩
  km:=by
   show (st.kn++[_]).length+st.wt.length<=st.up.length+34 * st.m;rw[c7P];simp only [List.length_singleton];exact c4n R}
theorem b53 (I:K1 lh st) (q:st.nd[i]?=some x) (B:st.kn.length+st.wt.length+1<=st.up.length+34 * st.m):K1 lh (lkS st (A5 st.up x) i):=by
 unfold lkS
 split
 ·exact I
 ·exact b3D I q B
theorem b3X (I:K1 lh st) (q:st.nd[i]?=some x):∃ y,st.nd[lkO st (A5 st.up x) i]?=some y/\y.1=x.1/\y.2.map (f9 st.up)=x.2.map (f9 st.up):=by
 unfold lkO;cases e:K9 st.kn (A5 st.up x) with
 | none=>exact ⟨x,q,rfl,rfl⟩
 | some p =>
  refine y4 (I.kn _ (a3G e)) λy B F J=>⟨y,B,F,J.trans ?_⟩;exact a8p I (I.kid x (c7e q))
theorem b3Z (st:St) (k:M9) (i:Nat):(lkS st k i).up=st.up/\(lkS st k i).nd=st.nd/\(lkS st k i).wt=st.wt/\(lkS st k i).m=st.m/\(lkS st k i).us=st.us:=by
 unfold lkS;split <;> exact ⟨rfl,rfl,rfl,rfl,rfl⟩
theorem b8C (st:St) (k:M9) (i:Nat):K9 (lkS st k i).kn k=some (lkO st k i):=by
 unfold lkS lkO;cases e:K9 st.kn k with
 | none=>exact b1I e
 | some p=>exact e
theorem b3Y {st:St} {k q:M9} (h:K9 st.kn q=some p):K9 (lkS st k i).kn q=some p:=by
 unfold lkS
 split
 ·exact h
 ·exact a9x h
theorem b22 (c:b7X st i) (U:st.nd[i]?=some x):Cmp (lkS st (A5 st.up x) i) λp j=>p=lkO st (A5 st.up x) i/\j=i:=λj y q=>by
 refine a5L (b3Z st (A5 st.up x) i) λB F J W Y=>?_;rw [F] at q;rw[J];rw[B];by_cases z:j=i
 ·subst z;rw [U] at q;have V:=E0 q;clear q;subst V;exact .inr ⟨_,b8C ..,.inr ⟨rfl,rfl⟩⟩
 ·rcases c j y q z with h | ⟨p,O,R⟩
  ·exact .inl h
  ·exact .inr ⟨p,b3Y O,.inl R⟩
section
variable {l:List Int}{Q:l7}{E:Value->Shared->Prop}{n:Nat}{lay:Slot->Nat}{C:B3}
theorem a8n (L:J1 lay C H) (E:EG lay C st) (I:K1 lh st) (R:st.nd[i]?=some x) (c:b7X st i) (sl:st.kn.length+st.wt.length+1<=st.up.length+34 * st.m)
  (q:∀ J U Y F,J1 J U Y->EG J U F->Q6 lay C J U->K1 lh F->a1B F->F.nd=st.nd->(F.m=st.m/\F.wt=st.wt\/F.m=st.m+1)->Q .none Y) :
  (j3 FT (n+4)).call t8 a0c [.ref (lay (.eg 0)),.int (i:Nat)] H Q:=by
 have B:=b53 I R sl;have W:=I.nlt R;refine a5L (b3Z st (A5 st.up x) i) λu d M v N=>y4 (b3X I R) λy r y2 K=>?_;have b:=I.nlt r;have t:=b22 c R;refine c0e L E I.toOk I.us I.kid I.knlt I.knl R W (λe U Y l Z s=>?_) λe ug a J U Y l Z s=>?_
 ·refine q _ _ _ _ l Z s B (λj y X=>?_) d (.inl ⟨v,M⟩);rcases t j y X with h | ⟨p,T,f⟩
  ·exact .inl h
  ·refine .inr ⟨p,T,.inl ?_⟩;rcases f with f | ⟨rfl,rfl⟩
   ·exact f
   ·rw[u];exact e
 ·generalize hS:lkS st (A5 st.up x) i=S at *;generalize hP:lkO st (A5 st.up x) i=P at *;rw [<- u] at e Z a b W K;rw [<- d] at r R;rw [<- N] at a;have D:=J3 B.up P b;have G:=J3 B.up i W;have lP:=G7 B.up B.lt P b;have li:=G7 B.up B.lt i W;have A:min (f9 S.up P) (f9 S.up i) < max (f9 S.up P) (f9 S.up i):=by exact c5q e
  have g:S.up[min (f9 S.up P) (f9 S.up i)]?=some (min (f9 S.up P) (f9 S.up i)):=by
   rcases c7O (f9 S.up P) (f9 S.up i) with z | z
   ·rw[(Nat.min_eq_left z)];exact D
   ·rw[(Nat.min_eq_right z)];exact G
  have V:S.up[max (f9 S.up P) (f9 S.up i)]?=some (max (f9 S.up P) (f9 S.up i)):=by
   rcases c7O (f9 S.up P) (f9 S.up i) with z | z
   ·rw[(Nat.max_eq_right z)];exact G
   ·rw[(Nat.max_eq_left z)];exact D
  refine eE (B.has _ (by exact c7k (Nat.min_le_right _ _) li) (a0g B.up g)) λuk k=>?_
  have o:∀ E,a37 S.nd lh E->E (min (f9 S.up P) (f9 S.up i)) (max (f9 S.up P) (f9 S.up i)):=λE O=>by
   have h:=B.like O r R y2 K;have h:=O.trans _ _ _ (O.symm _ _ (B.toR O b)) (O.trans _ _ _ h (B.toR O W));rcases c7O (f9 S.up P) (f9 S.up i) with z | z
   ·rw[(Nat.min_eq_left z)];rw[(Nat.max_eq_right z)];exact h
   ·rw[(Nat.min_eq_right z)];rw[(Nat.max_eq_left z)];exact O.symm _ _ h
  refine q _ _ _ _ l Z s (a77 B g V A k a o (λ_ h=>h) (λ_ h=>.inl h) (c7l _) B.tl) ?_ d (.inr (by show S.m+1=_;rw[v];rfl))
  refine a7B B.toOk B.kid B.eqn B.knlt B.nod B.use g V A a (λp j w=>?_) t;refine eA w λq1 q2=>?_;clear w;subst q1;subst q2;exact c1J
theorem b6s (L:J1 lay C H) (E:EG lay C st) {w:List Nat}:J1 lay (upd C (.eg 17) (.list (iL w))) (H.set (lay (.eg 17)) (.list (iL w)))/\EG lay (upd C (.eg 17) (.list (iL w))) {st with wt:=w} :=
 ⟨L.put E.c17,{E.toHd.upd (s:=.eg 17) (o:=.list (iL w)) rfl with
  c4:=E.c4,c5:=E.c5,c6:=E.c6,c7:=E.c7,c10:=E.c10,c11:=E.c11
  cl:=λi q=>(E.cl i q).imp λ_=>And.imp_left (j8 M6).trans
  c12:=E.c12,c13:=E.c13,c14:=E.c14,c15:=E.c15,c16:=E.c16
  cu:=λp B=>(j8 O1).trans (E.cu p B)
  c17:=D3}⟩
theorem b54 (I:K1 lh st) {w:List Nat} (h:∀ a∈w,a∈st.wt) (q:w.length<=st.wt.length):K1 lh {st with wt:=w} :=
 {I with
  wlt:=λi B=>I.wlt i (h i B)
  wm:=c7g q I.wm
  km:=c7g (c7x q _) I.km}
theorem b51 (L:J1 lay C H) (E:EG lay C st) (I:K1 lh st) (c:a1B st)
  (q:∀ J d u F,J1 J d u->EG J d F->Q6 lay C J d->K1 lh F->a1B F->F.nd=st.nd->F.wt=[]->Q .none u) :
  (j3 FT (n+5)).call t8 a0r [.ref (lay (.eg 0))] H Q:=by
 refine s9 rfl rfl (g8 (a54 (λk M A=>∃ O f B,J1 O f A/\EG O f B/\Q6 lay C O f/\K1 lh B/\a1B B/\B.nd=st.nd/\M f7=some (.ref (O (.eg 0)))/\k=(17 - B.m) * 1000+B.wt.length) _ ⟨lay,C,st,L,E,.refl _ _,I,c,rfl,rfl,rfl⟩ λk M A hI W hW=>?_));obtain ⟨O,f,B,U,R,N,V,D,G,r,rfl⟩:=hI;have P:(iL B.wt).length<=o9:=by rw[(m9 ..)];exact c7g V.us.wt (by decide)
 refine B9 (P0 (d8 (P8 U R.toHd (n8 r) rfl (g9 (L9 (U.at_ _ _ R.c17) P (m0 (gt_int ⟨λt=>?_,λt=>?_⟩)))))))
 ·have t:=c7n t;rw [m9] at t;obtain ⟨w,i,Z⟩:∃ w i,B.wt=w++[i]:=⟨B.wt.dropLast,B.wt.getLast (λe=>by rw [e] at t;simp at t),(List.dropLast_concat_getLast _).symm⟩
  refine eA (b6s U R (w:=w)) λL2 T=>?_;have Y:B.wt.length=w.length+1:=by rw[Z];rw[c7P];rfl
  have X:=b54 V (w:=w) (λa ha=>by rw[Z];exact c7s _ ha) (by exact Nat.le.intro (id (Eq.symm Y)))
  have hi:i < B.up.length:=V.wlt i (by rw[Z];exact c7t _ (c8B rfl))
  obtain ⟨x,hx⟩:∃ x,B.nd[i]?=some x:=⟨_,c7h (by rw[V.eqn];exact hi)⟩
  refine g8 (B4 (F6 (rfl) (U.at_ _ _ R.c0) (U.at_ _ _ R.c1) rfl (n8 r) (d8 (b35 (λ_ q=>P8 U R.toHd (n8 r) rfl q) (U.at_ _ _ R.c17) (g9 (b2I (v:=.int (i:Nat)) (U.at_ _ _ R.c17) P (by rw[Z];unfold iL;rw[c7T];rw[List.map_singleton];refine b9 List.getLast?_concat ?_;rfl) ?_))))))
  have e3:(iL B.wt).dropLast=iL w:=by rw[Z];unfold iL;rw[c7T];rw[List.map_singleton];rw[List.dropLast_concat];rfl
  rw[e3];refine g9 (a8n (n:=n) L2 T X hx (λj y hy hj=>?_) ?_ λJ d u F l e s o S z mw=>?_)
  ·rcases D j y hy with h | ⟨p,h1,h2⟩
   ·rw [Z] at h;rcases c8w h with h | h
    ·exact .inl h
    ·exact c7Y (c8x h) hj
   ·exact .inr ⟨p,h1,h2.resolve_right λh=>h⟩
  ·have:=V.km;show B.kn.length+w.length+1<=B.up.length+34 * B.m;exact c46 Y this
  ·refine b0l (K:=j3 FT (n+4)) (hW _ _ _ ?_ ⟨J,d,F,l,e,N.trans ⟨s.eg,s.lay,s.con⟩,o,S,z.trans G,?_,rfl⟩)
   ·have:=o.wm;have:=o.mr;have:=o.small;rcases mw with ⟨a,b⟩ | a
    ·have b:F.wt=w:=b;have a:F.m=B.m:=a;rw[a];rw[b];exact c4c Y
    ·have a:F.m=B.m+1:=a;have:=V.mr;have:=V.small;exact c5a ‹_› ‹_› ‹_› a
   ·rw[(s.eg ..)];exact r
 ·have t:=c78 t;rw [m9] at t;exact q _ _ _ _ U R N V D G (c7H (by exact Nat.eq_zero_of_not_pos λg=>t (c8E g)))
variable {Q:N4}
theorem b8A {s:String} (B:∀ Q:l7,Q (.str s) H->e K r H Q) :
  a6e (D8 e) K r H (s.toList.map λc=>f5.str (String.singleton c)) :=
 λR q=>B _ (.inr (.inl ⟨s,rfl,q _ H (.refl _) λ_ _ _=>rfl⟩))
theorem c58 {v w:f5} (B:a1A v=true) (F:a1A w=true) (h:v≠w) (q:Q false H):Y7 .eq v w H Q:=⟨false,.inl (.inl ⟨B,F,by simp [h]⟩),q⟩
theorem c6i {v w:f5} (B:a1A v=true) (F:a1A w=true) (h:v≠w) (q:Q true H):Y7 .ne v w H Q:=⟨false,.inl (.inl ⟨B,F,by simp [h]⟩),q⟩
theorem a0K {c B:Cv} (h:c K r H λb q=>(b=true->Q true q)/\(b=false->B K r q Q)):V0 c B K r H Q:=h
theorem a7h (q:Q false H):a5x K r H Q:=q
theorem b65 {B F:COp} {a b c:Ev} (h:a K r H λv J=>b K r J λw O=>Y7 B v w O λt q=>(t=true->c K r q λu R=>Y7 F w u R Q)/\(t=false->Q false q)):a6l B F a b c K r H Q:=h
theorem le_int {i j:Int} (q:Q (decide (i<=j)) H):Y7 .le (.int i) (.int j) H Q:=⟨i,j,rfl,rfl,q⟩
theorem b0v (h:H a=some (.dict es ep)) (B:M2 es v) (q:Q (C0 es v).isSome H):Y7 .isin v (.ref a) H Q:=.inr (.inr (.inr ⟨a,es,ep,rfl,h,B,q⟩))
theorem b3U {a b:Nat} {xs ys:List f5} (q:H a=some (.list xs)) (B:H b=some (.list ys)) (F:a33 xs=true) (J:a33 ys=true) (R:xs=ys->Q true H) (O:xs≠ys->Q false H):Y7 .eq (.ref a) (.ref b) H Q:=by
 by_cases e:xs=ys
 ·exact ⟨true,.inl (.inr ⟨a,b,xs,ys,rfl,rfl,q,B,.inl ⟨F,J⟩,by simp [e]⟩),R e⟩
 ·exact ⟨false,.inl (.inr ⟨a,b,xs,ys,rfl,rfl,q,B,.inl ⟨F,J⟩,by simp [e]⟩),O e⟩
theorem b6d {c:Char} {Q:l7} (J:∀ Q:l7,Q (.str (String.singleton c)) H->e K r H Q) (B:97<=c.toNat) (F:c.toNat<=122) (q:Q (.bool false) H):i8 e a5W f4 K r H Q :=
 J _ ⟨.str,⟨⟨_,rfl⟩,rfl⟩,⟨_,rfl,rfl,⟨c,B,F,rfl⟩,q⟩⟩
theorem in_str {b:String} {c:Char} (B:97<=c.toNat) (F:c.toNat<=122) (q:Q (b.toList.contains c) H):Y7 .isin (.str (String.singleton c)) (.str b) H Q:=.inl ⟨b,c,rfl,B,F,rfl,q⟩
theorem b6m {c:Char} (q:97<=c.toNat) (B:c.toNat<=122):"()[]{},:".toList.contains c=false:=by
 have e:"()[]{},:".toList=['(',')','[',']','{','}',',',':']:=by decide +kernel
 rw[e];refine O0 (Bool.eq_false_iff ..) ?_;intro h;rw [List.contains_iff_mem] at h;simp only [List.mem_cons,List.not_mem_nil,or_false] at h;rcases h with h | h | h | h | h | h | h | h <;> subst h <;> revert q B <;> decide
theorem S9 (c:Char):(String.singleton c).toList=[c]:=by simp
variable {Q:l7}{c:Char}
theorem c6g (F:97<=c.toNat) (J:c.toNat<=122) (q:∀ B,m7 H B->Q (.bool true) B):(j3 FT (n+1)).call 0 a6T [.str (String.singleton c)] H Q:=by
 have Y:f5.str (String.singleton c)≠.str "":=λe=>by
  injection e with e
  have:=c7o String.toList e;have U:"".toList=[]:=by decide +kernel
  rw [S9,U] at this;cases this
 refine s9 rfl rfl (g8 (G4 (c0F (b5i (B9 (f6 rfl (m0 (c6i rfl rfl Y ⟨true,rfl,λ_=>?_,(λt=>nomatch t)⟩))))))))
 refine b5i (B9 (Y4 (l:=(String.singleton c).toList) (g:=λ_=>[]) (by rw[(S9 ..)];exact c7q _) (b8A (n8 rfl)) (λv R B k P V=>?_) λB a k W=>?_))
 ·rw [S9] at R;obtain rfl:=c8x R;exact Z7 (a0K (a99 (b6d (n8 rfl) F J ⟨false,rfl,(λt=>nomatch t),λ_=>a0K (B9 (f6 rfl (m0 (in_str F J ⟨λt=>(by rw [b6m F J] at t;cases t),λ_=>a7h ⟨(λt=>nomatch t),λ_=>⟨(λt=>nomatch t),λ_=>V _ (.refl _)⟩⟩⟩))))⟩)))
 ·refine V1 (g9 λb O=>b3U (xs:=[]) (ys:=[]) ?_ l9 rfl rfl (λ_=>?_) λe=>c7Y rfl e)
  ·have:b≠a:=λe=>by rw [e,l9] at O;cases O
   rw[(J9 (λe=>this e.symm))];rw[l9];rw[(S9 ..)];rfl
  ·exact q _ (k.trans ((m7.new W).trans (.new O)))
theorem c55 (L:J1 lay C H) (E:EG lay C st) (F:97<=c.toNat) (J:c.toNat<=122) (q:∀ B,m7 H B->Q .none B):(j3 FT (n+2)).call Q0 a3K [.ref (lay (.eg 2)),.str (String.singleton c)] H Q:=by
 have U:f5.str (String.singleton c)≠.str "?":=λe=>by
  injection e with e
  have:=c7o String.toList e;rw [S9] at this;have R:"?".toList=['?']:=by decide +kernel
  rw [R] at this;injection this with this
  subst this;revert F;decide
 refine s9 rfl rfl (g8 (W9 (a0K (b7T (a99 (P1 (d8 (f6 rfl (g9 (c6g F J λB k=>⟨true,rfl,(λt=>nomatch t),λ_=>?_⟩))))))))))
 refine a0K (B9 (B2 (f6 rfl (m0 (.inl ⟨_,0,c,rfl,rfl,by rw[(S9 ..)];rfl,by rw[(S9 ..)];exact c7d rfl,λd O=>by rw [S9] at O;rw[(c8x O)];exact c7k J (c7d rfl),?_⟩)))))
 exact m0 (c58 rfl rfl U ⟨(λt=>nomatch t),λ_=>a7h ⟨(λt=>nomatch t),λ_=>q _ k⟩⟩)
theorem a8M (h:H a=some (.list (l.map f5.int))) (q:Q (.int l.sum) H):biW .sum [.ref a] H Q:=⟨a,l,rfl,h,q⟩
theorem a8q (h:H a=some (.list (l.map f5.int))) (B:l≠[]) (q:Q (.int (a9A l)) H):biW .max [.ref a] H Q:=.inl ⟨a,l,rfl,h,B,q⟩
noncomputable def St.node (st:St) (x:M9):St:={st with nd:=st.nd++[x]}
theorem a1T (L:J1 lay C H) (E:Hd lay C) (F:r f7=some (.ref (lay (.eg 2)))) (h:C (.eg 4)=some (.list xs)) (B:xs.length<=o9) (q:Q (.int (xs.length:Nat)) H):P9 .len (d7 (o6 (d6 f7) N7) f4) K r H Q :=
 P0 (d8 (a1K L E (n8 F) rfl (g9 (L9 (L.at_ _ _ h) B q))))
theorem a8a (L:J1 lay C H) (E:Hd lay C) {f:Nm} {s:Slot} (W:a0l (a8Y lay) f=some (.ref (lay s))) (d:r f7=some (.ref (lay (.eg 2)))) (c:r C9=some (D6 x)) (h:C s=some (.list (l.map f5.int))) (b:l.length<=o9) (Z:∀ k∈x.2,k < l.length) (two:x.2.length<=2)
  (q:∀ a B,m7 H B->B a=none->Q (.ref a) (B.set a (.list ((x.2.map λk=>l.getD k 0).map f5.int)))):A9 (k8 (o6 (d6 f7) f) (d6 y9)) [y9] true (D8 (a0N (d6 C9) (h9 (.int 1)))) J4 K r H Q:=by
 have e:(x.2.flatMap λk=>[f5.int (l.getD k 0)])=(x.2.map λk=>l.getD k 0).map f5.int:=by rw[(J5 ..)];rw[c7U];rfl
 refine Y4 (l:=x.2) (f:=λi=>.int (i:Nat)) (g:=λk=>[.int (l.getD k 0)]) (by rw[(J5 ..)];rw[(c7f ..)];unfold o9;exact zo6 two) (a3F λR U=>a5k (f6 c (m0 (a2n (v:=.str x.1) (by rw[(m9 ..)];unfold o9;exact zo5 two) (U H (.refl _)))))) (λi Y B k P O=>?_) λB a k V=>by rw[e];exact q a B k V
 have J:(r.set y9 (.int (i:Nat))) f7=some (.ref (lay (.eg 2))):=d;have F:=Z i Y;refine O9 (B2 (a1K (L.keep k) E (n8 J) W (f6 rfl (D9 (i:=i) (x:=.int (l.getD i 0)) ((L.keep k).at_ _ _ h) (by rw[(c7f ..)];exact b) ?_ (O B (.refl _))))))
 rw[c7m];rw[(c7h F)];rw[c7w];rw[(c7h F)];rfl
theorem b1f (L:J1 lay C H) (E:EG lay C st) (two:x.2.length<=2) (h:K9 st.nd.zipIdx x=some p) (q:Q (.int (p:Nat)) H):(j3 FT (n+1)).call Q0 a6W [.ref (lay (.eg 2)),.str x.1,.tup (iL x.2)] H Q:=by
 refine eE E.c5 λJ B=>?_;have F:C0 (a01 st.nd) (D6 x)=some (.int (p:Nat)):=by
  show C0 (knV st.nd.zipIdx) (D6 x)=_;rw[a4k];rw[h];rfl
 refine s9 rfl rfl (g8 (w6 (w9 (I4 (d8 (f6 rfl (g9 (P0 (d8 (f6 rfl (g9 (b0Z ?_ (a8X ?_ (z0 ?_))))))))))))))
 ·rw[(m9 ..)];unfold o9;exact zo6 two
 ·rw[(m9 ..)];show 1+_<=_;unfold o9;exact b9w two
 refine g8 (W9 (B9 (f6 (v:=D6 x) rfl (a1K L E.toHd (n8 rfl) rfl (b0v (L.at_ _ _ B) (a8b (kn:=st.nd.zipIdx) x) ⟨λ_=>?_,λt=>?_⟩)))))
 ·exact g8 (G4 (B2 (a1K L E.toHd (n8 rfl) rfl (f6 (v:=D6 x) rfl (T8 (L.at_ _ _ B) (a8b (kn:=st.nd.zipIdx) x) F q)))))
 ·rw [F] at t;cases t
theorem b1e (L:J1 lay C H) (E:EG lay C st) (Y:st.nd.length < 17) (hc:x.1=String.singleton c) (c1:97<=c.toNat) (c2:c.toNat<=122) (two:x.2.length<=2) (X:∀ k∈x.2,k < st.nd.length) (h:K9 st.nd.zipIdx x=none)
  (q:∀ D H',J1 lay D H'->EG lay D (st.node x)->Q6 lay C lay D->Q (.int (st.nd.length:Nat)) H'):(j3 FT (n+3)).call Q0 a6W [.ref (lay (.eg 2)),.str x.1,.tup (iL x.2)] H Q:=by
 refine eE E.c5 λep M=>j5 E.c6 λO w1 A=>j5 E.c7 λF d1 w=>?_;have hg:C0 (a01 st.nd) (D6 x)=none:=by
  show C0 (knV st.nd.zipIdx) (D6 x)=_;rw[a4k];rw[h];rfl
 have nl:(st.nd.map D6).length=st.nd.length:=c7f ..;have V:(st.nd.map D6).length<=o9:=by rw[nl];unfold o9;exact zo8 Y
 refine s9 rfl rfl (g8 (w6 (w9 (I4 (d8 (f6 rfl (g9 (P0 (d8 (f6 rfl (g9 (b0Z ?_ (a8X ?_ (z0 ?_))))))))))))))
 ·rw[(m9 ..)];unfold o9;exact zo6 two
 ·rw[(m9 ..)];show 1+_<=_;unfold o9;exact b9w two
 refine g8 (W9 (B9 (f6 (v:=D6 x) rfl (a1K L E.toHd (n8 rfl) rfl (b0v (L.at_ _ _ M) (a8b (kn:=st.nd.zipIdx) x) ⟨λt=>?_,λ_=>b0l ?_⟩)))))
 ·rw [hg] at t;cases t
 refine g8 (B4 (F6 (rfl) (L.at_ _ _ E.c2) (L.at_ _ _ E.c3) rfl (n8 rfl) (d8 (f6 (v:=.str (String.singleton c)) (by refine w3 hc ?_;rfl) (g9 (c55 L E c1 c2 λH1 k1=>?_))))))
 have d:=L.keep k1;refine g8 (b7F (a5k (f6 (v:=D6 x) rfl (m0 (a2n (v:=.str x.1) (by rw[(m9 ..)];unfold o9;exact zo5 two) (.inl ⟨iL x.2,rfl,_,a2H (src:=.seq (iL x.2)) (iL x.2) (λi r1 K=>K=H1/\r1 f7=some (.ref (lay (.eg 2)))/\r1 C9=some (D6 x)) (λ_ _ _ _=>rfl) (λr2 K f=>?_) (λi v r2 K hv f W hW _=>?_) ((iL x.2).length+1) 0 _ _ (c5f) (c7q _) ⟨rfl,rfl,rfl⟩⟩))))))
 ·refine eAA f λq1 J Z=>?_;clear f;subst q1;refine g8 (w6 (a1T d E.toHd J E.c4 V (a18 (λ_ q=>a1K d E.toHd (n8 J) rfl q) (n8 Z) (d.at_ _ _ M) (a8b (kn:=st.nd.zipIdx) x) ?_ ?_)))
  ·show (knV _).length<=_;unfold knV;rw[(c7f ..)];rw[List.length_zipIdx];unfold o9;exact zo8 Y
  have hd:K2 (a01 st.nd) (D6 x) (.int ((st.nd.map D6).length:Nat))=a01 (st.nd++[x]):=by
   unfold K2;rw[hg];rw[(c7W (by simp))];rw[nl]
   unfold a01;rw[List.zipIdx_append];rw[c7T];simp
  rw[hd];generalize dep _ _ _=B;have j:=d.put (o:=.dict (a01 (st.nd++[x])) B) M;have E2:=E.toHd.upd (s:=.eg 5) (o:=.dict (a01 (st.nd++[x])) B) rfl;have i4:(upd C (.eg 5) (.dict (a01 (st.nd++[x])) B)) (.eg 4)=some (.list (st.nd.map D6)):=(j8 (by decide)).trans E.c4
  refine g8 (B4 (E9 (λ_ q=>a1K j E2 (n8 J) rfl q) (j.at_ _ _ i4) (d8 (f6 Z (g9 (H9 (j.at_ _ _ i4) V ?_))))));have e2:st.nd.map D6++[D6 x]=(st.nd++[x]).map D6:=by rw[c7T];rfl
  rw[e2];have m:=j.put (o:=.list ((st.nd++[x]).map D6)) i4;have G:=E2.upd (s:=.eg 4) (o:=.list ((st.nd++[x]).map D6)) rfl;have y:(upd (upd C (.eg 5) (.dict (a01 (st.nd++[x])) B)) (.eg 4) (.list ((st.nd++[x]).map D6))) (.eg 6)=some (.list (O.map f5.int)):=(j8 (by decide)).trans ((j8 (by decide)).trans w1)
  refine g8 (B4 (E9 (λ_ q=>a1K m G (n8 J) rfl q) (m.at_ _ _ y) (d8 (w9 (m0 (P0 (d8 (a8a m G (s:=.eg 6) rfl J Z y (by rw[A];unfold o9;exact zo8 Y) (by rw[A];exact X) two λa H4 k4 N=>g9 (a8M l9 (s6 (g9 ?_)))))))))))
  have L4:=m.keep (k4.trans (.new (o:=.list ((x.2.map λk=>O.getD k 0).map f5.int)) N));generalize (1+((x.2.map λk=>O.getD k 0).sum):Int)=R;refine H9 (L4.at_ _ _ y) (by rw[(c7f ..)];rw[A];unfold o9;exact zo8 Y) ?_
  have e6:O.map f5.int++[.int R]=(O++[R]).map f5.int:=by rw[c7T];rfl
  rw[e6];have u:=L4.put (o:=.list ((O++[R]).map f5.int)) y;have I:=G.upd (s:=.eg 6) (o:=.list ((O++[R]).map f5.int)) rfl;have z:(upd (upd (upd C (.eg 5) (.dict (a01 (st.nd++[x])) B)) (.eg 4) (.list ((st.nd++[x]).map D6))) (.eg 6) (.list ((O++[R]).map f5.int))) (.eg 7)=some (.list (F.map f5.int)):=(j8 (by decide)).trans ((j8 (by decide)).trans ((j8 (by decide)).trans d1))
  refine g8 (B4 (E9 (λ_ q=>a1K u I (n8 J) rfl q) (u.at_ _ _ z) (d8 (w9 (m0 (P0 (d8 (w9 (a8a u I (s:=.eg 7) rfl J Z z (by rw[w];unfold o9;exact zo8 Y) (by rw[w];exact X) two λa H6 k6 N=>V1 (d8 (m0 (g9 λb S=>?_))))))))))))
  have P:(Hp.set (Hp.set H6 a (.list ((x.2.map λk=>F.getD k 0).map f5.int))) b (.list [.int 0])) a=some (.list ((x.2.map λk=>F.getD k 0).map f5.int)):=by
   rw[(J9 λe=>by rw [<- e,l9] at S;cases S)];exact l9
  refine add_list P l9 (by rw[(c7f ..)];rw[(c7f ..)];show _+1<=_;unfold o9;exact zo5 two) λc' T=>g9 (a8q (l:=(x.2.map λk=>F.getD k 0)++[0]) (by rw[l9];rw[c7T];rfl) (by simp) (s6 (g9 ?_)))
  have L6:=u.keep (((k6.trans (.new (o:=.list ((x.2.map λk=>F.getD k 0).map f5.int)) N)).trans (.new (o:=.list [.int 0]) S)).trans (.new (o:=.list ((x.2.map λk=>F.getD k 0).map f5.int++[.int 0])) T));generalize (1+a9A _:Int)=U;refine H9 (L6.at_ _ _ z) (by rw[(c7f ..)];rw[w];unfold o9;exact zo8 Y) ?_
  have e7:F.map f5.int++[.int U]=(F++[U]).map f5.int:=by rw[c7T];rfl
  rw[e7];have L7:=L6.put (o:=.list ((F++[U]).map f5.int)) z;have E7:=I.upd (s:=.eg 7) (o:=.list ((F++[U]).map f5.int)) rfl;have j4:(upd (upd (upd (upd C (.eg 5) (.dict (a01 (st.nd++[x])) B)) (.eg 4) (.list ((st.nd++[x]).map D6))) (.eg 6) (.list ((O++[R]).map f5.int))) (.eg 7) (.list ((F++[U]).map f5.int))) (.eg 4)=some (.list ((st.nd++[x]).map D6)):=(j8 (by decide)).trans ((j8 (by decide)).trans D3)
  have g:((st.nd++[x]).map D6).length=st.nd.length+1:=by rw[(c7f ..)];rw[c7P];rfl
  refine g8 (G4 (w9 (a1T L7 E7 J j4 (by rw[g];unfold o9;exact c7g Y (c7d rfl)) (m0 (sub_int ?_)))))
  rw[g];rw[(show (((st.nd.length+1:Nat):Int) - 1)=(st.nd.length:Nat) by exact Int.sub_eq_iff_eq_add.mpr rfl)]
  refine q _ _ L7 ?_ ⟨λ_=>rfl,λ_=>rfl,λ_=>rfl⟩;have fe:∀ s,s≠.eg 4->s≠.eg 5->s≠.eg 6->s≠.eg 7->upd (upd (upd (upd C (.eg 5) (.dict (a01 (st.nd++[x])) B)) (.eg 4) (.list ((st.nd++[x]).map D6))) (.eg 6) (.list ((O++[R]).map f5.int))) (.eg 7) (.list ((F++[U]).map f5.int)) s=C s :=
   λs h4 h5 h6 h7=>(j8 h7).trans ((j8 h6).trans ((j8 h4).trans (j8 h5)))
  exact {E7 with
   c4:=j4
   c5:=⟨B,(j8 (by decide)).trans ((j8 (by decide)).trans ((j8 (by decide)).trans D3))⟩
   c6:=⟨O++[R],(j8 (by decide)).trans D3,by rw[c7P];rw[A];show _=(st.nd++[x]).length;rw[c7P];rfl⟩
   c7:=⟨F++[U],D3,by rw[c7P];rw[w];show _=(st.nd++[x]).length;rw[c7P];rfl⟩
   c10:=E.c10,c11:=E.c11
   cl:=λi hi=>(E.cl i hi).imp λ_=>And.imp_left (fe _ M6 M6 M6 M6).trans
   c12:=E.c12,c13:=E.c13,c14:=E.c14,c15:=E.c15,c16:=E.c16
   cu:=λp hp=>(fe _ O1 O1 O1 O1).trans (E.cu p hp)
   c17:=E.c17}
 ·refine eAA f λq2 J Z=>?_;clear f;subst q2;refine j5 (b38 (c7e hv)) λk a0 q3=>?_;subst q3;have a1:=X k a0;refine ⟨_,N0,g8 (W9 (b7T (b65 (m0 (f6 rfl (le_int ⟨λ_=>a1T d E.toHd (r:=r2.set y9 (.int (k:Nat))) J E.c4 V (lt_int ⟨λt=>?_,λ_=>hW _ _ ⟨rfl,J,Z⟩⟩),λt=>?_⟩))))))⟩
  ·rw [nl] at t;have:((k:Nat):Int) < (st.nd.length:Nat):=by exact c8E a1
   rw [decide_eq_true this] at t;cases t
  ·have:=c78 t;exact (c1E this).elim
end
noncomputable def Y6 (n:Nat) (us:List (Nat×List Nat)) (c:Nat):List (Nat×List Nat):=us.map λp=>if p.1=c then (c,p.2++[n]) else p
noncomputable def a0w (n:Nat) (us:List (Nat×List Nat)) (zs:List Nat):List (Nat×List Nat):=zs.foldl (Y6 n) us
section
variable {n:Nat}{us:List (Nat×List Nat)}{zs:List Nat}
theorem a6b:(Y6 n us c).map (·.1)=us.map (·.1):=by
 unfold Y6;rw[c7U];refine c7r λp _=>?_;show (if p.1=c then (c,p.2++[n]) else p).1=p.1
 split
 ·rename_i e;exact e.symm
 ·rfl
theorem a2r:∀ {zs:List Nat} {us:List (Nat×List Nat)},(a0w n us zs).map (·.1)=us.map (·.1):=by
 intro zs;induction zs with
 | nil=>intro _;exact rfl
 | cons z zs q=>intro us;exact (q (us:=Y6 n us z)).trans a6b
theorem b2z {u:List Nat} (h:(a,u)∈us):∃ v,(a,v)∈Y6 n us c/\(∀ i∈u,i∈v)/\(a=c->n∈v):=by
 by_cases e:a=c
 ·exact ⟨u++[n],c8t ⟨_,h,by rw[(c7X e)];rw[e];rfl⟩,λi q=>c7s _ q,λ_=>c7t _ (c8B rfl)⟩
 ·exact ⟨u,c8t ⟨_,h,c7W e⟩,λi q=>q,λz=>c7Y z e⟩
theorem a2s:∀ {zs:List Nat} {us:List (Nat×List Nat)} {a:Nat} {u:List Nat},(a,u)∈us->∃ v,(a,v)∈a0w n us zs/\(∀ i∈u,i∈v)/\(a∈zs->n∈v):=by
 intro zs;induction zs with
 | nil=>intro _ _ u h;exact ⟨u,h,λ_ h=>h,λh=>nomatch h⟩
 | cons z zs W =>
  intro us a u h;refine y4 (b2z (n:=n) (c:=z) h) λv B F J=>y4 (W B) λw O q R=>⟨w,O,λi V=>q i (F i V),λU=>?_⟩;rcases c8z U with e | e
  ·exact q n (J e)
  ·exact R e
theorem b5a {p:Nat×List Nat} (h:p∈Y6 n us c) (hi:i∈p.2):i=n\/∃ q∈us,i∈q.2:=by
 refine j5 (c8s h) λq B F=>?_;subst F
 split at hi
 ·rcases c8w hi with hi | hi
  ·exact .inr ⟨q,B,hi⟩
  ·exact .inl (c8x hi)
 ·exact .inr ⟨q,B,hi⟩
theorem b49:∀ {zs:List Nat} {us:List (Nat×List Nat)} {p:Nat×List Nat},p∈a0w n us zs->∀ {i:Nat},i∈p.2->i=n\/∃ q∈us,i∈q.2:=by
 intro zs;induction zs with
 | nil=>intro _ p h _ B;exact .inr ⟨p,h,B⟩
 | cons z zs O =>
  intro us p h i B;rcases O (us:=Y6 n us z) h B with e | ⟨q,F,J⟩
  ·exact .inl e
  ·exact b5a F J
theorem b2A (F:(us.map (·.1)).Nodup):((Y6 n us c).map λp=>p.2.length).sum<=(us.map λp=>p.2.length).sum+1:=by
 by_cases h:∃ u,(c,u)∈us
 ·revert h;intro q;refine eE q λu h=>?_;clear q;unfold Y6;rw[(b4R (ug:=[n]) F h)];exact c7l _
 ·have:Y6 n us c=us:=by
   conv=>rhs;(rewrite [<- List.map_id us];try rfl)
   refine c7r λp B=>?_;have:p.1≠c:=λz=>h ⟨p.2,by refine w3 z ?_;exact B⟩
   rw[(c7W this)];rfl
  rw[this];exact c1D
theorem a6a:∀ {zs:List Nat} {us:List (Nat×List Nat)},(us.map (·.1)).Nodup->((a0w n us zs).map λp=>p.2.length).sum<=(us.map λp=>p.2.length).sum+zs.length:=by
 intro zs;induction zs with
 | nil=>intro _ _;exact c7l _
 | cons z zs J =>
  intro us q;have B:=J (us:=Y6 n us z) (by rw[a6b];exact q)
  have F:=b2A (n:=n) (c:=z) q;rw[c72];show ((a0w n (Y6 n us z) zs).map λp=>p.2.length).sum<=_;exact c5L B F
theorem a9S:a3f (up++[up.length])=a3f up+1:=by
 unfold a3f;rw[c7P];show ((List.range (up.length+1)).filter _).length=_;rw[List.range_succ];rw[(List.filter_append ..)];rw[c7P]
 congr 1
 ·congr 1
  refine List.filter_congr λa q=>?_;rw[(b48 (c8D q))];rfl
 ·refine b9 (List.filter_cons_of_pos (by rw[a7e];simp)) ?_;rfl
variable {l:List Int}
noncomputable def St.added (st:St) (x:M9) (zs:List Nat):St:={st with nd:=st.nd++[x],up:=st.up++[st.up.length],us:=a0w st.up.length (st.us++[(st.up.length,[])]) zs}
theorem a40 {q:List M9} {x y:M9} {j:Nat} (h:(q++[x])[j]?=some y):q[j]?=some y\/(j=q.length/\y=x):=by
 by_cases l:j < q.length
 ·rw [List.getElem?_append_left l] at h;exact .inl h
 ·rw [List.getElem?_append_right (b5p l)] at h;have B:=(c8r h).1;simp only [List.length_singleton] at B;have e:j=q.length:=by exact c29 l B
  subst e;simp at h;exact .inr ⟨rfl,h.symm⟩
end
variable {l:List Int}{Q:l7}{E:Value->Shared->Prop}{zs:List Nat}
theorem b1D (I:K1 lh st) (H:st.up.length < 17) (two:x.2.length<=2) (o:∀ k∈x.2,k < st.up.length) (zn:zs.Nodup) (K:∀ c,c∈zs↔c∈x.2.map (f9 st.up)):K1 lh (st.added x zs):=by
 have B:(st.added x zs).up.length=st.up.length+1:=c7P;have O:=V5 I.up I.lt;have G:f9 (st.up++[st.up.length]) st.up.length=st.up.length:=a0g (a3n I.up) a7e;have f:∀ {l:List Nat},(∀ k∈l,k < st.up.length)->l.map (f9 (st.up++[st.up.length]))=l.map (f9 st.up):=λh=>c7r λk o=>O k (h k o);have g:((st.us++[(st.up.length,([]:List Nat))]).map λp=>p.1).Nodup:=by
  rw[c7T];refine O0 (List.nodup_append ..) ?_;refine ⟨I.nod,by simp,λa J b Y e=>?_⟩
  refine j5 (c8s J) λp hp Q=>?_;subst Q;have:=I.uslt p hp;simp at Y;exact c7F this (e.trans Y)
 have X:zs.length<=2:=by
  have:=a3d zn (m:=x.2.map (f9 st.up)) λa J=>(K a).mp J;rw [List.length_map] at this;exact c7g this two
 have F:∀ y∈(st.added x zs).nd,∀ k∈y.2,k < st.up.length:=λy hy k h=>by
  rcases c8w hy with hy | hy
  ·exact I.kid y hy k h
  ·rw [List.mem_singleton.mp hy] at h;exact o k h
 refine {toOk:=⟨a3n I.up,λp hp=>?_,by rw[B];exact c07 H,?_,λy hy=>?_⟩,eqn:=?_,kid:=λy hy k h=>by rw[B];have:=F y hy k h;exact zo1 this,knlt:=λp hp=>by rw[B];have:=I.knlt p hp;exact zo1 this,knk:=λp hp a J=>by rw[B];have:=I.knk p hp a J;exact zo1 this,kn:=λp hp=>?_,use:=λi y hy q hq=>?_,sound:=λE W a b J Y e=>?_,told:=λp hp=>?_,tlt:=λp hp=>?_,wlt:=λi Z=>by rw[B];have:=I.wlt i Z;exact zo1 this,ult:=λp hp i Z=>?_,uslt:=λp hp=>?_,nod:=?_,has:=λc C e=>?_,ulen:=?_,usum:=?_,mr:=?_,wm:=I.wm,km:=?_,fm:=I.fm,em:=I.em,tl:=I.tl,low:=λi y hy k h=>(a40 hy).elim (λhy=>I.low i y hy k h) λ⟨e,L⟩=>by rw[e];rw[I.eqn];rw [L] at h;exact o k h}
 ·rw[B];rcases c8w hp with hp | hp
  ·have:=I.lt p hp;exact zo1 this
  ·rw[(c8x hp)];exact b9u
 ·show (st.nd++[x]).length<=17;rw[c7P];rw[I.eqn];exact H
 ·rcases c8w hy with hy | hy
  ·exact I.two y hy
  ·rw[(c8x hy)];exact two
 ·rw[B];show (st.nd++[x]).length=_;rw[c7P];rw[I.eqn];rfl
 ·refine y4 (I.kn p hp) λy A S T=>⟨y,?_,S,?_⟩
  ·show (st.nd++[x])[p.2]?=_;rw[(c8h (c8r A).1)];exact A
  ·show y.2.map (f9 (st.up++[st.up.length]))=p.1.2.map (f9 (st.up++[st.up.length]));rw[(f (I.kid y (c7e A)))];rw[(f (I.knk p hp))];exact T
 ·have R:=F y (c7e hy) q hq;show ∃ u,(f9 (st.up++[st.up.length]) q,u)∈a0w _ _ _/\i∈u;rw[(O q R)];rcases a40 hy with hy | ⟨e,rfl⟩
  ·exact j5 (I.use i y hy q hq) λu h1 d=>y4 (a2s (n:=st.up.length) (zs:=zs) (c7s [(st.up.length,[])] h1)) λv t M _=>⟨v,t,M i d⟩
  ·exact eE (I.has _ (G7 I.up I.lt q R) (a0f I.up R)) λu h1=>y4 (a2s (n:=st.up.length) (zs:=zs) (c7s [(st.up.length,[])] h1)) λv t _ N=>⟨v,t,by rw[e];rw[I.eqn];exact N ((K _).mpr (c8t ⟨q,hq,rfl⟩))⟩
 ·rw [B] at J Y;have s:a37 st.nd lh E:=⟨W.refl,W.symm,W.trans,W.tie,λi j y z Z D=>W.node i j y z (by
   show (st.nd++[x])[i]?=_;rw[(c8h (c8r Z).1)];exact Z) (by
   show (st.nd++[x])[j]?=_;rw[(c8h (c8r D).1)];exact D)⟩
  have e:f9 (st.up++[st.up.length]) a=f9 (st.up++[st.up.length]) b:=e;by_cases U:a < st.up.length <;> by_cases V:b < st.up.length
  ·rw [O a U,O b V] at e;exact I.sound E s a b U V e
  ·obtain rfl:b=st.up.length:=by exact Nat.eq_of_lt_succ_of_not_lt Y V
   rw [O a U,G] at e;have:=G7 I.up I.lt a U;exact (c2k e this).elim
  ·obtain rfl:a=st.up.length:=by exact Nat.eq_of_lt_succ_of_not_lt J U
   rw [O b V,G] at e;have:=G7 I.up I.lt b V;exact (c2m e this).elim
  ·obtain rfl:a=b:=by exact c3s J Y U V
   exact W.refl a
 ·show f9 (st.up++[st.up.length]) p.1=f9 (st.up++[st.up.length]) p.2;rw[(O _ (I.tlt p hp).1)];rw[(O _ (I.tlt p hp).2)];exact I.told p hp
 ·rw[B];have:=I.tlt p hp;exact c3r this
 ·rw[B];rcases b49 hp Z with e | ⟨q,h1,d⟩
  ·exact c5o e
  ·rcases c8w h1 with h1 | h1
   ·have:=I.ult q h1 i d;exact zo1 this
   ·rw [List.mem_singleton.mp h1] at d;cases d
 ·rw[B];have:p.1∈(st.us++[(st.up.length,([]:List Nat))]).map λp=>p.1:=by
   refine w3 (a2r (n:=st.up.length) (zs:=zs)) ?_;exact c8t ⟨p,hp,rfl⟩
  refine j5 (c8s this) λq hq e=>?_;rcases c8w hq with hq | hq
  ·have:=I.uslt q hq;exact c4b e this
  ·rw [List.mem_singleton.mp hq] at e;have e:st.up.length=p.1:=e;exact c2O ‹_›
 ·show ((a0w _ _ _).map (·.1)).Nodup;rw[a2r];exact g
 ·rw [B] at C;have e:f9 (st.up++[st.up.length]) c=c:=e;have:∃ u,(c,u)∈st.us++[(st.up.length,[])]:=by
   by_cases r:c < st.up.length
   ·rw [O c r] at e;exact eE (I.has c r e) λu w=>⟨u,c7s _ w⟩
   ·obtain rfl:c=st.up.length:=by exact Nat.eq_of_lt_succ_of_not_lt C r
    exact ⟨[],c7t _ (c8B rfl)⟩
  refine eE this λu w=>?_;clear this;exact j5 (a2s (n:=st.up.length) (zs:=zs) w) λv P _=>⟨v,P⟩
 ·rw[B];have h:=c7o List.length (a2r (n:=st.up.length) (zs:=zs) (us:=st.us++[(st.up.length,[])]));rw [List.length_map,List.length_map,List.length_append] at h;have:=I.ulen;show (a0w _ _ _).length<=_;rw[h];show st.us.length+1<=_;exact c7G this 1
 ·rw[B];have h:=a6a (n:=st.up.length) (zs:=zs) g;rw [List.map_append,List.sum_append] at h;have:=I.usum;show ((a0w _ _ _).map λp=>p.2.length).sum<=_;have e:((([(st.up.length,[])]:List (Nat×List Nat)).map λp=>p.2.length).sum)=0:=rfl;exact c42 X h this e
 ·rw[B];have:=I.mr;show st.m+a3f (st.up++[st.up.length])=_;rw[a9S];exact c7o _ this
 ·rw[B];have:=I.km;show st.kn.length+st.wt.length<=_+34 * st.m;exact c4p this
theorem a9E (I:K1 lh st) (D:a1B st):b7X (st.added x zs) st.up.length:=λj y q O=>by
 rcases a40 q with q | ⟨e,_⟩
 ·have F:=V5 I.up I.lt;have U:=I.nlt q;rcases D j y q with h | ⟨p,J,B⟩
  ·exact .inl h
  ·have B:=B.resolve_right λh=>h;refine .inr ⟨p,?_,?_⟩
   ·have:A5 (st.up++[st.up.length]) y=A5 st.up y:=by
     unfold A5
     congr 1
     exact c7r λk R=>F k (I.kid y (c7e q) k R)
    show K9 st.kn (A5 (st.up++[st.up.length]) y)=_;rw[this];exact J
   ·show f9 (st.up++[st.up.length]) p=f9 (st.up++[st.up.length]) j;rw[(F p (I.knlt _ (a3G J)))];rw[(F j U)];exact B
 ·exact c7Y (e.trans I.eqn) O
variable {x:Nm}{ys:List Nat}
theorem b68 {q:List M9} {x:M9} (h:K9 q.zipIdx x=some p):q[p]?=some x:=by
 have:=a3G h;rwa [List.mem_zipIdx_iff_getElem?] at this
theorem b63 {lay:Slot->Nat} {us:List (Nat×List Nat)} (F:(us.map (·.1)).Nodup) {J:List Nat} (h:(c,J)∈us):C0 (Z5 lay us) (.int (c:Nat))=some (.ref (lay (.us c))):=by
 refine a72 (f:=λp:Nat×List Nat=>(f5.int (p.1:Nat),f5.ref (lay (.us p.1)))) h rfl λy B e=>?_;have e:y.1=c:=by injection e with e;exact b2B e
 have q:=a7g F h (show (c,y.2)∈us by refine w3 e ?_;exact B)
 exact Prod.ext e q.symm
theorem b0b (h:e K r H λv q=>(b6I v q λys=>alloc (.list ys) q Q)\/b6J v q λys=>alloc (.list ys) q Q):S0 e K r H Q:=h
theorem b62 {lay:Slot->Nat} {us:List (Nat×List Nat)} {n c:Nat}:Z5 lay (Y6 n us c)=Z5 lay us:=by
 unfold Z5 Y6;rw[c7U];refine c7r λp _=>?_;show (f5.int ((if p.1=c then (c,p.2++[n]) else p).1:Nat),f5.ref (lay (.us (if p.1=c then (c,p.2++[n]) else p).1)))=_
 split
 ·rename_i e;rw[e];rfl
 ·rfl
variable {lay:Slot->Nat}{C:B3}
theorem b8O (L:J1 lay C H) (E:EG lay C st) (nod:(st.us.map (·.1)).Nodup) {u:List Nat} (h:(c,u)∈st.us):J1 lay (upd C (.us c) (.list (iL (u++[i])))) (H.set (lay (.us c)) (.list (iL (u++[i]))))/\EG lay (upd C (.us c) (.list (iL (u++[i])))) {st with us:=Y6 i st.us c} :=
 ⟨L.put (E.cu _ h),{E.toHd.upd (s:=.us c) (o:=.list (iL (u++[i]))) rfl with
  c4:=E.c4,c5:=E.c5,c6:=E.c6,c7:=E.c7,c10:=E.c10,c11:=E.c11
  cl:=λi F=>(E.cl i F).imp λ_=>And.imp_left (j8 a9C).trans
  c12:=E.c12,c13:=E.c13,c14:=E.c14,c15:=E.c15
  c16:=E.c16.imp λ_ e=>(j8 a5N).trans (by rw[b62];exact e)
  cu:=λp J=>by
   refine j5 (c8s J) λq B O=>?_;subst O;by_cases z:q.1=c
   ·rw[(c7X z)];have:q.2=u:=a7g nod (show (c,q.2)∈st.us by refine w3 z ?_;exact B) h
    rw[this];exact D3
   ·rw[(c7W z)];exact (j8 λe=>z (by injection e)).trans (E.cu q B)
  c17:=E.c17}⟩
theorem b8K (L:J1 lay C H) (E:EG lay C st) {q ep':Nat} (Y:C (.eg 16)=some (.dict (Z5 lay st.us) q)) (B:∀ p∈st.us,p.1≠k) (ha:H a=none) :
  J1 (K4 lay (.us k) a) (upd C (.us k) (.list [])) (H.set a (.list []))/\Hd (K4 lay (.us k) a) (upd C (.us k) (.list []))/\(upd C (.us k) (.list [])) (.eg 16)=some (.dict (Z5 lay st.us) q) /\
  J1 (K4 lay (.us k) a) (upd (upd C (.us k) (.list [])) (.eg 16) (.dict (K2 (Z5 lay st.us) (.int (k:Nat)) (.ref a)) ep')) ((H.set a (.list [])).set (lay (.eg 16)) (.dict (K2 (Z5 lay st.us) (.int (k:Nat)) (.ref a)) ep')) /\
  EG (K4 lay (.us k) a) (upd (upd C (.us k) (.list [])) (.eg 16) (.dict (K2 (Z5 lay st.us) (.int (k:Nat)) (.ref a)) ep')) {st with us:=st.us++[(k,[])]}:=by
 have J:=L.take (s:=.us k) (o:=.list []) ha;have F:=E.toHd.take (s:=.us k) (o:=.list []) (a:=a) rfl;have O:(upd C (.us k) (.list [])) (.eg 16)=some (.dict (Z5 lay st.us) q):=(j8 a5N).trans Y;have R:K2 (Z5 lay st.us) (.int (k:Nat)) (.ref a)=Z5 (K4 lay (.us k) a) (st.us++[(k,[])]):=by
  have V:C0 (Z5 lay st.us) (.int (k:Nat))=none:=b1t (f:=λp:Nat×List Nat=>(f5.int (p.1:Nat),f5.ref (lay (.us p.1)))) λy W e=>B y W (by
   have e:f5.int (y.1:Nat)=f5.int (k:Nat):=e;injection e with e;exact b2B e)
  unfold K2;rw[V];rw[(c7W (by simp))]
  unfold Z5;rw[c7T]
  congr 1
  ·refine c7r λp hp=>?_;rw[(R9 λe=>B p hp (by injection e))];rfl
  ·show _=[(f5.int (k:Nat),f5.ref (K4 lay (.us k) a (.us k)))];rw[a2q];rfl
 refine ⟨J,F,O,J.put O,?_⟩;rw[R];exact {F.upd (s:=.eg 16) (o:=.dict (Z5 (K4 lay (.us k) a) (st.us++[(k,[])])) ep') rfl with
  c4:=E.c4,c5:=E.c5,c6:=E.c6,c7:=E.c7,c10:=E.c10,c11:=E.c11
  cl:=λi U=>(E.cl i U).imp λ_=>And.imp_left λh=>(j8 M6).trans ((j8 a9C).trans h)
  c12:=E.c12,c13:=E.c13,c14:=E.c14,c15:=E.c15
  c16:=⟨ep',D3⟩
  cu:=λp hp=>by
   refine (j8 O1).trans ?_;rcases c8w hp with hp | hp
   ·exact (j8 λe=>B p hp (by injection e)).trans (E.cu p hp)
   ·rw[(c8x hp)];exact D3
  c17:=E.c17}
theorem a96 {n c:Nat} {us:List (Nat×List Nat)} {zs:List Nat} (h:zs[i]?=some c):a0w n us (zs.take (i+1))=Y6 n (a0w n us (zs.take i)) c:=by
 unfold a0w;rw[List.take_add_one];rw[h];rw[List.foldl_append];rfl
theorem a1z (l:List Nat):(l.map Int.ofNat).map f5.int=iL l:=by unfold iL;rw[c7U];rfl
theorem b5l {ys:List Int} {l:List Nat} (R:ys.Pairwise (· < ·)) (F:∀ i,i∈ys↔i∈l.map Int.ofNat):∃ zs:List Nat,ys.map f5.int=iL zs/\zs.Nodup/\∀ c,c∈zs↔c∈l:=by
 have e:(ys.map Int.toNat).map Int.ofNat=ys:=by
  rw[c7U]
  conv=>rhs;(rewrite [<- List.map_id ys];try rfl)
  refine c7r λy U=>j5 (c8s ((F y).mp U)) λk _ V=>?_;subst V;rfl
 refine ⟨ys.map Int.toNat,by refine w3 (a1z ..) ?_;rw[e];rfl,?_,λc=>?_⟩
 ·have B:((ys.map Int.toNat).map Int.ofNat).Nodup:=by
   rw[e];exact List.Pairwise.imp (λh=>by exact Int.ne_of_lt h) R
  unfold List.Nodup at B ⊢;rw [List.pairwise_map] at B;exact List.Pairwise.imp (λh e=>h (by rw[e];rfl)) B
 ·have:=F (Int.ofNat c);constructor
  ·intro h;have q:Int.ofNat c∈ys:=by refine w3 e ?_;exact c8t ⟨c,h,rfl⟩
   refine j5 (c8s (this.mp q)) λk O J=>?_;refine w3 (Int.ofNat.inj J) ?_;exact O
  ·intro h;have q:=this.mpr (c8t ⟨c,h,rfl⟩);exact c8t ⟨_,q,rfl⟩
section
variable {c:Char}{n:Nat}
theorem b3t {x:M9} (L:J1 lay C H) (E:EG lay C {st with nd:=st.nd++[x],up:=st.up++[st.up.length],us:=st.us++[(st.up.length,[])]}) (I:K1 lh st) (D:a1B st) (S:st.up.length < 17) (two:x.2.length<=2) (t:∀ k∈x.2,k < st.up.length) (z:r f7=some (.ref (lay (.eg 0)))) (w:r n_n=some (.int (st.up.length:Nat))) (hx:r i9=some (.tup (iL x.2)))
  (q:∀ F A f O,J1 F A f->EG F A O->Q6 lay C F A->K1 lh O->a1B O->O.nd=st.nd++[x]->Q (.int (st.up.length:Nat)) f) {B:Hp->Prop} :
  (d9 (S4 [n_c] true (D8 (S0 (A9 (i8 (d6 f7) I3 (d7 (d6 y9) f4)) [y9] true (D8 (d6 i9)) J4)))
  (d9 (r8 (i8 (k8 (o6 (d6 f7) y6) (d6 n_c)) m8 (d7 (d6 n_n) f4)))
  m6))
 (d9 (r8 (i8 (d6 f7) a0c (d7 (d6 n_n) f4)))
 (d9 (I9 (d6 n_n))
 m6))) (j3 FT (n+4)) r H (λfl _ f=>a3P fl (B f) λv=>Q v f):=by
 have rm:=V5 I.up I.lt;have a2:x.2.map (f9 (st.up++[st.up.length]))=x.2.map (f9 st.up):=c7r λk h=>rm k (t k h);have o4:Ok {st with nd:=st.nd++[x],up:=st.up++[st.up.length],us:=st.us++[(st.up.length,[])]}:=⟨a3n I.up,λp hp=>by
   rw[c7P];rcases c8w hp with hp | hp
   ·have:=I.lt p hp;exact c3p this
   ·have:=c8x hp;simp only [List.length_singleton];exact c5o this,by show (st.up++[st.up.length]).length<=17;rw[c7P];exact S,by show (st.nd++[x]).length<=17;rw[c7P];rw[I.eqn];exact S,λy hy=>by
   rcases c8w hy with hy | hy
   ·exact I.two y hy
   ·rw[(c8x hy)];exact two⟩
 have nod:((st.us++[(st.up.length,([]:List Nat))]).map λp=>p.1).Nodup:=by
  rw[c7T];refine O0 (List.nodup_append ..) ?_;refine ⟨I.nod,by simp,λa ha b X e=>?_⟩
  refine j5 (c8s ha) λp hp q1=>?_;subst q1;simp at X;have:=I.uslt p hp;have e:p.1=b:=e;exact c3v ‹_› X this
 refine g8 (b7F (b0b (b7s (n:=n+2) (l:=x.2) L E o4 rfl z (by unfold o9;exact zo6 two) (λk h=>by show k < (st.up++[st.up.length]).length;rw[c7P];exact c8n (t k h)) (a3F λR hR=>f6 hx (hR H (.refl _))) λH5 b k5 X=>.inl ?_)))
 have L5:=L.keep (k5.trans (.new (o:=.list (iL (x.2.map (f9 (st.up++[st.up.length]))))) X));refine ⟨(x.2.map (f9 st.up)).map Int.ofNat,.inr ⟨b,rfl,?_⟩,λi hi=>?_,λys hp hm d hd=>?_⟩
 ·rw[l9];rw[(a1z ..)];refine w3 a2 ?_;rfl
 ·refine j5 (c8s hi) λJ a0 q2=>?_;subst q2;refine j5 (c8s a0) λk Y q3=>?_;subst q3;have:=G7 I.up I.lt k (t k Y);exact ⟨c7C _,by show ((f9 st.up k:Nat):Int) < 17;exact c2z S this⟩
 refine y4 (b5l hp hm) λzs ez zn zm=>?_;rw[ez];have L6:=L5.keep (.new (o:=.list (iL zs)) hd);have fr:∀ p∈st.us,lay (.us p.1)≠d:=λp hp e=>by
  have:=L5.at_ _ _ (E.cu p (c7s _ hp));rw [e] at this;have hd:Hp.set H5 b (.list (iL (x.2.map (f9 (st.up++[st.up.length]))))) d=none:=hd;rw [hd] at this;cases this
 have a1:∀ i J,zs[i]?=some J->∃ u,(J,u)∈st.us:=λi J hi=>by
  refine j5 (c8s ((zm J).mp (c7e hi))) λk Y q5=>?_;subst q5;exact I.has _ (G7 I.up I.lt k (t k Y)) (a0f I.up (t k Y))
 have I':=b1D I S two t zn zm;have zl:zs.length<=2:=by
  have:=a3d zn (m:=x.2.map (f9 st.up)) λa ha=>(zm a).mp ha;rw [List.length_map] at this;exact c7g this two
 refine .inr (.inr ⟨d,iL zs,rfl,l9,_,a2H (src:=.lst d) (iL zs) (λi g G=>∃ j,J1 lay j G/\EG lay j {st with nd:=st.nd++[x],up:=st.up++[st.up.length],us:=a0w st.up.length (st.us++[(st.up.length,[])]) (zs.take i)}/\Q6 lay C lay j/\G d=some (.list (iL zs))/\g f7=some (.ref (lay (.eg 0)))/\g n_n=some (.int (st.up.length:Nat))) (λi g G Z=>?_) (λg G Z=>?_) (λi v g G hv Z W hW _=>?_) ((iL zs).length+1) 0 _ _ (c5f) (c7q _) ⟨C,L6,E,.refl _ _,l9,z,w⟩⟩)
 ·refine a4E Z λj _ _ _ h _=>?_;clear Z;exact ⟨_,h,rfl⟩
 ·refine a2U Z λj V U s7 h z w=>?_;clear Z;rw [m9,List.take_length] at U;refine g8 (B4 (F6 (rfl) (V.at_ _ _ U.c0) (V.at_ _ _ U.c1) rfl (n8 z) (d8 (f6 w (g9 (a8n (n:=n) (st:=st.added x zs) (x:=x) V U I' ?_ (a9E I D) ?_ λF A f O l e s i d nd mw=>?_))))))
  ·show (st.nd++[x])[st.up.length]?=some x;refine w3 I.eqn ?_;simp
  ·have:=I.km;show st.kn.length+st.wt.length+1<=(st.up++[st.up.length]).length+34 * st.m;rw[c7P];simp only [List.length_singleton];exact c4o this
  ·refine g8 (G4 (f6 w ?_));exact q F A f O l e (s7.trans s) i d nd
 ·refine a2U Z λj V U s7 h z w=>?_;clear Z;obtain ⟨J,hz,rfl⟩:∃ J,zs[i]?=some J/\v=.int (J:Nat):=by
   unfold iL at hv;rw [List.getElem?_map] at hv;exact j5 (c8v hv) λJ K T=>⟨J,K,T.symm⟩
  refine eE (a1 i J hz) λu0 P=>y4 (a2s (n:=st.up.length) (zs:=zs.take i) (c7s [(st.up.length,[])] P)) λu hu _ _=>?_;have c:((a0w st.up.length (st.us++[(st.up.length,[])]) (zs.take i)).map λp=>p.1).Nodup:=by
   have:=a2r (n:=st.up.length) (zs:=zs.take i) (us:=st.us++[(st.up.length,[])]);rw[this];exact nod
  refine eE U.c16 λep a3=>?_;have iu:=U.cu _ hu;have ul:u.length<=1000:=by
   have K:=a3S hu;have T:=a6a (n:=st.up.length) (zs:=zs.take i) nod;rw [List.map_append,List.sum_append] at T;have e:((([(st.up.length,[])]:List (Nat×List Nat)).map λp=>p.2.length).sum)=0:=rfl;have h3:=I.usum;have h4:(zs.take i).length<=2:=c7g (List.length_take_le' _ _) zl;have K:u.length<=_:=K;exact c47 S T e h3 h4 K
  have N:(g.set n_c (.int (J:Nat))) f7=some (.ref (lay (.eg 0))):=z;have M:(g.set n_c (.int (J:Nat))) n_n=some (.int (st.up.length:Nat)):=w;refine ⟨_,N0,g8 (B4 (E9 (λ_ q=>B2 (P8 V U.toHd (n8 N) rfl (f6 rfl (T8 (V.at_ _ _ a3) (a6c J) (b63 c hu) q)))) (V.at_ _ _ iu) (d8 (f6 M (g9 (H9 (V.at_ _ _ iu) ?_ ?_))))))⟩
  ·rw[(m9 ..)];show u.length<=_;unfold o9;exact c7g ul (c7d rfl)
  ·rw[a0E];refine eA (b8O V U c (i:=st.up.length) hu) λL8 E8=>hW _ _ ⟨_,L8,?_,s7.trans ⟨λ_=>rfl,λ_=>rfl,λ_=>rfl⟩,?_,N,M⟩
   ·rw[(a96 hz)];exact E8
   ·rw[(J9 λe=>fr _ P e.symm)];exact h
theorem c0d (L:J1 lay C H) (E:EG lay C st) (I:K1 lh st) (D:a1B st) (f:st.up.length < 17) {x:M9} (hc:x.1=String.singleton c) (S:97<=c.toNat) (T:c.toNat<=122) (two:x.2.length<=2) (w:∀ k∈x.2,k < st.up.length)
  (q0:∀ p,st.nd[p]?=some x->Q (.int (p:Nat)) H)
  (q1:∀ J W Z O,J1 J W Z->EG J W O->Q6 lay C J W->K1 lh O->a1B O->O.nd=st.nd++[x]->Q (.int (st.nd.length:Nat)) Z) :
  (j3 FT (n+5)).call t8 a1W [.ref (lay (.eg 0)),.str x.1,.tup (iL x.2)] H Q:=by
 have o:=I.toOk;refine s9 rfl rfl (g8 (w6 (F6 (rfl) (L.at_ _ _ E.c2) (L.at_ _ _ E.c3) rfl (λ_ q=>P8 L E.toHd (n8 rfl) rfl q) (d8 (f6 rfl (d8 (f6 rfl (g9 ?_))))))));cases e:K9 st.nd.zipIdx x with
 | some p =>
  have b:=b68 e;have pl:p < st.up.length:=I.nlt b;refine b1f (n:=n+3) L E two e (z0 (g8 (W9 (B9 (f6 rfl (F6 (rfl) (L.at_ _ _ E.c8) (L.at_ _ _ E.c9) rfl (λ_ q=>P8 L E.toHd (n8 rfl) rfl q) (g9 (b7S (n:=n+3) L E o (lt_int ⟨λ_=>g8 (G4 (f6 rfl ?_)),λt=>?_⟩)))))))))
  ·exact q0 p b
  ·have:=c78 t;exact (c2f pl this).elim
 | none =>
  refine b1e (n:=n+1) L E (by rw[I.eqn];exact f) hc S T two (by rw[I.eqn];exact w) e λC1 H1 U R s1=>z0 ?_
  have z:Ok (st.node x):=⟨o.up,o.lt,o.small,by show (st.nd++[x]).length<=17;rw[c7P];rw[I.eqn];exact f,λy hy=>by
   rcases c8w hy with hy | hy
   ·exact o.two y hy
   ·rw[(c8x hy)];exact two⟩
  refine g8 (W9 (B9 (f6 rfl (F6 (rfl) (U.at_ _ _ R.c8) (U.at_ _ _ R.c9) rfl (λ_ q=>P8 U R.toHd (n8 rfl) rfl q) (g9 (b7S (n:=n+3) U R z (lt_int ⟨λt=>?_,λ_=>b0l ?_⟩)))))))
  ·have t:=c7n t;have:((st.nd.length:Nat):Int) < (st.up.length:Nat):=t;have:=I.eqn;exact (c1N ‹_› this).elim
  refine g8 (B4 (F6 (rfl) (U.at_ _ _ R.c8) (U.at_ _ _ R.c9) rfl (λ_ q=>P8 U R.toHd (n8 rfl) rfl q) (g9 (c0E (n:=n+3) U R z λF m H2 N r A=>?_))));refine eE r.c16 λv h=>?_;have V:lay (.eg 0)=F (.eg 0):=(A.eg 0).symm;have Y:∀ p∈st.us,p.1≠st.up.length:=λp b=>c7F (I.uslt p b);have g:(Z5 F st.us).length<=o9:=by unfold Z5;rw[(c7f ..)];have:=I.ulen;unfold o9;exact c2A f this
  have X:st.nd.length=st.up.length:=I.eqn;rw [X] at *;refine g8 (w6 (V1 (g9 λa ha=>?_)));refine a5L (b8K N r (ep':=dep (Z5 F st.us) (.int (st.up.length:Nat)) v) h Y ha) λu K j P M=>a18 (λ_ q=>P8 u K (n8 (c7o (λa=>some (f5.ref a)) V)) rfl q) (n8 rfl) (u.at_ _ _ j) (a6c _) g ?_;have G:=(s1.trans A).trans (⟨λ_=>rfl,λ_=>rfl,λ_=>rfl⟩:Q6 F m (K4 F (.us st.up.length) a) (upd (upd m (.us st.up.length) (.list [])) (.eg 16) (.dict (K2 (Z5 F (st.node x).made.us) (.int (st.up.length:Nat)) (.ref a)) (dep (Z5 F st.us) (.int (st.up.length:Nat)) v))))
  refine b3t (B:=Q .none) P M I D f two w (c7o (λa=>some (f5.ref a)) (G.eg 0).symm) rfl rfl λJ W Z O l e s i d nd=>?_;have:=q1 J W Z O l e (G.trans s) i d nd;rw [I.eqn] at this;exact this
variable {c:Nat}
theorem a3t {q:List M9} {t:Nat×Nat} {E:Nat->Nat->Prop} (c:a37 q (lh++[t]) E):a37 q lh E:=⟨c.refl,c.symm,c.trans,λp B=>c.tie p (c7s _ B),c.node⟩
theorem b1U (L:J1 lay C H) (E:EG lay C st) (I:K1 lh st) (D:a1B st) (tl:lh.length < 20) {a b:Nat} {R:f5} (ha:a < st.up.length) (U:b < st.up.length)
  (q:∀ B V Y J v,J1 B V Y->EG B V J->Q6 lay C B V->K1 (lh++[(a,b)]) J->a1B J->J.nd=st.nd->Q v Y):(j3 FT (n+4)).call t8 N6 [.ref (lay (.eg 0)),.int (a:Nat),.int (b:Nat),R] H Q:=by
 have O:(lh++[(a,b)]).length=lh.length+1:=c7P;refine b8v L E I.toOk I.us ha U (λe V Y l Z s=>?_) λe u f B V Y l Z s=>?_
 ·refine q _ _ _ _ _ l Z s ?_ D rfl;exact {I with
   sound:=λE F=>I.sound E (a3t F)
   told:=λp hp=>by
    rcases c8w hp with hp | hp
    ·exact I.told p hp
    ·rw[(c8x hp)];exact e
   tlt:=λp hp=>by
    rcases c8w hp with hp | hp
    ·exact I.tlt p hp
    ·rw[(c8x hp)];exact ⟨ha,U⟩
   em:=by have:=I.em;rw[O];show st.e+1<=st.m+_;exact c7G this 1
   tl:=by rw[O];exact tl}
 ·have i:=J3 I.up a ha;have k:=J3 I.up b U;have t:=G7 I.up I.lt a ha;have r:=G7 I.up I.lt b U;have g:min (f9 st.up a) (f9 st.up b) < max (f9 st.up a) (f9 st.up b):=by exact c5q e
  have c:st.up[min (f9 st.up a) (f9 st.up b)]?=some (min (f9 st.up a) (f9 st.up b)):=by
   rcases c7O (f9 st.up a) (f9 st.up b) with z | z
   ·rw[(Nat.min_eq_left z)];exact i
   ·rw[(Nat.min_eq_right z)];exact k
  have W:st.up[max (f9 st.up a) (f9 st.up b)]?=some (max (f9 st.up a) (f9 st.up b)):=by
   rcases c7O (f9 st.up a) (f9 st.up b) with z | z
   ·rw[(Nat.max_eq_right z)];exact k
   ·rw[(Nat.max_eq_left z)];exact i
  refine eE (I.has _ (by exact c7k (Nat.min_le_right _ _) r) (a0g I.up c)) λw d=>?_
  have R:∀ E,a37 st.nd (lh++[(a,b)]) E->E (min (f9 st.up a) (f9 st.up b)) (max (f9 st.up a) (f9 st.up b)):=λE F=>by
   have h:E a b:=F.tie (a,b) (c7t _ (c8B rfl));have h:=F.trans _ _ _ (F.symm _ _ (I.toR (a3t F) ha)) (F.trans _ _ _ h (I.toR (a3t F) U));rcases c7O (f9 st.up a) (f9 st.up b) with z | z
   ·rw[(Nat.min_eq_left z)];rw[(Nat.max_eq_right z)];exact h
   ·rw[(Nat.min_eq_right z)];rw[(Nat.max_eq_left z)];exact F.symm _ _ h
  refine q _ _ _ _ _ l Z s (a77 I c W g d f R (λ_ h=>c7s _ h) (λp hp=>?_) (by exact Nat.le.intro (id (Eq.symm O))) (by exact O▸tl)) (a7B I.toOk I.kid I.eqn I.knlt I.nod I.use c W g f (λp j o=>o.elim) D) rfl
  rcases c8w hp with hp | hp
  ·exact .inl hp
  ·rw[(c8x hp)];exact .inr ⟨⟨ha,U⟩,(c7O _ _).imp (λh=>(Nat.min_eq_left h).symm) (λh=>(Nat.max_eq_left h).symm),(c7O _ _).imp (λh=>(Nat.min_eq_right h).symm) λh=>(Nat.max_eq_right h).symm⟩
variable {Q:v9}{fs:List (Nm×f5)}
theorem a16 {sI sN:Slot} {c x:Nm} {Q:a2Q} (L:J1 lay C H) (J:∀ Q:l7,Q (.ref (lay sI)) H->e K r H Q) (F:C sI=some (.inst c (lay sN))) (B:C sN=some (.ns fs)) (O:fs.length<=1000)
  (q:J1 lay (upd C sN (.ns (a0H fs x v))) (H.set (lay sN) (.ns (a0H fs x v)))->Q r (H.set (lay sN) (.ns (a0H fs x v)))):T1 e x K v r H Q :=
 J _ ⟨c,_,fs,⟨_,rfl,L.at_ _ _ F,L.at_ _ _ B⟩,O,q (L.put B)⟩
theorem T4 {b:Bv} {sI sN:Slot} {c x:Nm} (s:Slot) (L:J1 lay C H) (Z:r f7=some (.ref (lay sI))) (U:C sI=some (.inst c (lay sN))) (V:C sN=some (.ns fs)) (Y:fs.length<=1000) (F:sI≠s) (J:sN≠s)
  (q:∀ a B,J1 (K4 lay s a) (upd (upd C s (.list [])) sN (.ns (a0H fs x (.ref a)))) B->b K r B Q):d9 (p9 (T1 (d6 f7) x) (G0 f4)) b K r H Q:=by
 refine g8 (w6 (V1 (g9 λa W=>?_)));have O:=L.take (s:=s) (o:=.list []) W;refine a16 (sI:=sI) (sN:=sN) (c:=c) (fs:=fs) O (n8 (by rw[(R9 F)];exact Z)) ((j8 F).trans (by rw[(R9 J)];exact U)) ((j8 J).trans V) Y λR=>?_
 exact q a _ R
theorem a4y {b:Bv} {sI sN:Slot} {c x:Nm} (s:Slot) (L:J1 lay C H) (Z:r f7=some (.ref (lay sI))) (U:C sI=some (.inst c (lay sN))) (V:C sN=some (.ns fs)) (Y:fs.length<=1000) (F:sI≠s) (J:sN≠s)
  (q:∀ a B,J1 (K4 lay s a) (upd (upd C s (.dict [] 0)) sN (.ns (a0H fs x (.ref a)))) B->b K r B Q):d9 (p9 (T1 (d6 f7) x) a2x) b K r H Q:=by
 refine g8 (w6 (λa W=>?_));have O:=L.take (s:=s) (o:=.dict [] 0) W;refine a16 (sI:=sI) (sN:=sN) (c:=c) (fs:=fs) O (n8 (by rw[(R9 F)];exact Z)) ((j8 F).trans (by rw[(R9 J)];exact U)) ((j8 J).trans V) Y λR=>?_
 exact q a _ R
variable {Q:l7}
theorem b4g (L:J1 lay C H) (q:∀ a d B F J O U,J1 (K4 (K4 (K4 (K4 (K4 (K4 lay (.eg 3) d) (.eg 2) a) (.eg 4) B) (.eg 5) F) (.eg 6) J) (.eg 7) O)
  (upd (upd (upd (upd (upd (upd (upd (upd (upd (upd C (.eg 3) (.ns [])) (.eg 2) (.inst Q0 d)) (.eg 4) (.list [])) (.eg 3) (.ns [(N7,.ref B)])) (.eg 5) (.dict [] 0)) (.eg 3) (.ns [(N7,.ref B),(i9,.ref F)])) (.eg 6) (.list [])) (.eg 3) (.ns [(N7,.ref B),(i9,.ref F),(a0d,.ref J)])) (.eg 7) (.list [])) (.eg 3) (.ns [(N7,.ref B),(i9,.ref F),(a0d,.ref J),(a1Z,.ref O)])) U->Q (.ref a) U) :
  b1X (j3 FT (n+1)) Q0 [] H Q:=λa d f g R=>by
 have W:=L.take (s:=.eg 3) (o:=.ns []) g;have Y:=W.take (s:=.eg 2) (o:=.inst Q0 d) (a:=a) (by rw[(J9 R)];exact f)
 refine s9 rfl rfl (T4 (sI:=.eg 2) (sN:=.eg 3) (.eg 4) Y rfl rfl rfl (c7d rfl) (by decide) (by decide) λB h Z=>?_)
 refine a4y (sI:=.eg 2) (sN:=.eg 3) (.eg 5) Z rfl rfl rfl (c7d rfl) (by decide) (by decide) λF i b=>?_
 refine T4 (sI:=.eg 2) (sN:=.eg 3) (.eg 6) b rfl rfl rfl (c7d rfl) (by decide) (by decide) λJ j c=>?_
 refine T4 (sI:=.eg 2) (sN:=.eg 3) (.eg 7) c rfl rfl rfl (c7d rfl) (by decide) (by decide) λO V e=>?_
 exact ⟨rfl,q a d B F J O V e⟩
theorem b6j (L:J1 lay C H) (q:∀ a d B F J R,J1 (K4 (K4 (K4 (K4 (K4 lay (.eg 9) d) (.eg 8) a) (.eg 10) B) (.eg 11) F) (.eg 12) J)
  (upd (upd (upd (upd (upd (upd (upd (upd C (.eg 9) (.ns [])) (.eg 8) (.inst G3 d)) (.eg 10) (.list [])) (.eg 9) (.ns [(y6,.ref B)])) (.eg 11) (.list [])) (.eg 9) (.ns [(y6,.ref B),(a0p,.ref F)])) (.eg 12) (.list [])) (.eg 9) (.ns [(y6,.ref B),(a0p,.ref F),(W8,.ref J)])) R->Q (.ref a) R) :
  b1X (j3 FT (n+1)) G3 [] H Q:=λa d c e O=>by
 have V:=L.take (s:=.eg 9) (o:=.ns []) e;have W:=V.take (s:=.eg 8) (o:=.inst G3 d) (a:=a) (by rw[(J9 O)];exact c)
 refine s9 rfl rfl (T4 (sI:=.eg 8) (sN:=.eg 9) (.eg 10) W rfl rfl rfl (c7d rfl) (by decide) (by decide) λB f Y=>?_)
 refine T4 (sI:=.eg 8) (sN:=.eg 9) (.eg 11) Y rfl rfl rfl (c7d rfl) (by decide) (by decide) λF g Z=>?_
 refine T4 (sI:=.eg 8) (sN:=.eg 9) (.eg 12) Z rfl rfl rfl (c7d rfl) (by decide) (by decide) λJ U b=>?_
 exact ⟨rfl,q a d B F J U b⟩
noncomputable def st0:St:=⟨[],[],[],[],[],0,0,0⟩
theorem c6d:K1 [] st0:=by
 refine {toOk:=⟨⟨λi p e=>by cases e⟩,λp q=>(by cases q),c7q _,c7q _,λx B=>(by cases B)⟩,eqn:=rfl,kid:=λx B=>(by cases B),knlt:=λp q=>(by cases q),knk:=λp q=>(by cases q),kn:=λp q=>(by cases q),use:=λi x B=>(by cases B),sound:=λE _ a b F=>c7Y F (c8p _),told:=λp q=>(by cases q),tlt:=λp q=>(by cases q),wlt:=λi O=>(by cases O),ult:=λp q=>(by cases q),uslt:=λp q=>(by cases q),nod:=c8g,has:=λc J=>c7Y J (c8p _),ulen:=c7l _,usum:=c7l _,mr:=rfl,wm:=c7l _,km:=c7l _,fm:=rfl,em:=c7l _,tl:=c7q _,low:=λi x B=>(by cases B)}
theorem b97:a1B st0:=λi x q=>by cases q
variable {fs:List (Nat×Nat)}
theorem b4h (L:J1 lay C H) (q:∀ B V h,J1 B V h->EG B V st0->(∀ k,B (.ow k)=lay (.ow k))->(∀ k,V (.ow k)=C (.ow k))->Q (.ref (B (.eg 0))) h) :
  b1X (j3 FT (n+2)) t8 [] H Q:=λa d A D f=>by
 have u:=L.take (s:=.eg 1) (o:=.ns []) D;have v:=u.take (s:=.eg 0) (o:=.inst t8 d) (a:=a) (by rw[(J9 f)];exact A)
 refine s9 rfl rfl (g8 (w6 (b04 (g9 (b4g v λO T X b5 b6 b7 P w=>?_)))));refine a16 (sI:=.eg 0) (sN:=.eg 1) (c:=t8) (fs:=[]) w (n8 rfl) rfl rfl (c7d rfl) λx=>g8 (w6 (b04 (g9 (b6j x λR u9 I K M S y=>?_))));refine a16 (sI:=.eg 0) (sN:=.eg 1) (c:=t8) (fs:=[(Y2,.ref O)]) y (n8 rfl) rfl rfl (c7d rfl) λz=>T4 (sI:=.eg 0) (sN:=.eg 1) (c:=t8) (fs:=[(Y2,.ref O),(N2,.ref R)]) (.eg 13) z rfl rfl rfl (c7d rfl) (by decide) (by decide) λF j W=>?_
 refine T4 (sI:=.eg 0) (sN:=.eg 1) (c:=t8) (fs:=[(Y2,.ref O),(N2,.ref R),(Z1,.ref F)]) (.eg 14) W rfl rfl rfl (c7d rfl) (by decide) (by decide) λJ l Y=>?_
 refine a4y (sI:=.eg 0) (sN:=.eg 1) (c:=t8) (fs:=[(Y2,.ref O),(N2,.ref R),(Z1,.ref F),(a0o,.ref J)]) (.eg 15) Y rfl rfl rfl (c7d rfl) (by decide) (by decide) λU m Z=>?_
 refine a4y (sI:=.eg 0) (sN:=.eg 1) (c:=t8) (fs:=[(Y2,.ref O),(N2,.ref R),(Z1,.ref F),(a0o,.ref J),(a3a,.ref U)]) (.eg 16) Z rfl rfl rfl (c7d rfl) (by decide) (by decide) λg r b=>?_
 refine T4 (sI:=.eg 0) (sN:=.eg 1) (c:=t8) (fs:=[(Y2,.ref O),(N2,.ref R),(Z1,.ref F),(a0o,.ref J),(a3a,.ref U),(y6,.ref g)]) (.eg 17) b rfl rfl rfl (c7d rfl) (by decide) (by decide) λN t e=>?_
 exact ⟨rfl,q _ _ _ e {c0:=rfl,c1:=rfl,c2:=rfl,c3:=rfl,c8:=rfl,c9:=rfl,c4:=rfl,c5:=⟨0,rfl⟩,c6:=⟨[],rfl,rfl⟩,c7:=⟨[],rfl,rfl⟩,c10:=rfl,c11:=rfl,cl:=λi E=>c7Y E (c8p _),c12:=⟨[],rfl,rfl⟩,c13:=⟨[],rfl,rfl⟩,c14:=⟨[],rfl,rfl⟩,c15:=⟨0,rfl⟩,c16:=⟨0,rfl⟩,cu:=λp G=>(by cases G),c17:=rfl} (λ_=>rfl) (λ_=>rfl)⟩
structure Sy (lay:Slot->Nat) (C:B3) (H:Hp) (lh:List (Nat×Nat)) (st:St):Prop where
 L:J1 lay C H
 E:EG lay C st
 I:K1 lh st
theorem b4e {xs:List Nat} (p:l.Perm (xs.map Int.ofNat)):∃ ys:List Nat,l=ys.map Int.ofNat/\ys.Perm xs:=by
 refine ⟨l.map Int.toNat,?_,?_⟩
 ·rw[c7U]
  conv=>lhs;(rewrite [<- List.map_id l];try rfl)
  refine c7r λi B=>j5 (c8s (p.mem_iff.mp B)) λk _ q=>?_;subst q;rfl
 ·have:=p.map Int.toNat;rw [List.map_map,show Int.toNat ∘ Int.ofNat=id from rfl,List.map_id] at this;exact this
theorem a5d (xs:List Nat):∃ ys:List Nat,(T0 (xs.map Int.ofNat)).map f5.int=iL ys/\ys.Perm xs:=by
 exact j5 (b4e (List.mergeSort_perm (xs.map Int.ofNat) λa b=>decide (a<=b))) λys e p=>⟨ys,by unfold T0;rw[e];rw[(a1z ..)];rfl,p⟩
theorem b1O {α β:Type} {f:α->β} {ys:List β} (h:∀ y∈ys,∃ z,y=f z):∃ zs:List α,ys=zs.map f:=by
 induction ys with
 | nil=>exact ⟨[],rfl⟩
 | cons y ys F =>
  refine eE (h y (c7j)) λz J=>?_;subst J;refine eE (F λw B=>h w (c7i _ B)) λzs q=>?_;subst q;exact ⟨z :: zs,rfl⟩
theorem a6X {α β:Type} {f:α->β} {l:List α} (h:(l.map f).Nodup):l.Nodup:=by
 unfold List.Nodup at h ⊢;rw [List.pairwise_map] at h;exact List.Pairwise.imp (λh e=>h (c7o f e)) h
theorem a6A {α β:Type} {l:List α} {g:α->List β} (h:∀ a∈l,(g a).length<=m):(l.flatMap g).length<=l.length * m:=by
 induction l with
 | nil=>exact c7q _
 | cons a l B =>
  rw[List.flatMap_cons];rw[c7P];rw[c72];rw[(Nat.succ_mul ..)];have:=h a (c7j);have:=B λb q=>h b (c7i _ q);exact c4w ‹_› this
variable {t2:List Nm}{ks:List Nat}
theorem Sy.keep (S:Sy lay C H lh st) {q:Hp} (k:m7 H q):Sy lay C q lh st:=⟨S.L.keep k,S.E,S.I⟩
theorem Sy.lt (S:Sy lay C H lh st) (ha:a < st.up.length):f9 st.up a < st.up.length:=G7 S.I.up S.I.lt a ha
theorem Sy.idem (S:Sy lay C H lh st) (ha:a < st.up.length):f9 st.up (f9 st.up a)=f9 st.up a:=a0f S.I.up ha
theorem Sy.small (S:Sy lay C H lh st):st.up.length<=17:=S.I.small
theorem a2I {m:Nm} {as:Lv} {K:Nat} (S:Sy lay C H lh st) (F:(FT t8 m).isSome=true) (B:a0l (a6C lay) m=none) (J:∀ Q:l7,Q (.ref (lay (.eg 0))) H->e (j3 FT K) r H Q) (h:as (j3 FT K) r H λvs q=>(j3 FT K).call t8 m (.ref (lay (.eg 0)) :: vs) q Q):i8 e m as (j3 FT K) r H Q :=
 F6 F (S.L.at_ _ _ S.E.c0) (S.L.at_ _ _ S.E.c1) B J h
theorem b3v (S:Sy lay C H lh st) (ha:a < st.up.length) (q:∀ b (ys:List Nat),H b=none->ys.length<=17->(∀ j,j∈ys↔j < st.up.length/\f9 st.up j=f9 st.up a)->Q (.ref b) (H.set b (.list (iL ys)))) :
  (j3 FT (n+3)).call t8 a00 [.ref (lay (.eg 0)),.int (a:Nat)] H Q:=by
 have U:(T9 lay st.up.length).length<=o9:=by unfold T9;rw[(c7f ..)];rw[c70];exact l5 S.small
 refine N1 (S.E.cl _ (S.lt ha)) λB V Y F W=>s9 rfl rfl (g8 (G4 (F6 rfl (S.L.at_ _ _ S.E.c8) (S.L.at_ _ _ S.E.c9) rfl (λ_ q=>P8 S.L S.E.toHd (n8 rfl) rfl q) (d8 (f6 rfl (g9 (s9 rfl rfl (g8 (G4 (P0 (d8 (B2 (a2b S.L S.E.toHd (n8 rfl) rfl (F6 rfl (S.L.at_ _ _ S.E.c8) (S.L.at_ _ _ S.E.c9) rfl (n8 rfl) (d8 (f6 rfl (g9 (b47 S.L S.E S.I.toOk ha (D9 (S.L.at_ _ _ S.E.c11) U (a6N (S.lt ha)) (g9 ?_))))))))))))))))))))
 have J:B.length<=17:=c7g (a0s Y λj R=>(F j R).1) S.small;refine a17 (l:=B.map Int.ofNat) (by rw[(a1z ..)];exact S.L.at_ _ _ V) (by rw[(c7f ..)];exact c7k J (c7d rfl)) λb O=>?_
 refine j5 (a5d B) λys e p=>?_;rw[e];refine q b ys O (by rw[p.length_eq];exact J) λj=>?_
 refine O0 (p.mem_iff ..) ?_;refine ⟨λh=>?_,λh=>W (S.idem ha) j h.1 h.2⟩;exact eA (F j h) λc d=>⟨c,d.trans (S.idem ha)⟩
theorem b03 {elt e:Ev} {ifs:Cv} (h:e K r H λv H1=>itV v H1 λsrc H2=>∃ n,a1L (a5h [x] true r (a2E elt ifs K)) src n 0 [] H2 λxs H5=>alloc (.list xs) H5 Q):A9 elt [x] true (D8 e) ifs K r H Q:=h
theorem a2h {b:Nat} {l:List f5} {R:Src->Hp->Prop} (h:H b=some (.list l)) (q:R (.lst b) H):itV (.ref b) H R:=.inr (.inr ⟨b,l,rfl,h,q⟩)
noncomputable def Nds (st:St) (c:Nat) (z:M9):Prop:=∃ (i:Nat) (x:M9),st.nd[i]?=some x/\f9 st.up i=f9 st.up c/\z=A5 st.up x
noncomputable def Kd (st:St) (c k:Nat):Prop:=∃ z,Nds st c z/\k∈z.2
theorem Sy.two (S:Sy lay C H lh st) {z:M9} (h:Nds st a z):z.2.length<=2:=by
 refine j9 h λi x q _ B=>?_;clear h;subst B;show (x.2.map _).length<=2;rw[(c7f ..)];exact S.I.two x (c7e q)
theorem Sy.klt (S:Sy lay C H lh st) {z:M9} (h:Nds st a z) (B:k∈z.2):k < st.up.length/\f9 st.up k=k:=by
 refine j9 h λi x J _ O=>?_;clear h;subst O;refine j5 (c8s B) λq F R=>?_;subst R;have:=S.I.kid x (c7e J) q F;exact ⟨S.lt this,S.idem this⟩
theorem b6O (x:M9):a8I (D6 x)=true:=List.all_eq_true.mpr λv q=>by
 refine j5 (b38 q) λi _ B=>?_;subst B;rfl
theorem b3w (S:Sy lay C H lh st) (ha:a < st.up.length) (q:∀ F b (zs:List M9),m7 H F->F b=none->zs.length<=17->(∀ z,z∈zs↔Nds st a z)->Q (.ref b) (F.set b (.list (zs.map D6)))) :
  (j3 FT (n+4)).call t8 a0q [.ref (lay (.eg 0)),.int (a:Nat)] H Q:=by
 refine s9 rfl rfl (g8 (G4 (b0b (b03 (a2I S rfl rfl (n8 rfl) (d8 (f6 rfl (g9 (b3v S ha λb ys Z c V=>a2h l9 (Z8 (l:=ys) (f:=λi=>.int (i:Nat)) (g:=λi=>[D6 (A5 st.up (st.nd.getD i ("",[])))]) (λF k i=>⟨_,k _ _ l9,rfl⟩) ?_ (λi U F k P r=>?_) λF k d s=>.inr ?_))))))))))
 ·rw[(J5 ..)];rw[(c7f ..)];exact l5 c
 ·refine eA ((V i).mp U) λR O=>?_;have J:=S.keep ((m7.new Z).trans k);have B:st.nd[i]?=some _:=c7h (by rw[S.I.eqn];exact R)
  refine ⟨_,N0,O9 (a2I J rfl rfl (n8 rfl) (d8 (f6 rfl (g9 (b7w J.L J.E J.I.toOk J.I.kid B λp A=>?_)))))⟩;have:=r p A;rwa [c7w,B] at this
 ·rw[(J5 ..)];refine ⟨d,_,rfl,l9,by rw[(c7f ..)];exact c,λv W=>?_,λN M j e t=>?_⟩
  ·refine j5 (c8s W) λi _ D=>?_;subst D;exact b6O _
  ·refine eE (b1O (f:=D6) (ys:=N) λv W=>by
    refine j5 (c8s ((j v).mp W)) λi _ K=>?_;subst K;exact ⟨_,rfl⟩) λzs Y=>?_;subst Y
   have T:=a6X M;have o:∀ z,z∈zs↔Nds st a z:=λz=>by
    refine O0 ((show z∈zs↔D6 z∈zs.map D6 from ⟨λh=>c8t ⟨z,h,rfl⟩,λh=>by
     refine j5 (c8s h) λy u e=>?_;refine w3 (a42 e) ?_;exact u⟩) ..) ?_;refine O0 (j ..) ?_
    constructor
    ·intro h;refine j5 (c8s h) λi U e=>eA ((V i).mp U) λR O=>?_;have B:st.nd[i]?=some _:=c7h (by rw[S.I.eqn];exact R)
     rw [List.getD_eq_getElem?_getD,B] at e;exact ⟨i,_,B,O,(a42 e).symm⟩
    ·rintro ⟨i,x,B,O,rfl⟩
     refine c8t ⟨i,(V i).mpr ⟨S.I.nlt B,O⟩,?_⟩;rw[c7w];rw[B];rfl
   refine q _ e zs (((m7.new Z).trans k).trans (.new s)) t (c7g (a3d T (m:=st.nd.map (A5 st.up)) λz w=>?_) (by rw[(c7f ..)];exact S.I.nd)) o
   refine j9 ((o z).mp w) λi x B _ G=>?_;subst G;exact c8t ⟨x,c7e B,rfl⟩
structure Gr (lay:Slot->Nat) (H:Hp) (g:Nat):Prop where
 gr:∃ gd,H g=some (.inst y0 gd)/\H gd=some (.ns [(u6,.ref (lay (.eg 0)))])
theorem Gr.keep (G:Gr lay H g) {q:Hp} (k:m7 H q):Gr lay q g:=⟨G.gr.imp λ_=>And.imp (k _ _) (k _ _)⟩
theorem a4L (G:Gr lay H g) (B:∀ Q:l7,Q (.ref g) H->e K r H Q) (q:Q (.ref (lay (.eg 0))) H):o6 e u6 K r H Q :=
 G.gr.elim λ_ z=>a5j (B _ (a7u z.1 z.2 rfl q))
theorem a1P {m:Nm} {as:Lv} {K:Nat} (G:Gr lay H g) (F:(FT y0 m).isSome=true) (B:a0l [(u6,f5.ref (lay (.eg 0)))] m=none) (J:∀ Q:l7,Q (.ref g) H->e (j3 FT K) r H Q) (h:as (j3 FT K) r H λvs q=>(j3 FT K).call y0 m (.ref g :: vs) q Q):i8 e m as (j3 FT K) r H Q :=
 G.gr.elim λ_ z=>F6 F z.1 z.2 B J h
theorem b5h {elt e:Ev} {B:Bool} {q:It} {ifs:Cv} (h:e K r H λv F=>itV v F λsrc J=>∃ n,a1L (a5h [x] true r (b00 elt t2 B q ifs K)) src n 0 [] J λxs O=>alloc (.list xs) O Q):a3x elt [x] true (D8 e) t2 B q ifs K r H Q:=h
theorem b7t (S:Sy lay C H lh st) (G:Gr lay H g) (ha:a < st.up.length) (q:∀ J b (ks:List Nat),m7 H J->J b=none->ks.length<=17->(∀ k,k∈ks↔Kd st a k)->Q (.ref b) (J.set b (.list (iL ks)))) :
  (j3 FT (n+5)).call y0 S3 [.ref g,.int (a:Nat)] H Q:=by
 refine s9 rfl rfl (g8 (G4 (b0b (b5h (a2I S rfl rfl (λ_ q=>a4L G (n8 rfl) q) (d8 (f6 rfl (g9 (b3w S ha λN b U I w M V=>a2h l9 (Z8 (l:=U) (f:=D6) (g:=λz=>iL z.2) (λJ k i=>⟨_,k _ _ l9,rfl⟩) ?_ (λz F J k P t=>?_) λJ k d y=>.inl ?_))))))))))
 ·refine c7g (a6A (m:=2) λz F=>?_) (c7g (Nat.mul_le_mul_right 2 M) (c7d rfl));rw[(m9 ..)];exact S.two ((V z).mp F)
 ·have O:=S.two ((V z).mp F);have e:(z.2.flatMap λi=>[f5.int (i:Nat)])=iL z.2:=J5 ..;refine ⟨_,N0,a3F (l:=iL z.2) (λR u=>a5k (f6 rfl (m0 (a2n (v:=.str z.1) (by rw[(m9 ..)];unfold o9;exact zo5 O) (u _ (.refl _)))))) _ λsrc T K E=>Z8 (l:=z.2) (f:=λi=>.int (i:Nat)) (g:=λi=>[.int (i:Nat)]) E (by rw[e];rw[(m9 ..)];unfold o9;exact zo6 O) (λi Y r Z X W=>⟨_,N0,O9 (f6 rfl (W _ (.refl _)))⟩) λr Z=>by rw[e];exact t _ (K.trans Z)⟩
 ·have e:(U.flatMap λz=>iL z.2)=iL (U.flatMap (·.2)):=(List.map_flatMap ..).symm;rw[e];have mem:∀ k,k∈U.flatMap (·.2)↔Kd st a k:=λk=>by
   refine O0 (List.mem_flatMap ..) ?_;exact ⟨λj=>by refine j5 j λz F B=>?_;clear j;exact ⟨z,(V z).mp F,B⟩,λo=>by refine j5 o λz F B=>?_;clear o;exact ⟨z,(V z).mpr F,B⟩⟩
  have klt:∀ k,Kd st a k->k < st.up.length:=λk p=>by refine j5 p λz F B=>?_;clear p;exact (S.klt F B).1
  refine ⟨(U.flatMap (·.2)).map Int.ofNat,.inr ⟨d,rfl,by rw[(a1z ..)];exact l9⟩,λi Y=>?_,λys D A c x=>?_⟩
  ·refine j5 (c8s Y) λk B L=>?_;subst L;have:=klt k ((mem k).mp B);have:=S.small;exact ⟨c7C _,by show ((k:Nat):Int) < 17;exact c2d ‹_› this⟩
  ·refine y4 (b5l D A) λks s kn h=>?_;rw[s];refine q _ c ks (((I.trans (.new w)).trans k).trans (.new y)) x (a0s kn λk B=>c7v (klt k ((mem k).mp ((h k).mp B))) S.small) λk=>(h k).trans (mem k)
variable {β:Type}{v:β}{fs:List (Nat×β)}{f:β->f5}
noncomputable def dM (f:β->f5) (fs:List (Nat×β)):List (f5×f5):=fs.map λp=>(f5.int (p.1:Nat),f p.2)
noncomputable def put (fs:List (Nat×β)) (k:Nat) (v:β):List (Nat×β):=if (fs.lookup k).isSome then fs.map λp=>if p.1=k then (p.1,v) else p else fs++[(k,v)]
theorem b0K (k:Nat):M2 (dM f fs) (.int (k:Nat)):=b0x (g:=λp=>p.1) (λ_=>rfl) k
open Classical in
theorem a4j:C0 (dM f fs) (.int (k:Nat))=(fs.lookup k).map f:=by
 induction fs with
 | nil=>rfl
 | cons p fs q =>
  obtain ⟨a,b⟩:=p;unfold C0 dM at q ⊢;rw[c7Z];refine b9 List.find?_cons ?_;rw[c71];by_cases h:k=a
  ·subst h;rw[(c76 (show f5.int (k:Nat)=.int (k:Nat) from rfl))];rw[(c8b ..)];rfl
  ·rw[(c7N (show f5.int (a:Nat)≠.int (k:Nat) from λe=>h (Int.ofNat.inj (f5.int.inj e)).symm))];rw[(beq_false_of_ne h)];exact q
open Classical in
theorem b8N:K2 (dM f fs) (.int (k:Nat)) (f v)=dM f (put fs k v):=by
 unfold K2 put;rw[a4j];rw[Option.isSome_map]
 split
 ·unfold dM;rw[c7U];rw[c7U];refine c7r λp _=>?_;show (if f5.int (p.1:Nat)=.int (k:Nat) then _ else _)=(f5.int ((if p.1=k then (p.1,v) else p).1:Nat),f (if p.1=k then (p.1,v) else p).2)
  by_cases h:p.1=k
  ·rw[(c7X h)];refine b9 (c7X (by rw[h];rfl)) ?_;rfl
  ·rw[(c7W h)];rw[(c7W (show ¬f5.int (p.1:Nat)=.int (k:Nat) from λe=>h (Int.ofNat.inj (f5.int.inj e))))];rfl
 ·unfold dM;rw[c7T];rfl
theorem V3 {j:Nat}:(put fs k v).lookup j=if j=k then some v else fs.lookup j:=by
 unfold put
 split
 ·rename_i h;induction fs with
  | nil=>exact nomatch h
  | cons p fs F =>
   obtain ⟨a,b⟩:=p;rw[c7Z];by_cases e:a=k
   ·subst e;rw[(c7X rfl)];rw[c71];rw[c71];by_cases B:j=a
    ·rw[B];rw[(c8b ..)];rw[(c7X rfl)];rfl
    ·rw[(beq_false_of_ne B)];rw[(c7W B)];cases q:fs.lookup a with
     | some _=>have:=F (by rw[q];rfl);rw [if_neg B] at this;exact this
     | none =>
      have:fs.map (λp=>if p.1=a then (p.1,v) else p)=fs:=by
       conv=>rhs;(rewrite [<- List.map_id fs];try rfl)
       refine c7r λp J=>c7W λe=>?_;rw [List.lookup_eq_none_iff] at q;have:=q p J;rw [e,bne_self_eq_false] at this;cases this
      rw[this];rfl
   ·rw[(c7W e)];rw[c71];rw[c71];rw [List.lookup_cons,beq_false_of_ne (λz=>e z.symm)] at h;by_cases B:j=a
    ·rw[B];rw[(c8b ..)];rw[(c7W e)];rfl
    ·rw[(beq_false_of_ne B)];exact F h
 ·rename_i h;rw[List.lookup_append];rw[c71];by_cases e:j=k
  ·rw[e];rw[(c7X rfl)];rw[(c8b ..)];cases q:fs.lookup k with
   | none=>rfl
   | some _=>rw [q] at h;exact c7Y rfl h
  ·rw[(c7W e)];rw[(beq_false_of_ne e)];exact Option.or_none ..
theorem b0d:(put fs k v).map (·.1)=if (fs.lookup k).isSome then fs.map (·.1) else fs.map (·.1)++[k]:=by
 unfold put
 split
 ·rw[c7U];refine c7r λp _=>?_;show (if p.1=k then (p.1,v) else p).1=p.1
  split <;> rfl
 ·rw[c7T];rfl
theorem a1V:k∈fs.map (·.1)↔(fs.lookup k).isSome=true:=by
 induction fs with
 | nil=>exact ⟨(λh=>nomatch h),(λh=>nomatch h)⟩
 | cons p fs q =>
  obtain ⟨a,b⟩:=p;rw[c7Z];refine O0 (List.mem_cons ..) ?_;rw[c71];refine O0 (q ..) ?_;by_cases h:k=a
  ·rw[h];rw[(c8b ..)];exact ⟨λ_=>rfl,λ_=>.inl rfl⟩
  ·rw[(beq_false_of_ne h)];exact ⟨λz=>z.resolve_left h,.inr⟩
variable {v:f5}{fs:List (Nat×Nat)}
theorem m7.put {q:Hp} (k:m7 q H) (h:q a=none):m7 q (H.set a o):=λb p e=>(J9 λz=>by rw [z,h] at e;cases e).trans (k b p e)
theorem b55 {i:Decidable (xs=[])}:@decide _ i=xs.isEmpty:=by
 cases xs with
 | nil=>exact c76 rfl
 | cons _ _=>exact c7N (λe=>nomatch e)
theorem b0s {b:Nat} (h:H a=some (.list xs)) (q:H b=some (.list [])):eq0 H (.ref a) (.ref b) xs.isEmpty:=.inr ⟨a,b,xs,[],rfl,rfl,h,q,.inr (.inr rfl),b55.symm⟩
theorem a9i {Q:N4} (h:H a=some (.list xs)) (q:∀ b,H b=none->Q xs.isEmpty (H.set b (.list []))):G0 f4 K r H λw F=>Y7 .eq (.ref a) w F Q :=
 V1 (g9 λb B=>⟨_,.inl (b0s (m7.new B _ _ h) l9),q b B⟩)
theorem a3N {Q:N4} (h:H a=some (.list xs)) (q:∀ b,H b=none->Q (!xs.isEmpty) (H.set b (.list []))):G0 f4 K r H λw F=>Y7 .ne (.ref a) w F Q :=
 V1 (g9 λb B=>⟨_,.inl (b0s (m7.new B _ _ h) l9),q b B⟩)
theorem a11 {β:Type} {f:β->f5} {fs:List (Nat×β)} {Q:N4} (h:H a=some (.dict (dM f fs) ep)) (q:Q (!(fs.lookup k).isSome) H):Y7 .notin (.int (k:Nat)) (.ref a) H Q :=
 .inr (.inr (.inr ⟨a,_,ep,rfl,h,b0K k,by rw[a4j];rw[Option.isSome_map];exact q⟩))
theorem a6G {β:Type} {f:β->f5} {fs:List (Nat×β)} {v:β} (h:H a=some (.dict (dM f fs) ep)) (e:fs.lookup k=some v) (q:Q (f v) H):a6F (.ref a) (.int (k:Nat)) H Q :=
 .inr (.inr ⟨a,_,ep,_,rfl,h,b0K k,by rw[a4j];rw[e];rfl,q⟩)
theorem a9X {β:Type} {f:β->f5} {fs:List (Nat×β)} {v:β} {e i:Ev} {Q:a2Q} (B:∀ Q:l7,Q (.ref a) H->e K r H Q) (F:∀ Q:l7,Q (.int (k:Nat)) H->i K r H Q) (h:H a=some (.dict (dM f fs) ep)) (J:fs.length<=o9) (q:∀ ep',Q r (H.set a (.dict (dM f (put fs k v)) ep'))):a0B e i K (f v) r H Q :=
 a18 B F h (b0K k) (by unfold dM;rw[(c7f ..)];exact J) (by rw[b8N];exact q _)
theorem b0a (h:∀ a,H a=none->Q (.ref a) (H.set a (.dict [] 0))):a2x K r H Q:=h
theorem b2n (h:H a=some (.list (l.map f5.int))\/b0n H a l) (B:l.length < 64) (q:∀ b,H b=none->Q (.ref b) (H.set b (.list ((T0 l).map f5.int)))):biW .sorted [.ref a] H Q :=
 ⟨a,l,rfl,h,B,by rw[(c7f ..)];rewrite [T0];rw[(List.length_mergeSort ..)];unfold o9;exact b69 B,q⟩
theorem a4m {β:Type} (f:β->f5) (fs:List (Nat×β)):(dM f fs).map (·.1)=iL (fs.map (·.1)):=by unfold dM iL;rw[c7U];rw[c7U];rfl
end
theorem a2M {α:Type} {l:List α} {a:α} (h:l.Nodup) (n:a∉l):(l++[a]).Nodup :=
 List.nodup_append.mpr ⟨h,List.nodup_cons.mpr ⟨c7E,c8g⟩,λb q c B e=>n (by refine w3 (c8x B) ?_;refine w3 e ?_;exact q)⟩
inductive Rch (st:St) (c:Nat):Nat->Prop
 | base:Rch st c (f9 st.up c)
 | step {a k:Nat}:Rch st c a->Kd st a k->Rch st c k
section
variable {hs:List Int}{ks:List Nat}{n:Nat}
theorem Sy.rch (S:Sy lay C H lh st) (ha:a < st.up.length) (h:Rch st a k):k < st.up.length/\f9 st.up k=k:=by
 induction h with
 | base=>exact ⟨S.lt ha,S.idem ha⟩
 | step _ q _=>revert q;intro B;refine j5 B λz F q=>?_;clear B;exact S.klt F q
noncomputable abbrev tt:Unit->f5:=λ_=>.bool true
structure RI (st:St) (a:Nat) (xs:List (Nat×Unit)) (ws:List Nat):Prop where
 nd:(xs.map (·.1)).Nodup
 rc:∀ x,x∈xs.map (·.1)\/x∈ws->Rch st a x
 cl:∀ k,(k=f9 st.up a\/∃ x,x∈xs.map (·.1)/\Kd st x k)->k∈xs.map (·.1)\/k∈ws
 wb:ws.length<=1+17 * xs.length
theorem RI.old {xs:List (Nat×Unit)} {ws:List Nat} {w:Nat} (R:RI st a xs (ws++[w])) (h:w∈xs.map (·.1)):RI st a xs ws :=
 ⟨R.nd,λx h=>R.rc x (h.imp id (c7s _)),λk z=>(R.cl k z).elim .inl λm=>(c8w m).elim .inr λe=>.inl (c8x e▸h),by have:=R.wb;rw [List.length_append] at this;exact c74 this⟩
theorem RI.new {xs:List (Nat×Unit)} {ws ks:List Nat} {w:Nat} (R:RI st a xs (ws++[w])) (h:w∉xs.map (·.1)) (B:∀ k,k∈ks↔Kd st w k) (F:ks.length<=17):RI st a (xs++[(w,())]) (ws++ks):=by
 have e:(xs++[(w,())]).map (·.1)=xs.map (·.1)++[w]:=c7T ..;have z:∀ {k},k∈xs.map (·.1)\/k∈ws++[w]->k∈xs.map (·.1)++[w]\/k∈ws++ks:=λh=>h.elim (λh=>.inl (c7s _ h)) λh=>(c8w h).elim (λh=>.inr (c7s _ h)) λh=>.inl (c7t _ h);have q:=R.rc w (.inr (c7t _ (c8B rfl)));refine ⟨?_,?_,?_,?_⟩
 ·rw[e];exact a2M R.nd h
 ·rw[e];exact λx h=>h.elim (λh=>(c8w h).elim (λh=>R.rc x (.inl h)) λh=>c8x h▸q) λh=>(c8w h).elim (λh=>R.rc x (.inr (c7s _ h))) λh=>.step q ((B x).mp h)
 ·rw[e];exact λk h=>h.elim (λh=>z (R.cl k (.inl h))) λh=>h.elim λx h=>(c8w h.1).elim (λm=>z (R.cl k (.inr ⟨x,m,h.2⟩))) λm=>.inr (c7t _ ((B k).mpr (c8x m▸h.2)))
 ·have:=R.wb;rw [List.length_append] at this ⊢;rw[c7P];show _<=1+17 * (xs.length+1);have:ws.length+1<=1+17 * xs.length:=this;exact c3S F this
theorem RI.done {xs:List (Nat×Unit)} (R:RI st a xs []) (k:Nat):k∈xs.map (·.1)↔Rch st a k:=by
 refine ⟨λh=>R.rc k (.inl h),λh=>?_⟩;induction h with
 | base=>exact (R.cl _ (.inl rfl)).resolve_right c7E
 | step _ q B=>exact (R.cl _ (.inr ⟨_,B,q⟩)).resolve_right c7E
theorem a74 (S:Sy lay C H lh st) (G:Gr lay H g) (ha:a < st.up.length) (q:∀ H' b (xs:List Nat),m7 H H'->H' b=none->xs.Nodup->(∀ k,k∈xs↔Rch st a k)->Q (.ref b) (H'.set b (.list ((T0 (xs.map Int.ofNat)).map f5.int)))) :
  (j3 FT (n+6)).call y0 a2m [.ref g,.int (a:Nat)] H Q:=by
 have Y:∀ {xs V},RI st a xs V->xs.length<=17:=λR=>by
  have:=a0s R.nd λx hx=>(S.rch ha (R.rc x (.inl hx))).1;rw [List.length_map] at this;exact c7g this S.small
 refine s9 rfl rfl (g8 (w6 (I4 (d8 (b0a λM J=>d8 (V1 (d8 (a2I (S.keep (.new J)) rfl rfl (λ_ q=>a4L (G.keep (.new J)) (n8 rfl) q) (d8 (f6 rfl (g9 (a4O (S.keep (.new J)).L S.E S.I.toOk ha (g9 λi Z=>g9 (a4W (.inl rfl) ?_))))))))))))));have O:H i=none:=by
  cases e:H i with
  | none=>rfl
  | some o=>rw [m7.new J _ _ e] at Z;cases Z
 have d:M≠i:=λe=>by rw [<- e,l9] at Z;cases Z
 refine g8 (a54 (λk u A=>∃ (xs:List (Nat×Unit)) (V:List Nat) (ep:Nat),m7 H A/\u f7=some (.ref g)/\u a3L=some (.ref M)/\u J2=some (.ref i)/\A M=some (.dict (dM tt xs) ep)/\A i=some (.list (iL V))/\RI st a xs V/\k=(17 - xs.length) * 20+V.length) _
  ⟨[],[f9 st.up a],0,((m7.refl H).put J).put O,rfl,rfl,rfl,(J9 d).trans l9,l9,⟨c8g,λx h=>h.elim (λh=>nomatch h) λh=>c8x h▸.base,λk h=>h.elim (λh=>.inr (c8B h)) λh=>h.elim λ_ h=>(nomatch h.1),c7l _⟩,rfl⟩ λk u A hI W T=>?_)
 obtain ⟨xs,V,ep,k1,hs,K,s,sd,wl,R,rfl⟩:=hI;refine B9 (f6 s (a3N wl λb D=>⟨λt=>?_,λt=>?_⟩))
 ·obtain ⟨B,w,ew⟩:∃ B w,V=B++[w]:=⟨V.dropLast,V.getLast (λe=>by rw [e] at t;cases t),(List.dropLast_concat_getLast _).symm⟩
  clear t;rw [ew] at wl R T;clear ew;have wb:=R.wb;have P:=Y R;rw [List.length_append] at wb T;have k2:=k1.trans (m7.new (o:=.list []) D);have N:=m7.new (o:=.list []) D _ _ wl;have hl:(iL (B++[w])).length<=o9:=by rw[(m9 ..)];rw[c7P];unfold o9;exact c3m wb P
  refine g8 (w6 (b35 (n8 s) N (g9 (b2I N hl (by refine w3 a0E ?_;refine b9 List.getLast?_concat ?_;rfl) (z0 ?_)))))
  refine w3 a0E ?_;rw[List.dropLast_concat];have k3:=k2.put (o:=.list (iL B)) O;have y:=(J9 (H:=A.set b (.list [])) (a:=i) (o:=.list (iL B)) d).trans (m7.new (o:=.list []) D _ _ sd);have r:(u.set y5 (.int (w:Nat))) f7=some (.ref g):=hs;have F:(u.set y5 (.int (w:Nat))) a3L=some (.ref M):=K;have U:(u.set y5 (.int (w:Nat))) J2=some (.ref i):=s;refine g8 (W9 (B9 (f6 rfl (f6 F (a11 y ⟨λt=>?_,λt=>?_⟩)))))
  ·have new:w∉xs.map (·.1):=λh=>by rw [a1V.mp h] at t;cases t
   refine g8 (w6 (m0 (a9X (f:=tt) (v:=()) (n8 F) (n8 rfl) y (c7g P (by decide)) λm=>?_)))
   rw[(show put xs w ()=xs++[(w,())] from c7W λh=>new (a1V.mpr h))];have X:=k3.put (o:=.dict (dM tt (xs++[(w,())])) m) J;have z:=(J9 (H:=(A.set b (.list [])).set i (.list (iL B))) (a:=M) (o:=.dict (dM tt (xs++[(w,())])) m) λe=>d e.symm).trans l9;have hw:=(S.rch ha (R.rc w (.inr (c7t _ (c8B rfl))))).1;refine g8 (B4 (a26 (n8 U) z (d8 (a1P (G.keep X) rfl rfl (n8 r) (d8 (f6 rfl (g9 (b7t (S.keep X) (G.keep X) hw λH5 c ks k5 p kl km=>g9 (a2S (k5.trans (m7.new p) _ _ z) l9 (λe=>?_) ?_ ?_)))))))))
   ·subst e;rw [k5 _ _ z] at p;cases p
   ·rw[(m9 ..)];rw[(m9 ..)];unfold o9;exact c4q wb P kl
   have R2:=R.new new km kl;have j:=Y R2;refine T _ _ _ ?_ ⟨xs++[(w,())],B++ks,m,(X.trans (k5.trans (m7.new (o:=.list (iL ks)) p))).put O,r,F,U,(J9 (H:=H5.set c (.list (iL ks))) (a:=i) d).trans (k5.trans (m7.new (o:=.list (iL ks)) p) _ _ l9),?_,R2,rfl⟩
   ·rw [List.length_append] at j ⊢;rw[c7P];have j:xs.length+1<=17:=j;show (17 - (xs.length+1)) * 20+_ < (17 - xs.length) * 20+(B.length+1);exact c4e kl j
   ·rw[l9];unfold iL;rw[c7T];rfl
  ·refine T _ _ _ (Nat.add_lt_add_left (c7y _) _) ⟨xs,B,ep,k3,r,F,U,y,l9,R.old (a1V.mpr ?_),rfl⟩;cases h:(xs.lookup w).isSome <;> rw [h] at t <;> first | rfl | cases t
 ·obtain rfl:V=[]:=by
   cases V with
   | nil=>rfl
   | cons _ _=>exact nomatch t
  have P:=Y R;refine g8 (G4 (P0 (d8 (f6 K (g9 (b2n (l:=(xs.map (·.1)).map Int.ofNat) (.inr ⟨_,_,m7.new D _ _ sd,by rw[(a4m ..)];rw[(a1z ..)];rfl⟩) ?_ λc p=>?_))))))
  ·rw[(c7f ..)];rw[(c7f ..)];exact c7k P (c7d rfl)
  ·exact q _ c _ (k1.trans (.new D)) p R.nd R.done
variable {mk:List Nat}
inductive Trn (N:Nat->List Nat->Prop) (ov:List Nat->Nat):Nat->Nat->Prop
 | mk {c:Nat} {ks ds:List Nat}:N c ks->ds.length=ks.length->(∀ q d k:Nat,ds[q]?=some d->ks[q]?=some k->Trn N ov d k)->Trn N ov (ov ds) c
noncomputable def Kn (st:St) (c:Nat) (ks:List Nat):Prop:=∃ z,Nds st c z/\z.2=ks
noncomputable abbrev Trm (st:St):=Trn (Kn st)
noncomputable def mx (ds:List Nat):Nat:=ds.foldl max 0
noncomputable def dpO (ds:List Nat):Nat:=1+mx ds
theorem a2c (ds:List Nat):∀ a,a<=ds.foldl max a/\(∀ d∈ds,d<=ds.foldl max a)/\(ds.foldl max a=a\/ds.foldl max a∈ds):=by
 induction ds with
 | nil=>exact λa=>⟨c7l _,(λd h=>nomatch h),.inl rfl⟩
 | cons b ds F =>
  intro a;refine eAA (F (max a b)) λq B h3=>?_;rw[List.foldl_cons];refine ⟨c7g (Nat.le_max_left a b) q,λd hd=>?_,?_⟩
  ·rcases c8z hd with rfl | hd
   ·exact c7g (Nat.le_max_right a d) q
   ·exact B d hd
  ·rcases h3 with h3 | h3
   ·rw[h3];rcases c7O a b with z | z
    ·rw[(Nat.max_eq_right z)];exact .inr (c7j)
    ·rw[(Nat.max_eq_left z)];exact .inl rfl
   ·exact .inr (c7i _ h3)
theorem a8s {ds:List Nat} (h:∀ d∈ds,d<=m):mx ds<=m:=(a2c ds 0).2.2.elim (λe=>by unfold mx;rw[e];exact c7q _) (h _)
theorem a8d {ds:List Nat} {d:Nat} (h:d∈ds):d<=mx ds:=(a2c ds 0).2.1 d h
theorem b1Q (ds:List Nat):a9A ((ds.map Int.ofNat)++[0])=(mx ds:Nat):=by
 have q:∀ (l:List Nat) (a:Nat),List.foldl max (a:Int) (l.map Int.ofNat++[0])=((l.foldl max a:Nat):Int):=λl=>by
  induction l with
  | nil=>exact λa=>Int.max_eq_left (c7C a)
  | cons b l B =>
   intro a;show List.foldl max (max (a:Int) (b:Int)) (l.map Int.ofNat++[0])=_;rw[(show max (a:Int) (b:Int)=((max a b:Nat):Int) by exact b9y)];rw[(B ..)];rfl
 cases ds with
 | nil=>rfl
 | cons a l =>
  show List.foldl max (a:Int) (l.map Int.ofNat++[0])=_;rw[(q ..)];unfold mx;rw[List.foldl_cons];rw[(Nat.zero_max ..)];rfl
theorem b7l {ds es:List Nat} (q:∀ d∈ds,d<=mx es) (B:mx es<=mx ds):dpO ds=dpO es:=c7o (1+·) (Nat.le_antisymm (a8s q) B)
noncomputable def GD (st:St) (c g:Nat):Prop:=Trm st dpO g c/\∀ d,Trm st dpO d c->d<=g
theorem a6O {f:Nat->Nat} {q d k:Nat} (B:(ks.map f)[q]?=some d) (F:ks[q]?=some k):d=f k:=by
 rw [List.getElem?_map,F] at B;exact (c7p B).symm
theorem Sy.node (S:Sy lay C H lh st) (ha:a < st.up.length):∃ z,Nds st a z:=by
 have q:st.nd[a]?=some _:=c7h (by rw[S.I.eqn];exact ha)
 exact ⟨_,a,_,q,rfl,rfl⟩
theorem c0c (S:Sy lay C H lh st) (g:c < st.up.length) (Y:∀ k,k∈ks↔Kd st c k) {f:Nat->Nat} (V:∀ k∈ks,GD st k (f k)):GD st c (dpO (ks.map f)):=by
 have U:∀ {z:M9},Nds st c z->∀ k∈z.2,k∈ks:=λB k F=>(Y k).mpr ⟨_,B,F⟩;have b:∀ {z:M9},Nds st c z->Trm st dpO (dpO (z.2.map f)) c:=λB=>.mk ⟨_,B,rfl⟩ (c7f ..) λq d k J F=>by
  rw[(a6O J F)];exact (V k (U B k (c7e F))).1
 have Z:∀ {z:M9},Nds st c z->∀ d∈z.2.map f,d<=mx (ks.map f):=λB d J=>by
  refine j5 (c8s J) λk F l=>?_;subst l;exact a8d (c8t ⟨k,U B k F,rfl⟩)
 refine ⟨?_,λd J=>?_⟩
 ·rcases (a2c (ks.map f) 0).2.2 with e | h
  ·refine eE (S.node g) λz B=>?_;refine w3 (b7l (Z B) (by unfold mx;rw[e];exact c7q _)) ?_;exact b B
  ·refine j5 (c8s h) λk F e=>j5 ((Y k).mp F) λz B R=>?_;refine w3 (b7l (Z B) (by show List.foldl max 0 (ks.map f)<=_;refine w3 e ?_;exact a8d (c8t ⟨k,R,rfl⟩))) ?_;exact b B
 ·obtain ⟨⟨z,B,rfl⟩,i,j⟩:=J;refine c7x (a8s λd J=>?_) 1;refine eE (List.getElem?_of_mem J) λq O=>?_;have a:=(c8r O).1;rw [i] at a;have F:=c7h a;have W:=U B _ (c7e F);exact c7g ((V _ W).2 d (j q d _ O F)) (a8d (c8t ⟨_,W,rfl⟩))
noncomputable def b5y (f:Nm) (ov:List Nat->Nat):Prop:=∀ (n d:Nat) (ds:List Nat) (H:Hp) (Q:l7),H d=some (.list (iL ds))->ds.length<=17->(∀ H',m7 H H'->Q (.int (ov ds:Nat)) H')->(j3 FT (n+1)).call 0 f [.ref d] H Q
theorem a7H:b5y U1 dpO:=λn d F H Q O R q=>by
 refine s9 rfl rfl (g8 (G4 (w9 (m0 (P0 (d8 (w9 (f6 rfl (V1 (d8 (m0 (g9 λb B=>add_list (m7.new B _ _ O) l9 ?_ λc J=>g9 (a8q (l:=F.map Int.ofNat++[0]) ?_ (λe=>?_) (s6 ?_))))))))))))))
 ·rw[(m9 ..)];show _+1<=_;unfold o9;exact c7k R (c7d rfl)
 ·rw[l9];rw[c7T];rw[(a1z ..)];rfl
 ·exact nomatch (List.append_eq_nil_iff.mp e).2
 ·rw[(b1Q ..)];refine w3 Int.natCast_one ?_;refine w3 (Int.natCast_add ..) ?_;exact q _ ((m7.new B).trans (.new J))
variable {fs:List (Nat×Nat)}
theorem b36 {x y z:Nm} {u v w:f5} {t:f5} {Q:a2Q} (h:a14 H t [u,v,w]) (q:Q (((r.set x u).set y v).set z w) H):R4 [m5 x,m5 y,m5 z] K t r H Q:=⟨[u,v,w],h,rfl,u,_,rfl,v,_,rfl,w,[],rfl,rfl,q⟩
theorem a8f {β:Type} {f:β->f5} {fs:List (Nat×β)} (h:H a=some (.dict (dM f fs) ep)) (B:(dM f fs).length<=o9) (q:Q (.int ((dM f fs).length:Nat)) H):biW .len [.ref a] H Q :=
 ⟨.ref a,iL (fs.map (·.1)),rfl,.inr ⟨a,(fs.map (·.1)).map Int.ofNat,rfl,⟨_,ep,h,by rw[(a4m ..)];rw[(a1z ..)];rfl⟩,(a1z _).symm⟩,by rewrite [<- a4m f];rw[(c7f ..)];exact B,by rewrite [<- a4m f];rw[(c7f ..)];exact q⟩
theorem a6L {β:Type} {f:β->f5} {fs:List (Nat×β)}:(dM f fs).length=fs.length:=c7f ..
noncomputable abbrev iV:Nat->f5:=λv=>.int (v:Nat)
structure GE (H0:Hp) (g fa sb:Nat) (ys:List Nat) (fs:List (Nat×Nat)) (r:En) (H:Hp):Prop where
 keep:m7 H0 H
 self:r f7=some (.ref g)
 fnd:r u7=some (.ref fa)
 som:r a2L=some (.ref sb)
 hf:∃ ep,H fa=some (.dict (dM iV fs) ep)
 hs:H sb=some (.list (iL ys))
theorem a5R {elt:Ev} {ifs:Cv} (S:Sy lay C H lh st) (G:Gr lay H g) (o:r f7=some (.ref g)) (h:r y5=some (.int (c:Nat))) (a:c < st.up.length) (J:Nat->List f5) (Y:∀ k,(J k).length<=1)
  (ht:∀ k,Kd st c k->∀ B,m7 H B->∀ P:List f5->Hp->Prop,(∀ F,m7 B F->P (J k) F)->a2E elt ifs (j3 FT (n+5)) (r.set y9 (.int (k:Nat))) B P)
  (q:∀ B d (ks:List Nat),m7 H B->B d=none->ks.length<=17->(∀ k,k∈ks↔Kd st c k)->Q (.ref d) (B.set d (.list (ks.flatMap J)))):A9 elt [y9] true (D8 (i8 (d6 f7) S3 (d7 (d6 y5) f4))) ifs (j3 FT (n+5)) r H Q :=
 b03 (a1P G rfl rfl (n8 o) (d8 (f6 h (g9 (b7t S G a λp b ks U R V W=>a2h l9 (Z8 (l:=ks) (f:=iV) (g:=J) (λB k i=>⟨_,k _ _ l9,rfl⟩) (c7g (a6A (m:=1) λk _=>Y k) (by unfold o9;exact c7g (c7x V _) (c7d rfl))) (λk j B O P Z=>⟨_,N0,ht k ((W k).mp j) B ((U.trans (.new R)).trans O) P Z⟩) λB O d e=>q B d ks ((U.trans (.new R)).trans O) e V W))))))
structure FI (st:St) (a:Nat) (fs:List (Nat×Nat)):Prop where
 nd:(fs.map (·.1)).Nodup
 rch:∀ c∈fs.map (·.1),Rch st a c
 val:∀ c v,fs.lookup c=some v->GD st c v/\v<=fs.length
noncomputable def Off (st:St) (fs:List (Nat×Nat)) (c:Nat):Prop:=fs.lookup c=none->∃ k,Kd st c k/\fs.lookup k=none
theorem a8o {c v:Nat} (h:fs.lookup c=none) (j:Nat):(fs++[(c,v)]).lookup j=if j=c then some v else fs.lookup j:=by
 have:=V3 (fs:=fs) (k:=c) (v:=v) (j:=j);rwa [show put fs c v=fs++[(c,v)] from c7W (by rw[h];exact c7u)] at this
theorem FI.len (S:Sy lay C H lh st) (ha:a < st.up.length) (F:FI st a fs):fs.length<=17:=by
 have:=a0s F.nd λx q=>(S.rch ha (F.rch x q)).1;rw [List.length_map] at this;exact c7g this S.small
theorem FI.more (S:Sy lay C H lh st) (F:FI st a fs) (O:c < st.up.length) (Y:Rch st a c) (h:fs.lookup c=none) (U:∀ k,k∈ks↔Kd st c k) (q:∀ k∈ks,(fs.lookup k).isSome=true) :
  FI st a (fs++[(c,dpO (ks.map λk=>(fs.lookup k).getD 0))]):=by
 have J:∀ k∈ks,GD st k ((fs.lookup k).getD 0)/\(fs.lookup k).getD 0<=fs.length:=λk B=>by
  refine eE (c8y (q k B)) λv e=>?_;rw[e];exact F.val k v e
 have new:c∉fs.map (·.1):=λz=>by rw [a1V,h] at z;cases z
 refine ⟨by rw[c7T];exact a2M F.nd new,λx hx=>?_,λx v e=>?_⟩
 ·rw [List.map_append] at hx;rcases c8w hx with hx | hx
  ·exact F.rch x hx
  ·exact c8x hx▸Y
 ·rw [a8o h] at e;rw[c7P];by_cases z:x=c
  ·rw [if_pos z] at e;obtain rfl:=c7p e;subst z;refine ⟨c0c S O U λk q=>(J k q).1,?_⟩;have V:∀ d∈ks.map λk=>(fs.lookup k).getD 0,d<=fs.length:=λd R=>by
    refine j5 (c8s R) λk q W=>?_;subst W;exact (J k q).2
   show 1+mx _<=fs.length+1;rewrite [Nat.add_comm 1];exact c8m (a8s V)
  ·rw [if_neg z] at e;exact ⟨(F.val x v e).1,Nat.le_succ_of_le (F.val x v e).2⟩
theorem a9r {K:Hp} {J l c:Nat} {W:v9} (S:Sy lay C H lh st) (G:Gr lay H g) (ha:a < st.up.length) (u:H J=none) (q:J≠l) (E:GE H g J l ys fs r K) (F:FI st a fs) (i:r y5=some (.int (c:Nat))) (rc:Rch st a c)
  (X:∀ V,GE H g J l ys fs r V->Off st fs c->W .next r V)
  (q2:∀ V v,GE H g J l ys (fs++[(c,v)]) r V->FI st a (fs++[(c,v)])->W .next r V) :
  (d9 (U9 (Q8 (y8 .notin (d6 y5) (d6 u7)) (Q8 (y8 .eq (A9 (d6 y9) [y9] true (D8 (i8 (d6 f7) S3 (d7 (d6 y5) f4))) (Q8 (y8 .notin (d6 y9) (d6 u7)) J4)) (G0 f4)) J4))
    (d9 (p9 (a0B (d6 u7) (d6 y5)) (A4 U1 (d7 (A9 (k8 (d6 u7) (d6 y9)) [y9] true (D8 (i8 (d6 f7) S3 (d7 (d6 y5) f4))) J4) f4)))
    m6)
    m6)
   m6) (j3 FT (n+6)) r K W:=by
 refine eE E.hf λep Z=>?_;have p:=(S.rch ha rc).1;refine g8 (W9 (Z7 (B9 (f6 i (f6 E.fnd (a11 Z ⟨λt=>?_,λt=>⟨(λz=>nomatch z),λ_=>?_⟩⟩))))))
 ·have new:fs.lookup c=none:=by cases e:fs.lookup c with
   | none=>rfl
   | some _=>rw [e] at t;cases t
  have b:∀ {v:f5},(r.set y9 v) u7=some (.ref J):=E.fnd;have M:∀ {U:List Nat},(U.flatMap λk=>if (fs.lookup k).isSome then [] else [iV k]).isEmpty=true↔∀ k∈U,(fs.lookup k).isSome=true:=by
   intro U;refine O0 (List.isEmpty_iff ..) ?_;refine O0 (List.flatMap_eq_nil_iff ..) ?_;refine forall_congr' λk=>forall_congr' λ_=>?_;cases (fs.lookup k).isSome
   ·exact ⟨(λz=>nomatch z),(λz=>nomatch z)⟩
   ·exact ⟨λ_=>rfl,λ_=>rfl⟩
  refine Z7 (B9 (a5R (n:=n+1) (S.keep E.keep) (G.keep E.keep) E.self i p (λk=>if (fs.lookup k).isSome then [] else [iV k]) (λk=>by split <;> first | exact c7q _ | exact c7l _) (λk R I j P O=>?_) λI d U j N kl A=>a9i l9 λe Q=>⟨λt=>a3T ⟨λ_=>?_,(λz=>nomatch z)⟩,λt=>⟨(λz=>nomatch z),λ_=>?_⟩⟩))
  ·have O:=O I (.refl _);refine Z7 (B9 (f6 rfl (f6 b (a11 (j _ _ Z) ⟨λt=>a3T ⟨λ_=>f6 rfl ?_,(λz=>nomatch z)⟩,λt=>⟨(λz=>nomatch z),λ_=>?_⟩⟩))))
   ·rwa [c7W (by intro z;rw [z] at t;cases t)] at O
   ·rwa [c7X (by cases z:(fs.lookup k).isSome <;> rw [z] at t <;> first | rfl | cases t)] at O
  ·have Y:=M.mp t;have B:=j.trans ((m7.new (o:=.list (U.flatMap λk=>if (fs.lookup k).isSome then [] else [iV k])) N).trans (.new (o:=.list []) Q))
   have T:=E.keep.trans B;refine g8 (w6 (P1 (d8 (a5R (n:=n+1) (S.keep T) (G.keep T) E.self i p (λk=>[iV ((fs.lookup k).getD 0)]) (λk=>c7l _) (λk R L w P O=>?_) λL d4 D w s y h=>g9 (a7H _ d4 (D.map λk=>(fs.lookup k).getD 0) _ _ ?_ ?_ λH5 k5=>?_)))))
   ·refine eE (c8y (Y k ((A k).mpr R))) λv e=>O9 (B2 (f6 b (f6 rfl (a6G ((B.trans w) _ _ Z) e ?_))));have:=O L (.refl _);rwa [e] at this
   ·rw[l9];rw[(J5 ..)];unfold iL;rw[c7U];rfl
   ·rw[(c7f ..)];exact y
   ·have x:=B.trans (w.trans ((m7.new s).trans k5));refine a9X (f:=iV) (v:=dpO _) (n8 E.fnd) (n8 i) (x _ _ Z) (c7g (F.len S ha) (by decide)) λm=>?_
    refine b9 (show put fs c _=fs++[(c,_)] from c7W (by rw[new];exact c7u)) ?_
    exact q2 _ _ ⟨(E.keep.trans x).put u,E.self,E.fnd,E.som,⟨m,l9⟩,(J9 λe=>q e.symm).trans (x _ _ E.hs)⟩ (F.more S p rc new h λk R=>Y k ((A k).mpr ((h k).mp R)))
  ·have B:=j.trans ((m7.new (o:=.list (U.flatMap λk=>if (fs.lookup k).isSome then [] else [iV k])) N).trans (.new (o:=.list []) Q))
   refine X _ ⟨E.keep.trans B,E.self,E.fnd,E.som,⟨ep,B _ _ Z⟩,B _ _ E.hs⟩ λ_=>c7D λz=>?_;rw [M.mpr λk R=>?_] at t
   ·cases t
   ·cases e:fs.lookup k with
    | some _=>rfl
    | none=>exact c7Y ⟨k,(A k).mp R,e⟩ z
 ·refine X _ E λz=>?_;rw [z] at t;cases t
end
theorem a3Q {t:List Nm} {b:Bv} {Q:v9} (h:e K r H λv q=>itV v q λsrc B=>∃ n,a4f t one (b K) src n 0 r B Q):S4 t one (D8 e) b K r H Q:=h
theorem a9n {α:Type} {b:Bv} {R:Nat} {f:α->f5} {ys:List α} {Q:v9} (I:Nat->En->Hp->Prop) (h0:I 0 r H) (U:∀ {i:Nat} {r:En} {H:Hp},I i r H->H R=some (.list (ys.map f)))
  (a:∀ r H,I ys.length r H->Q .next r H)
  (h:∀ (i:Nat) (c:α) (r:En) (H:Hp),ys[i]?=some c->I i r H->∀ W:v9,(∀ F q,I (i+1) F q->W .next F q)->(∀ v F q,Q (.ret v) F q->W (.ret v) F q)->b K (r.set x (f c)) H W):itV (.ref R) H λsrc Y=>∃ n,a4f [x] true (b K) src n 0 r Y Q :=
 a2h (U h0) ⟨_,a2H (src:=.lst R) (ys.map f) I (λi r H B=>⟨_,U B,rfl⟩) (λr H B=>a r H (by rwa [c7f] at B)) (λi v r H V B W J O=>by
  rw [List.getElem?_map] at V;refine j5 (c8v V) λc Z d=>?_;subst d;exact ⟨_,N0,h i c r H Z B W J O⟩) _ 0 r H (c7y _) (c7q _) h0⟩
section
variable {fs:List (Nat×Nat)}{n:Nat}
theorem b8r (S:Sy lay C H lh st) (G:Gr lay H g) (ha:a < st.up.length) (q:∀ z R (fs:List (Nat×Nat)) K,m7 H z->z R=some (.dict (dM iV fs) K)->FI st a fs->(∀ c,Rch st a c->Off st fs c)->Q (.ref R) z) :
  (j3 FT (n+7)).call y0 U2 [.ref g,.int (a:Nat)] H Q:=by
 refine s9 rfl rfl (g8 (w6 (I4 (d8 (b0a λR J=>d8 (a1P (G.keep (.new J)) rfl rfl (n8 rfl) (d8 (f6 rfl (g9 (a74 (n:=n) (S.keep (.new J)) (G.keep (.new J)) ha λA w xs M U xn xm=>d8 (a36 (m0 ⟨1,rfl,g9 (b36 (.inl rfl) ?_)⟩))))))))))));refine j5 (a5d xs) λys e p=>?_;rw[e];have ym:∀ c,c∈ys↔Rch st a c:=λc=>p.mem_iff.trans (xm c);have k2:=(m7.new (o:=.dict [] 0) J).trans (M.trans (.new (o:=.list (iL ys)) U))
 have b:R≠w:=λe=>by rw [<- e,M _ _ l9] at U;cases U
 refine g8 (a54 (λk u A=>∃ (fs:List (Nat×Nat)) (m:Int),GE H g R w ys fs u A/\FI st a fs/\u a3I=some (.int m)/\((fs.length:Nat)<=m->∀ c∈ys,Off st fs c)/\-1<=m/\k=(17 - m).toNat) _
  ⟨[],-1,⟨k2,rfl,rfl,rfl,⟨0,(J9 b).trans (M _ _ l9)⟩,l9⟩,⟨c8g,(λ_ h=>nomatch h),(λ_ _ h=>nomatch h)⟩,rfl,(λh=>nomatch h),Int.le_refl _,rfl⟩ λk u A X W hW=>?_)
 refine a7Q X λfs m E F hm cl a0 q1=>?_;clear X;subst q1;have T:=F.len S ha;have P:(dM iV fs).length<=o9:=by rw[a6L];unfold o9;exact c7g T (c7d rfl)
 refine eE E.hf λK L=>B9 (P0 (d8 (f6 E.fnd (g9 (a8f L P (f6 hm (gt_int ⟨λt=>?_,λt=>?_⟩)))))))
 ·have t:=c7n t;rw [a6L] at t;refine g8 (w6 (P0 (d8 (f6 E.fnd (g9 (a8f L P (z0 ?_)))))));rw[a6L];refine g8 (a3Q (f6 (show (u.set a3I (.int (fs.length:Nat))) a2L=some (.ref w) from E.som) (a9n (f:=iV) (ys:=ys) (λi d D=>∃ B:List (Nat×Nat),GE H g R w ys B d D/\FI st a B/\d a3I=some (.int (fs.length:Nat))/\fs.length<=B.length/\(B.length=fs.length->∀ c∈ys.take i,Off st B c)) ⟨fs,⟨E.keep,E.self,E.fnd,E.som,E.hf,E.hs⟩,F,rfl,c7l _,λ_ c h=>nomatch h⟩ (λj=>by refine j5 j λ_ E _=>?_;clear j;exact E.hs) (λd D j=>?_) λi c d D V z2 W2 Y _=>?_)))
  ·refine a4E j λB O l s Z I=>?_;clear j;refine hW _ _ _ ?_ ⟨B,_,O,l,s,λh c V=>I (by exact Nat.le_antisymm (Int.ofNat_le.mp h) Z) c (by rw[c8c];exact V),by exact c7C _,rfl⟩
   exact (Int.toNat_lt_toNat (Int.sub_pos.mpr (Int.lt_of_lt_of_le t (c8F T)))).mpr (Int.sub_lt_sub_left t 17)
  ·refine a4E z2 λB O l s Z I=>?_;clear z2;have h2:=a9r (n:=n) (W:=W2) (r:=d.set y5 (.int (c:Nat))) S G ha J b ⟨O.keep,O.self,O.fnd,O.som,O.hf,O.hs⟩ l rfl ((ym c).mp (c7e V));refine h2 (λH3 y N=>Y _ _ ⟨B,y,l,s,Z,λe x hx=>?_⟩) λH3 v y F3=>Y _ _ ⟨_,y,F3,s,?_,λe=>?_⟩
   ·rw [List.take_add_one,V] at hx;rcases c8w hx with hx | hx
    ·exact I e x hx
    ·exact c8x hx▸N
   ·rw[c7P];exact Nat.le_succ_of_le Z
   ·rw [List.length_append] at e;have e:B.length+1=fs.length:=e;exact (c2u Z e).elim
 ·have t:=c78 t;rw [a6L] at t;refine g8 (G4 (f6 E.fnd ?_));exact q _ R fs K E.keep L F λc V=>cl (by exact Int.not_lt.mp t) c ((ym c).mpr V)
variable {ks:List Nat}
structure OvM (ov:List Nat->Nat):Prop where
 mono:∀ ds es:List Nat,ds.length=es.length->(∀ (q d e:Nat),ds[q]?=some d->es[q]?=some e->d<=e)->ov ds<=ov es
 grow:∀ (ds:List Nat) (m:Nat),0 < m->ds.length<=2->(∀ d∈ds,d < m)->ov ds < 2 * m
theorem b5O:OvM dpO where
 mono:=λB W O h=>by
  have Y:∀ d∈B,d<=mx W:=λd F=>by
   refine eE (List.getElem?_of_mem F) λq U=>?_;have V:=(c8r U).1;rw [O] at V;have J:=c7h V;exact c7g (h q d _ U J) (a8d (c7e J))
  exact c7x (a8s Y) 1
 grow:=λB m R O h=>by
  have:mx B<=m - 1:=a8s λd F=>by have:=h d F;exact Nat.pred_le_pred this
  unfold dpO;exact c7v (Nat.add_lt_add_of_le_of_lt R (c7k this (Nat.sub_lt R Nat.one_pos))) (c7z (Nat.two_mul _).symm)
noncomputable def a0J (fs:List (Nat×Nat)) (ks:List Nat):List Nat:=ks.map λk=>(fs.lookup k).getD 0
noncomputable def b5C (fs:List (Nat×Nat)) (ks:List Nat):Prop:=∀ k∈ks,(fs.lookup k).isSome=true
noncomputable def b2F (fs:List (Nat×Nat)) (c v:Nat):Prop:=fs.lookup c=none\/∃ w,fs.lookup c=some w/\v < w
structure LI (st:St) (ov:List Nat->Nat) (a:Nat) (fs:List (Nat×Nat)):Prop where
 nd:(fs.map (·.1)).Nodup
 rch:∀ c∈fs.map (·.1),Rch st a c
 val:∀ c v,fs.lookup c=some v->Trm st ov v c/\v < 2 ^ fs.length
variable {j:Nat}{ov:List Nat->Nat}{z:M9}
theorem LI.len (S:Sy lay C H lh st) (ha:a < st.up.length) (F:LI st ov a fs):fs.length<=17:=by
 have:=a0s F.nd λx q=>(S.rch ha (F.rch x q)).1;rw [List.length_map] at this;exact c7g this S.small
theorem LI.more (S:Sy lay C H lh st) (M:OvM ov) (F:LI st ov a fs) (l:Rch st a c) (hz:Nds st c z) (f:b5C fs z.2) (i:b2F fs c (ov (a0J fs z.2))):LI st ov a (put fs c (ov (a0J fs z.2))):=by
 have O:=b0d (fs:=fs) (k:=c) (v:=ov (a0J fs z.2));have Z:∀ k∈z.2,Trm st ov ((fs.lookup k).getD 0) k/\(fs.lookup k).getD 0 < 2 ^ fs.length:=λk R=>by
  refine eE (c8y (f k R)) λv e=>?_;rw[e];exact F.val k v e
 have g:ov (a0J fs z.2) < 2 * 2 ^ fs.length:=M.grow _ _ (Nat.two_pow_pos _) (by unfold a0J;rw[(c7f ..)];exact S.two hz) λd Y=>by
  refine j5 (c8s Y) λk R j=>?_;subst j;exact (Z k R).2
 have b:Trm st ov (ov (a0J fs z.2)) c:=.mk ⟨_,hz,rfl⟩ (c7f ..) λq d k Y R=>by
  rw[(a6O Y R)];exact (Z k (c7e R)).1
 have J:=c7o List.length O;rw [List.length_map] at J;cases e:fs.lookup c with
 | none =>
  rw [if_neg (by rw[e];exact Bool.false_ne_true)] at O J
  have new:c∉fs.map (·.1):=λh=>by rw [a1V,e] at h;cases h
  rw [List.length_append,List.length_map] at J;have J:(put fs c (ov (a0J fs z.2))).length=fs.length+1:=J;refine ⟨by rw[O];exact a2M F.nd new,λx U=>?_,λx v B=>?_⟩
  ·rw [O] at U;exact (c8w U).elim (F.rch x) λh=>c8x h▸l
  ·rw [V3] at B;rw[J];rw[(Nat.pow_succ ..)];rw[(Nat.mul_comm ..)];by_cases w:x=c
   ·rw [if_pos w] at B;obtain rfl:=c7p B;exact ⟨w▸b,g⟩
   ·rw [if_neg w] at B;exact eA (F.val x v B) λV W=>⟨V,by exact c7g W (c7g (c75 _ _) (c7z (Nat.two_mul _).symm))⟩
 | some m =>
  rw [if_pos (by rw[e];rfl)] at O J
  rw [List.length_map] at J;refine ⟨by rw[O];exact F.nd,λx U=>F.rch x (by rwa [O] at U),λx v B=>?_⟩
  rw [V3] at B;rw[J];by_cases w:x=c
  ·rw [if_pos w] at B;obtain rfl:=c7p B;rcases i with h | ⟨w,V,W⟩
   ·rw [e] at h;cases h
   ·exact ⟨by rw[(‹x=c›)];exact b,c77 W (F.val c w V).2⟩
  ·rw [if_neg w] at B;exact F.val x v B
noncomputable def St1 (ov:List Nat->Nat) (fs:List (Nat×Nat)) (c:Nat) (z:M9):Prop:=b5C fs z.2->∃ v,fs.lookup c=some v/\v<=ov (a0J fs z.2)
structure PE (H0:Hp) (g fa sb:Nat) (ys:List Nat) (f:Nm) (a:Nat) (b:Bool) (fs:List (Nat×Nat)) (r:En) (H:Hp):Prop extends GE H0 g fa sb ys fs r H where
 ove:r a4Z=some (.fn f)
 isn:r U3=some (.bool b)
 cc:r n_c=some (.int (a:Nat))
structure LE (H0:Hp) (g fa sb:Nat) (ys:List Nat) (f:Nm) (a c:Nat) (b:Bool) (fs:List (Nat×Nat)) (r:En) (H:Hp):Prop extends PE H0 g fa sb ys f a b fs r H where
 her:r y5=some (.int (c:Nat))
noncomputable def a3U (x:Nat) (H H':Hp):Prop:=∀ b o,b≠x->H b=some o->H' b=some o
theorem b64 {x f:Nm} {as:Lv} (h:r x=some (.fn f)) (q:as K r H λvs B=>K.call 0 f vs B Q):a3w x as K r H Q:=⟨f,h,q⟩
theorem b0z (B:r C9=some (D6 z)) (two:z.2.length<=2):a6e (D8 (a0N (d6 C9) (h9 (.int 1)))) K r H (iL z.2) :=
 a3F λR q=>a5k (f6 B (m0 (a2n (v:=.str z.1) (by rw[(m9 ..)];unfold o9;exact zo5 two) (q _ (.refl _)))))
theorem b0r:(ks.flatMap λk=>if (fs.lookup k).isSome then [] else [iV k]).isEmpty=true↔b5C fs ks:=by
 refine O0 (List.isEmpty_iff ..) ?_;refine O0 (List.flatMap_eq_nil_iff ..) ?_;refine forall_congr' λk=>forall_congr' λ_=>?_;cases (fs.lookup k).isSome
 ·exact ⟨(λz=>nomatch z),(λz=>nomatch z)⟩
 ·exact ⟨λ_=>rfl,λ_=>rfl⟩
variable {v:Nat}
theorem a3U.of {x:Nat} {H q:Hp} (k:m7 H q):a3U x H q:=λb o _ h=>k b o h
theorem a3U.put {x:Nat} {H q:Hp} (k:a3U x H q):a3U x H (q.set x o):=λb p e h=>(J9 e).trans (k b p e h)
theorem a9z {V:Hp} {q s:Nat} {f:Nm} {b:Bool} {W:v9} (S:Sy lay C H lh st) (ha:a < st.up.length) (L:H q=none) (T:s≠q) (O:b5y f ov) (M:OvM ov) (E:LE H g q s ys f a c b fs r V) (F:LI st ov a fs) (hn:r C9=some (D6 z)) (rc:Rch st a c) (hz:Nds st c z)
  (q1:∀ x U,LE H g q s ys f a c b fs x U->a3U q V U->St1 ov fs c z->W .next x U)
  (q2:∀ x U v,LE H g q s ys f a c true (put fs c v) x U->a3U q V U->LI st ov a (put fs c v)->b2F fs c v->W .next x U) :
  (d9 (U9 (y8 .eq (A9 (d6 y9) [y9] true (D8 (a0N (d6 C9) (h9 (.int 1)))) (Q8 (y8 .notin (d6 y9) (d6 u7)) J4)) (G0 f4))
     (d9 (p9 (m5 N9) (a3w a4Z (d7 (A9 (k8 (d6 u7) (d6 y9)) [y9] true (D8 (a0N (d6 C9) (h9 (.int 1)))) J4) f4)))
     (d9 (U9 (V0 (y8 .notin (d6 y5) (d6 u7)) (V0 (y8 .lt (d6 N9) (k8 (d6 u7) (d6 y5))) a5x))
      (d9 (p9 (R4 [(a0B (d6 u7) (d6 y5)),(m5 U3)]) (B6 (d7 (d6 N9) (d7 (h9 (.bool true)) f4))))
      m6)
      m6)
     m6))
     m6)
    m6) (j3 FT (n+1)) r V W:=by
 refine eE E.hf λD G=>?_;have R:=S.two hz;have u:∀ {v:f5},(r.set y9 v) u7=some (.ref q):=E.fnd;have le:∀ {g':Nat->List f5},(∀ k,(g' k).length<=1)->(z.2.flatMap g').length<=o9:=λh=>c7g (a6A (m:=1) λk _=>h k) (by unfold o9;exact c7g (c7x R _) (c7d rfl))
 refine g8 (W9 (B9 (Y4 (l:=z.2) (f:=iV) (g:=λk=>if (fs.lookup k).isSome then [] else [iV k]) (le λk=>by split <;> first | exact c7q _ | exact c7l _) (b0z hn R) (λk hk H' k' P p=>?_) λU d k2 hd=>a9i l9 λe he=>⟨λt=>?_,λt=>?_⟩)))
 ·have p:=p H' (.refl _);refine Z7 (B9 (f6 rfl (f6 u (a11 (k' _ _ G) ⟨λt=>a3T ⟨λ_=>f6 rfl ?_,(λz=>nomatch z)⟩,λt=>⟨(λz=>nomatch z),λ_=>?_⟩⟩))))
  ·rwa [c7W (by intro z;rw [z] at t;cases t)] at p
  ·rwa [c7X (by cases z:(fs.lookup k).isSome <;> rw [z] at t <;> first | rfl | cases t)] at p
 ·have A:=b0r.mp t;have i:=k2.trans ((m7.new (o:=.list (z.2.flatMap λk=>if (fs.lookup k).isSome then [] else [iV k])) hd).trans (.new (o:=.list []) he))
  refine g8 (w6 (b64 E.ove (d8 (Y4 (l:=z.2) (f:=iV) (g:=λk=>[iV ((fs.lookup k).getD 0)]) (le λk=>c7l _) (b0z hn R) (λk hk X Q P p=>?_) λX d4 Q K=>g9 (O _ d4 (a0J fs z.2) _ _ ?_ ?_ λH5 k5=>z0 ?_)))))
  ·refine eE (c8y (A k hk)) λv e=>O9 (B2 (f6 u (f6 rfl (a6G ((i.trans Q) _ _ G) e ?_))));have:=p X (.refl _);rwa [e] at this
  ·rw[l9];rw[(J5 ..)];unfold iL a0J;rw[c7U];rfl
  ·unfold a0J;rw[(c7f ..)];exact b5m R
  ·have j:=i.trans (Q.trans ((m7.new (o:=.list (z.2.flatMap λk=>[iV ((fs.lookup k).getD 0)])) K).trans k5));generalize N:ov (a0J fs z.2)=v;have J:=j _ _ G;have Y:(r.set N9 (.int (v:Nat))) u7=some (.ref q):=E.fnd;have Z:(r.set N9 (.int (v:Nat))) y5=some (.int (c:Nat)):=E.her;have E6:∀ {y:Hp},m7 H y->(∃ D,y q=some (.dict (dM iV fs) D))->y s=some (.list (iL ys))->LE H g q s ys f a c b fs (r.set N9 (.int (v:Nat))) y:=λk h1 h2=>⟨⟨⟨k,E.self,E.fnd,E.som,h1,h2⟩,E.ove,E.isn,E.cc⟩,E.her⟩
   have B:b2F fs c v->(d9 (p9 (R4 [(a0B (d6 u7) (d6 y5)),(m5 U3)]) (B6 (d7 (d6 N9) (d7 (h9 (.bool true)) f4)))) m6) (j3 FT (n+1)) (r.set N9 (.int (v:Nat))) H5 λfl r1 V=>a3P fl (W .next r1 V) λv=>W (.ret v) r1 V:=λls=>by
    refine g8 (w6 (I4 (d8 (f6 rfl (d8 (m0 (g9 ⟨[iV v,.bool true],.inl rfl,rfl,_,_,rfl,a9X (f:=iV) (v:=v) (n8 Y) (n8 Z) J (c7g (F.len S ha) (by decide)) λI=>⟨_,_,rfl,?_⟩⟩)))))))
    refine ⟨rfl,?_⟩;exact q2 _ _ v ⟨⟨⟨(E.keep.trans j).put L,E.self,E.fnd,E.som,⟨I,l9⟩,(J9 T).trans (j _ _ E.hs)⟩,E.ove,rfl,E.cc⟩,E.her⟩ ((a3U.of j).put) (N▸F.more S M rc hz A (N.symm▸ls)) ls
   refine g8 (W9 (a0K (B9 (f6 Z (f6 Y (a11 J ⟨λt=>⟨λ_=>?_,(λz=>nomatch z)⟩,λt=>?_⟩))))))
   ·refine B (.inl ?_);cases e:fs.lookup c with
    | none=>rfl
    | some _=>rw [e] at t;cases t
   ·obtain ⟨w,e⟩:∃ w,fs.lookup c=some w:=by
     cases e:fs.lookup c with
     | none=>rw [e] at t;cases t
     | some w=>exact ⟨w,rfl⟩
    refine a0K (B9 (f6 rfl (B2 (f6 Y (f6 Z (a6G J e (lt_int ⟨λt=>⟨λ_=>?_,(λz=>nomatch z)⟩,λt=>a7h ⟨(λz=>nomatch z),λ_=>?_⟩⟩)))))))
    ·exact B (.inr ⟨w,e,Int.ofNat_lt.mp (c7n t)⟩)
    ·refine q1 _ _ (E6 (E.keep.trans j) ⟨D,J⟩ (j _ _ E.hs)) (.of j) λ_=>⟨w,e,?_⟩;have:=c78 t;rw[N];exact Nat.le_of_not_lt λh=>this (c8E h)
 ·have i:=k2.trans ((m7.new (o:=.list (z.2.flatMap λk=>if (fs.lookup k).isSome then [] else [iV k])) hd).trans (.new (o:=.list []) he))
  refine q1 _ _ ⟨⟨⟨E.keep.trans i,E.self,E.fnd,E.som,⟨D,i _ _ G⟩,i _ _ E.hs⟩,E.ove,E.isn,E.cc⟩,E.her⟩ (.of i) λA=>?_;rw [b0r.mpr A] at t;cases t
noncomputable def msr (ys:List Nat) (fs:List (Nat×Nat)):Nat:=(ys.map λc=>(fs.lookup c).getD (2 ^ 17)).sum
theorem b9f {f h:Nat->Nat} (le:∀ x,f x<=h x):(ys.map f).sum<=(ys.map h).sum/\∀ c∈ys,f c < h c->(ys.map f).sum < (ys.map h).sum:=by
 induction ys with
 | nil=>exact ⟨c7l _,λc hc=>nomatch hc⟩
 | cons y ys q =>
  rw[c7Z];rw[c7Z];rw[c8o];rw[c8o];have:=le y;refine ⟨c8f this q.1,λc hc B=>?_⟩;rcases c8z hc with rfl | hc
  ·exact Nat.add_lt_add_of_lt_of_le B q.1
  ·exact Nat.add_lt_add_of_le_of_lt this (q.2 c hc B)
theorem b6i (F:c∈ys) (O:b2F fs c v) (J:v < 2 ^ 17):msr ys (put fs c v) < msr ys fs:=by
 have q:v < (fs.lookup c).getD (2 ^ 17):=by
  rcases O with h | ⟨w,h,B⟩
  ·rw[h];exact J
  ·rw[h];exact B
 refine (b9f λx=>?_).2 c F ?_
 ·rw[V3];by_cases e:x=c
  ·rw[(c7X e)];rw[e];exact c74 q
  ·rw[(c7W e)];exact c7l _
 ·rw[V3];rw[(c7X rfl)];exact q
structure Pg (ys:List Nat) (f0 fs:List (Nat×Nat)) (b:Bool):Prop where
 same:b=false->fs=f0
 le:msr ys fs<=msr ys f0
 lt:b=true->msr ys fs < msr ys f0
theorem b8M {q:List (Nat×Nat)} {b:Bool} (S:Sy lay C H lh st) (ha:a < st.up.length) (P:Pg ys q fs b) (F:LI st ov a (put fs c v)) (O:c∈ys) (R:b2F fs c v):Pg ys q (put fs c v) true:=by
 have J:=(F.val c v (by rw[V3];rw[(c7X rfl)];rfl)).2
 have B:=c7v (b6i O R (c7v J (Nat.pow_le_pow_right (by decide) (F.len S ha)))) P.le
 exact ⟨(λh=>nomatch h),c74 B,λ_=>B⟩
theorem a8e {X:Hp} {Z s:Nat} {f:Nm} {b:Bool} {W:v9} {x:List (Nat×Nat)} (S:Sy lay C H lh st) (G:Gr lay H g) (ha:a < st.up.length) (I:H Z=none) (Q:s≠Z) (O:b5y f ov) (M:OvM ov) (E:LE H g Z s ys f a c b fs r X) (F:LI st ov a fs) (P:Pg ys x fs b) (rc:Rch st a c) (hc:c∈ys)
  (q:∀ Y w U B,PE H g Z s ys f a U B Y w->LI st ov a B->Pg ys x B U->(U=false->b=false/\∀ z,Nds st c z->St1 ov B c z)->W .next Y w) :
  (d9 (S4 [C9] true (D8 (i8 (o6 (d6 f7) u6) a0q (d7 (d6 y5) f4)))
    (d9 (U9 (y8 .eq (A9 (d6 y9) [y9] true (D8 (a0N (d6 C9) (h9 (.int 1)))) (Q8 (y8 .notin (d6 y9) (d6 u7)) J4)) (G0 f4))
     (d9 (p9 (m5 N9) (a3w a4Z (d7 (A9 (k8 (d6 u7) (d6 y9)) [y9] true (D8 (a0N (d6 C9) (h9 (.int 1)))) J4) f4)))
     (d9 (U9 (V0 (y8 .notin (d6 y5) (d6 u7)) (V0 (y8 .lt (d6 N9) (k8 (d6 u7) (d6 y5))) a5x))
      (d9 (p9 (R4 [(a0B (d6 u7) (d6 y5)),(m5 U3)]) (B6 (d7 (d6 N9) (d7 (h9 (.bool true)) f4))))
      m6)
      m6)
     m6))
     m6)
    m6))
   m6) (j3 FT (n+5)) r X W:=by
 have A:=(S.rch ha rc).1;refine g8 (a3Q (a2I (S.keep E.keep) rfl rfl (λ_ q=>a4L (G.keep E.keep) (n8 E.self) q) (d8 (f6 E.her (g9 (b3w (n:=n+1) (S.keep E.keep) A λw nb t k2 V zl zm=>?_))))));have L:=k2.trans (m7.new (o:=.list (t.map D6)) V);have nf:nb≠Z:=λe=>by
  refine eE E.hf λep D=>?_;rw [e,k2 _ _ D] at V;cases V
 refine a9n (f:=D6) (ys:=t) (λi Y m=>∃ B U,LE H g Z s ys f a c U B Y m/\LI st ov a B/\Pg ys x B U/\m nb=some (.list (t.map D6))/\(U=false->b=false/\∀ z∈t.take i,St1 ov B c z)) ?_ (λk=>by refine B0 k λ_ _ _ _ _ h _=>?_;clear k;exact h) (λY m k=>?_) λi z Y m d z2 W2 j _=>?_
 ·exact eE E.hf λep D=>⟨fs,b,⟨⟨⟨E.keep.trans L,E.self,E.fnd,E.som,⟨ep,L _ _ D⟩,L _ _ E.hs⟩,E.ove,E.isn,E.cc⟩,E.her⟩,F,P,l9,λh=>⟨h,λz d=>nomatch d⟩⟩
 ·refine B0 k λB U J l p _ R=>?_;clear k;refine q _ _ _ _ J.toPE l p λh=>⟨(R h).1,λz d=>(R h).2 z ?_⟩;rw[c8c];exact (zm z).mpr d
 ·refine B0 z2 λB U J l p n2 R=>?_;clear z2;have K:=(zm z).mp (c7e d);refine a9z (n:=n+4) S ha I Q O M (r:=Y.set C9 (D6 z)) ⟨⟨⟨J.keep,J.self,J.fnd,J.som,J.hf,J.hs⟩,J.ove,J.isn,J.cc⟩,J.her⟩ l rfl rc K (λr3 H4 u N s1=>j _ _ ⟨B,U,u,l,p,N _ _ nf n2,λh=>⟨(R h).1,λy hy=>?_⟩⟩) λr3 H4 v u N T ls=>j _ _ ⟨_,true,u,T,b8M S ha p T hc ls,N _ _ nf n2,λh=>nomatch h⟩
  rw [List.take_add_one,d] at hy;rcases c8w hy with hy | hy
  ·exact (R h).2 y hy
  ·exact c8x hy▸s1
variable {mk:List Nat}
theorem Sy.nds (S:Sy lay C H lh st) (ha:a < st.up.length):Nds st (f9 st.up a) z↔Nds st a z:=by
 unfold Nds;rw[(S.idem ha)];rfl
theorem Sy.trm (S:Sy lay C H lh st) (ha:a < st.up.length):Trm st ov v (f9 st.up a)↔Trm st ov v a :=
 ⟨λF=>by obtain ⟨⟨z,B,e⟩,q,h⟩:=F;exact .mk ⟨z,(S.nds ha).mp B,e⟩ q h,λJ=>by obtain ⟨⟨z,B,e⟩,q,h⟩:=J;exact .mk ⟨z,(S.nds ha).mpr B,e⟩ q h⟩
theorem a8z {α β:Type} [Inhabited β] {l:List α} {P:α->β->Prop} (h:∀ k∈l,∃ v,P k v):∃ f:α->β,∀ k∈l,P k (f k):=by
 classical
 exact ⟨λk=>if h:∃ v,P k v then Classical.choose h else default,λk q=>by dsimp only;rw[(dif_pos (h k q))];exact Classical.choose_spec (h k q)⟩
theorem Sy.ex_trm (S:Sy lay C H lh st) (ov:List Nat->Nat):∀ a,a < st.up.length->∃ v,Trm st ov v a:=by
 intro a;induction a using Nat.strongRecOn with
 | ind a Y =>
  intro F;have J:st.nd[a]?=some _:=c7h (by rw[S.I.eqn];exact F)
  generalize st.nd[a]'(by rw[S.I.eqn];exact F)=x at J
  have B:∀ k∈x.2,∃ v,Trm st ov v (f9 st.up k):=λk B=>by
   have O:=S.I.low a x J k B;exact eE (Y k O (c77 O F)) λv W=>⟨v,(S.trm (c77 O F)).mpr W⟩
  refine eE (a8z B) λf V=>⟨_,.mk (ds:=x.2.map f) ⟨_,⟨a,x,J,rfl,rfl⟩,rfl⟩ (by rw[(c7f ..)];exact (c7f ..).symm) λq d k R B=>?_⟩
  have B:(x.2.map (f9 st.up))[q]?=_:=B;rw [List.getElem?_map] at R B;refine j5 (c8v R) λy U Z=>?_;subst Z;rw [U] at B;obtain rfl:=c7p B;exact V y (c7e U)
theorem b1M (M:OvM ov) (b:∀ c,Rch st a c->∀ z,Nds st c z->St1 ov fs c z):∀ w c,Trm st ov w c->Rch st a c->∃ v,fs.lookup c=some v/\v<=w:=by
 intro w c h;induction h with
 | @mk c ks ds J hl _ ih =>
  revert J;intro W;refine j5 W λz J j=>?_;clear W;subst j;intro Y;have F:∀ (q d k:Nat),ds[q]?=some d->z.2[q]?=some k->∃ v,fs.lookup k=some v/\v<=d:=λq d k B F=>ih q d k B F (.step Y ⟨z,J,c7e F⟩);have Z:b5C fs z.2:=λk i=>by
   refine eE (List.getElem?_of_mem i) λq U=>?_;have V:=(c8r U).1;rw [<- hl] at V;refine j5 (F q _ k (c7h V) U) λv e _=>?_;rw[e];rfl
  refine j5 (b c Y z J Z) λv e R=>⟨v,e,c7g R (M.mono _ _ (by unfold a0J;rw[(c7f ..)];exact hl.symm) λq d e B g=>?_)⟩
  unfold a0J at B;rw [List.getElem?_map] at B;refine j5 (c8v B) λk O l=>?_;subst l;refine j5 (F q e k g O) λv f R=>?_;rw[f];exact R
theorem b8s {f:Nm} (S:Sy lay C H lh st) (G:Gr lay H g) (ha:a < st.up.length) (O:b5y f ov) (M:OvM ov) (q:∀ H' v,m7 H H'->Trm st ov v a->(∀ w,Trm st ov w a->v<=w)->Q (.int (v:Nat)) H') :
  (j3 FT (n+7)).call y0 a6U [.ref g,.int (a:Nat),.fn f] H Q:=by
 refine s9 rfl rfl (g8 (w6 (I4 (d8 (b0a λP R=>d8 (a1P (G.keep (.new R)) rfl rfl (n8 rfl) (d8 (f6 rfl (g9 (a74 (n:=n) (S.keep (.new R)) (G.keep (.new R)) ha λA u xs k1 Y xn xm=>d8 (m0 (g9 (b36 (.inl rfl) ?_)))))))))))));refine j5 (a5d xs) λys e p=>?_;rw[e];have ym:∀ c,c∈ys↔Rch st a c:=λc=>p.mem_iff.trans (xm c);have k2:=(m7.new (o:=.dict [] 0) R).trans (k1.trans (.new (o:=.list (iL ys)) Y))
 have l:u≠P:=λe=>by rw [e,k1 _ _ l9] at Y;cases Y
 refine g8 (a54 (λk r1 A=>∃ (U:List (Nat×Nat)) (b:Bool),PE H g P u ys f a b U r1 A/\LI st ov a U/\(b=false->∀ c∈ys,∀ z,Nds st c z->St1 ov U c z)/\k=2 * msr ys U+b.toNat) _
  ⟨[],true,⟨⟨k2,rfl,rfl,rfl,⟨0,(J9 λe=>l e.symm).trans (k1 _ _ l9)⟩,l9⟩,rfl,rfl,rfl⟩,⟨c8g,(λ_ h=>nomatch h),(λ_ _ h=>nomatch h)⟩,(λh=>nomatch h),rfl⟩ λk r1 A hI W hW=>?_)
 refine J6 hI λU b E F N q3=>?_;clear hI;subst q3;refine a99 (f6 E.isn ⟨b,rfl,λt=>?_,λt=>?_⟩)
 ·subst t;refine g8 (w6 (m0 (z0 ?_)));refine g8 (a3Q (f6 (show (r1.set U3 (.bool false)) a2L=some (.ref u) from E.som) (a9n (f:=iV) (ys:=ys) (λi s D=>∃ B V,PE H g P u ys f a V B s D/\LI st ov a B/\Pg ys U B V/\(V=false->∀ c∈ys.take i,∀ z,Nds st c z->St1 ov B c z)) ⟨U,false,⟨⟨E.keep,E.self,E.fnd,E.som,E.hf,E.hs⟩,E.ove,rfl,E.cc⟩,F,⟨λ_=>rfl,c7l _,(λh=>nomatch h)⟩,λ_ c h=>nomatch h⟩ (λz3=>by refine A6 z3 λ_ _ E _=>?_;clear z3;exact E.hs) (λs D z1=>?_) λi c s D Z z2 W2 X _=>?_)))
  ·refine J6 z1 λB V J y d K=>?_;clear z1;refine hW _ _ _ ?_ ⟨B,V,J,y,λh c Z=>K h c (by rw[c8c];exact Z),rfl⟩
   cases V with
   | false=>have:=d.le;show 2 * _+0 < 2 * _+1;exact c7Q (c8e 2 this)
   | true=>have:=d.lt rfl;show 2 * _+1 < 2 * _+1;exact Nat.succ_lt_succ (Nat.mul_lt_mul_of_pos_left this (c7d rfl))
  ·refine J6 z2 λB V J y d K=>?_;clear z2;have j:=c7e Z;refine a8e (n:=n+1) (r:=s.set y5 (.int (c:Nat))) S G ha R l O M ⟨⟨⟨J.keep,J.self,J.fnd,J.som,J.hf,J.hs⟩,J.ove,J.isn,J.cc⟩,rfl⟩ y d ((ym c).mp j) j λr3 H3 b3 T E3 F3 P3 s3=>X _ _ ⟨T,b3,E3,F3,P3,λh x hx=>?_⟩;refine eA (s3 h) λh2 s3=>?_;rw [List.take_add_one,Z] at hx;rcases c8w hx with hx | hx
   ·rw[(P3.same h)];refine w3 (d.same h2) ?_;exact K h2 x hx
   ·exact c8x hx▸s3
 ·have N:∀ c,Rch st a c->∀ z,Nds st c z->St1 ov U c z:=λc Z=>N t c ((ym c).mpr Z);have low:=b1M M N;refine eE (S.ex_trm ov a ha) λw hw=>j5 (low w _ ((S.trm ha).mpr hw) .base) λv hv _=>eE E.hf λep hf=>?_;have m:=S.keep E.keep;refine g8 (G4 (B2 (f6 E.fnd (a2I m rfl rfl (λ_ q=>a4L (G.keep E.keep) (n8 E.self) q) (d8 (f6 E.cc (g9 (a4O m.L m.E m.I.toOk ha (a6G hf hv ?_)))))))))
  exact q _ v E.keep ((S.trm ha).mp (F.val _ v hv).1) λw hw=>by
   refine j5 (low w _ ((S.trm ha).mpr hw) .base) λv' e le=>?_;rw [hv] at e;obtain rfl:=c7p e;exact le
structure Fnd (st:St) (a:Nat) (fs:List (Nat×Nat)):Prop extends FI st a fs where
 cl:∀ c,Rch st a c->Off st fs c
noncomputable def b5x (st:St) (ov:List Nat->Nat) (a v:Nat):Prop:=Trm st ov v a/\∀ w,Trm st ov w a->v<=w
theorem b3r (S:Sy lay C H lh st) (G:Gr lay H g) (ha:a < st.up.length) (q:∀ O v fs,m7 H O->b5x st dpO a v->Fnd st a fs->Q (.tup [.int (v:Nat),((fs.lookup (f9 st.up a)).map iV).getD (.int (-1))]) O):(j3 FT (n+8)).call y0 P5 [.ref g,.int (a:Nat)] H Q:=by
 refine s9 rfl rfl (g8 (G4 (I4 (d8 (a1P G rfl rfl (n8 rfl) (d8 (f6 rfl (d8 (m0 (g9 (b8s (n:=n) S G ha a7H b5O λc v J Y Z=>d8 (b9r (a1P (G.keep J) rfl rfl (n8 rfl) (d8 (f6 rfl (g9 (b8r (n:=n) (S.keep J) (G.keep J) ha λU W fs d b R F V=>⟨.dct .get,⟨⟨W,_,_,rfl,R⟩,rfl⟩,?_⟩)))))))))))))))));have k:=J.trans b;have B:=S.keep k;refine d8 (a2I B rfl rfl (λ_ q=>a4L (G.keep k) (n8 rfl) q) (d8 (f6 rfl (g9 (a4O B.L B.E B.I.toOk ha (d8 (a36 (m0 ⟨1,rfl,g9 (b71 R (b0K _) ?_)⟩))))))))
 rw[a4j];exact q U v fs k ⟨Y,Z⟩ ⟨F,V⟩
noncomputable def j6 (mk:List Nat) (i:Nat):Nat:=mk.getD i i
theorem a27 (h:i < mk.length):mk[i]?=some (j6 mk i):=by
 unfold j6;rw[c7w];rw[(c7h h)];rfl
theorem a4p (h:mk[i]?=some m):j6 mk i=m:=by
 unfold j6;rw[c7w];rw[h];rfl
structure TC (N:Nat) (ps:List (Nat×Nat)) (E:Nat->Nat->Prop):Prop where
 refl:∀ a,E a a
 symm:∀ a b,E a b->E b a
 trans:∀ a b c,E a b->E b c->E a c
 tie:∀ p∈ps,E p.1 p.2
 suc:∀ i j,i+1 < N->j+1 < N->E i j->E (i+1) (j+1)
structure TM (N:Nat) (ps:List (Nat×Nat)) (mk:List Nat):Prop where
 len:mk.length=N
 le:∀ i,i < N->j6 mk i<=i
 idem:∀ i,i < N->j6 mk (j6 mk i)=j6 mk i
 sound:∀ E,TC N ps E->∀ i,i < N->E i (j6 mk i)
structure TF (N:Nat) (ps:List (Nat×Nat)) (mk:List Nat):Prop where
 tie:∀ p∈ps,j6 mk p.1=j6 mk p.2
 suc:∀ i j,i+1 < N->j+1 < N->j6 mk i=j6 mk j->j6 mk (i+1)=j6 mk (j+1)
theorem TF.tc {N:Nat} {ps:List (Nat×Nat)} (f:TF N ps mk):TC N ps λi j=>j6 mk i=j6 mk j:=⟨λ_=>rfl,λ_ _ e=>e.symm,λ_ _ _ e q=>e.trans q,f.tie,f.suc⟩
noncomputable def a09 (mk:List Nat) (lo hi:Nat):List Nat:=mk.map λm=>if m=hi then lo else m
end
variable {j:Nat}{mk:List Nat}{N:Nat}{ps:List (Nat×Nat)}{b lo hi:Nat}
theorem a59:(a09 mk lo hi).length=mk.length:=c7f ..
theorem b45 (h:i < mk.length):j6 (a09 mk lo hi) i=if j6 mk i=hi then lo else j6 mk i:=a4p (by
 unfold a09;rw[c7m];rw[(a27 h)];rfl)
noncomputable def Two (mk:List Nat) (a b lo hi:Nat):Prop:=lo<=hi/\((lo=j6 mk a/\hi=j6 mk b)\/(lo=j6 mk b/\hi=j6 mk a))
theorem TM.step (M:TM N ps mk) (ha:a < N) (J:b < N) (t:Two mk a b lo hi) (B:∀ E,TC N ps E->E a b):TM N ps (a09 mk lo hi):=by
 have V:j6 mk lo=lo:=t.2.elim (λh=>by rw[h.1];exact M.idem a ha) λh=>by rw[h.1];exact M.idem b J
 have q:∀ i,i < N->j6 (a09 mk lo hi) i=if j6 mk i=hi then lo else j6 mk i:=λi h=>b45 (by rw[M.len];exact h)
 refine ⟨a59.trans M.len,λi h=>?_,λi h=>?_,λE c i h=>?_⟩
 ·rw[(q i h)];have:=M.le i h
  split
  ·rename_i e;exact c7g t.1 (e▸this)
  ·exact this
 ·have O:j6 mk i < N:=c7k (M.le i h) h;have W:j6 mk i=hi->lo < N:=λe=>c7k t.1 (e▸O);rw[(q i h)];by_cases e:j6 mk i=hi
  ·(rw[(c7X e)];rw[(q lo (W e))];rw[V]);split <;> rfl
  ·rw[(c7W e)];rw[(q _ O)];rw[(M.idem i h)];rw[(c7W e)];rfl
 ·rw[(q i h)];have s:=M.sound E c i h
  split
  ·rename_i e;have R:=M.sound E c a ha;have U:=M.sound E c b J;have F:=B E c;refine c.trans _ _ _ s ?_;rw[e];rcases t.2 with z | z
   ·rw[z.1];rw[z.2];exact c.trans _ _ _ (c.symm _ _ U) (c.trans _ _ _ (c.symm _ _ F) R)
   ·rw[z.1];rw[z.2];exact c.trans _ _ _ (c.symm _ _ R) (c.trans _ _ _ F U)
  ·exact s
theorem b2w:∀ {mk:List Nat},lo<=hi->(a09 mk lo hi).sum<=mk.sum/\(hi∈mk->lo≠hi->(a09 mk lo hi).sum < mk.sum)/\(lo=hi->a09 mk lo hi=mk):=by
 intro mk U;induction mk with
 | nil=>exact ⟨c7l _,(λh=>c7Y h c7E),λ_=>rfl⟩
 | cons m mk F =>
  refine eAA F λB O R=>?_;clear F;show (if m=hi then lo else m)+(a09 mk lo hi).sum<=m+mk.sum/\(_->_->(if m=hi then lo else m)+(a09 mk lo hi).sum < m+mk.sum)/\(_->(if m=hi then lo else m) :: a09 mk lo hi=m :: mk)
  have q:(if m=hi then lo else m)<=m:=by split <;> omega
  refine ⟨c8f q B,λh J=>?_,λe=>?_⟩
  ·rcases c8z h with h | h
   ·rw[(c7X h.symm)];exact c4U U B J h
   ·exact Nat.add_lt_add_of_le_of_lt q (O h J)
  ·rw[(R e)];split
   ·rename_i z;rw[e];rw[z];rfl
   ·rfl
noncomputable def a1C (mk:List Nat) (n:Nat):List (Nat×Nat):=(List.range n).flatMap λo=>((List.range o).filter λx=>decide (j6 mk o=j6 mk x)).map λx=>(o+1,x+1)
theorem a7M {n:Nat} {p:Nat×Nat}:p∈a1C mk n↔∃ o x,o < n/\x < o/\j6 mk o=j6 mk x/\p=(o+1,x+1):=by
 unfold a1C;refine O0 (List.mem_flatMap ..) ?_;constructor
 ·rintro ⟨o,J,h⟩
  refine j5 (c8s h) λx O R=>?_;subst R;exact eA (List.mem_filter.mp O) λq B=>⟨o,x,c8D J,c8D q,c7n B,rfl⟩
 ·rintro ⟨o,x,q,B,F,rfl⟩
  exact ⟨o,c8C q,c8t ⟨x,List.mem_filter.mpr ⟨c8C B,c76 F⟩,rfl⟩⟩
theorem b3b:∀ n,n<=6->(a1C mk n).length<=7 * n:=by
 intro n;induction n with
 | zero=>exact λ_=>c7q _
 | succ n F =>
  intro h;unfold a1C;rw[List.range_succ];rw[List.flatMap_append];rw[c7P];rw[List.flatMap_cons];rw[List.flatMap_nil];rw[(c8d ..)];rw[(c7f ..)];have q:=F (c03 h);have B:=List.length_filter_le (λx=>decide (j6 mk n=j6 mk x)) (List.range n);rw [List.length_range] at B;unfold a1C at q;exact c32 h q B
theorem b5R (M:TM (N+1) ps mk) (pl:∀ p∈ps,p.1 < N+1/\p.2 < N+1) {p:Nat×Nat} (h:p∈ps++a1C mk N):(p.1 < N+1/\p.2 < N+1)/\∀ E,TC (N+1) ps E->E p.1 p.2:=by
 rcases c8w h with h | h
 ·exact ⟨pl p h,λE c=>c.tie p h⟩
 ·refine J6 (a7M.mp h) λo x q B F J=>?_;subst J;have O:o < N+1:=by exact zo1 q
  have R:x < N+1:=by exact c37 q B
  refine ⟨⟨by show o+1 < _;exact zo0 q,by show x+1 < _;exact c5F q B⟩,λE c=>c.suc o x (zo0 q) (c5F q B) (c.trans _ _ _ (M.sound E c o O) ?_)⟩
  rw[F];exact c.symm _ _ (M.sound E c x R)
theorem b1p (h:∀ p∈ps++a1C mk N,j6 mk p.1=j6 mk p.2):TF (N+1) ps mk:=by
 refine ⟨λp U=>h p (c7s _ U),λi j O R e=>?_⟩;have q:∀ o x,o < N->x < o->j6 mk o=j6 mk x->j6 mk (o+1)=j6 mk (x+1):=λo x B F J=>h _ (c7t _ (a7M.mpr ⟨o,x,B,F,J,rfl⟩));rcases Nat.lt_trichotomy i j with z | z | z
 ·exact (q j i (zo2 R) z e.symm).symm
 ·rw[z];rfl
 ·exact q i j (zo2 O) z e
theorem tm0:TM N ps (List.range N):=by
 have e:∀ i,i < N->j6 (List.range N) i=i:=λi h=>a4p (List.getElem?_range h);exact ⟨c70,λi h=>c7z (e i h),λi h=>by rw[(e i h)];rw[(e i h)];rfl,λE c i h=>by rw[(e i h)];exact c.refl i⟩
variable {v:Nat}
noncomputable def K0 (p:Nat×Nat):f5:=.tup [.int (p.1:Nat),.int (p.2:Nat)]
theorem a7w {x y:Nm} {v w:f5}:a0k [x,y] false (.tup [v,w]) r ((r.set x v).set y w):=.inr ⟨rfl,[v,w],rfl,rfl,rfl⟩
theorem b0F (h:H a=some (.list xs)) (B:xs.length<=o9) (q:∀ b,H b=none->Q (.ref b) (H.set b (.list xs))):biW .list [.ref a] H Q:=⟨a,xs,rfl,h,B,q⟩
theorem a8B (l:List Nat):a33 (iL l)=true:=b0C _ _
theorem a6z {α:Type} {c:α->Bool} {f:α->f5}:∀ {l:List α},(l.flatMap λx=>if c x then [f x] else [])=(l.filter c).map f:=by
 intro l;induction l with
 | nil=>rfl
 | cons x l q =>
  rw[List.flatMap_cons];rw[List.filter_cons];rw[q];cases c x <;> rfl
theorem b67 {a:Ev} (h:a K r H λv q=>∃ n:Int,v=.int n/\-o9<=n/\n<=o9/\alloc (.list (Q3 0 n)) q Q):a6o a K r H Q:=h
theorem a13 {t:List Nm} {es:Lv} {b:Bv} {Q:v9} (h:es K r H λvs q=>itR vs q λsrc B=>∃ n,a4f t one (b K) src n 0 r B Q):S4 t one (K8 es) b K r H Q:=h
theorem a1k {b:Bv} {Q:v9} (U:m<=o9) (I:Nat->En->Hp->Prop) (h0:I 0 r H) (c:∀ r H,I m r H->Q .next r H)
  (h:∀ (i:Nat) (r:En) (H:Hp),i < m->I i r H->∀ W:v9,(∀ B q,I (i+1) B q->W .next B q)->(∀ v B q,Q (.ret v) B q->W (.ret v) B q)->b K (r.set x (.int (i:Nat))) H W):itR [.int (m:Nat)] H λsrc Z=>∃ n,a4f [x] true (b K) src n 0 r Z Q :=
 .inl ⟨m,rfl,by have:=U;exact b9x,by have:=U;exact c8F U,_,a2H (src:=.seq (Q3 0 (m:Nat))) (Q3 0 (m:Nat)) I (λ_ _ _ _=>rfl) (λr H J=>c r H (by rwa [a05,m9,c70] at J)) (λi v r H F J W O R=>by
  rw [a05] at F;unfold iL at F;rw [List.getElem?_map] at F;refine j5 (c8v F) λj a d=>?_;subst d;refine eE (c8r a) λV Y=>?_;rw [List.length_range] at V;rw [List.getElem_range] at Y;subst Y;exact ⟨_,N0,h i r H V J W O R⟩) _ 0 r H (c7y _) (c7q _) h0⟩
theorem b7x (h:i < mk.length):(iL mk)[i]?=some (.int (j6 mk i:Nat)):=a4P (a27 h)
theorem a0O {x y:Nm} (J:r y=some (.ref a)) (ha:H a=some (.list (iL mk))) (F:mk.length<=17) (O:r x=some (.int (i:Nat))) (B:i < mk.length) (q:Q (.int (j6 mk i:Nat)) H):k8 (d6 y) (d6 x) K r H Q :=
 B2 (f6 J (f6 O (D9 ha (by rw[(m9 ..)];exact l5 F) (b7x B) q)))
theorem b8j {l m:List Nat} {i:Decidable (iL l=iL m)}:@decide _ i=decide (l=m):=decide_eq_decide.mpr ⟨b3x,λe=>e▸rfl⟩
theorem c0q {a b:Nat} {l m:List Nat} {Q:N4} (ha:H a=some (.list (iL l))) (B:H b=some (.list (iL m))) (q:Q (!decide (l=m)) H):Y7 .ne (.ref a) (.ref b) H Q :=
 ⟨_,.inl (.inr ⟨a,b,_,_,rfl,rfl,ha,B,.inl ⟨a8B l,a8B m⟩,rfl⟩),by rw[b8j];exact q⟩
structure MV (hi at_ a b:Nat) (r:En):Prop where
 high:r t9=some (.int (hi:Nat))
 pairs:r A8=some (.ref at_)
 mks:r v8=some (.ref a)
 bef:r a1X=some (.ref b)
variable {at_ d:Nat}
theorem b1S {o p:Nat} {Q:v9} (v:MV N at_ a b r) (ha:H a=some (.list (iL mk))) (M:TM (N+1) ps mk) (A:N<=6) (I:r N8=some (.int (o:Nat))) (L:r y7=some (.int (p:Nat))) (n:o < N+1) (s:p < N+1) (Z:∀ E,TC (N+1) ps E->E o p)
  (q:∀ u F i B,m7 H F->MV N at_ i b u->F i=some (.list (iL B))->TM (N+1) ps B->((B=mk/\j6 mk o=j6 mk p)\/B.sum < mk.sum)->Q .next u F) :
  (d9 (p9 (R4 [(m5 a8u),(m5 a8v)]) (P9 .sorted (d7 (G0 (d7 (k8 (d6 v8) (d6 N8)) (d7 (k8 (d6 v8) (d6 y7)) f4))) f4)))
   (d9 (p9 (m5 v8) (A9 (a1D (y8 .eq (d6 a3J) (d6 a8v)) (d6 a8u) (d6 a3J)) [a3J] true (D8 (d6 v8)) J4))
   m6)) K r H Q:=by
 have Y:mk.length<=17:=by rw[M.len];exact zo4 A
 have J:o < mk.length:=by rw[M.len];exact n
 have O:p < mk.length:=by rw[M.len];exact s
 obtain ⟨l,h,t,x⟩:∃ l h,Two mk o p l h/\(T0 [(j6 mk o:Int),(j6 mk p:Int)]).map f5.int=[.int (l:Nat),.int (h:Nat)]:=by
  rcases c7O (j6 mk o) (j6 mk p) with z | z
  ·exact ⟨_,_,⟨z,.inl ⟨rfl,rfl⟩⟩,by rw[(b4L ..)];rw[(Int.min_eq_left (c8F z))];rw[(Int.max_eq_right (c8F z))];rfl⟩
  ·exact ⟨_,_,⟨z,.inr ⟨rfl,rfl⟩⟩,by rw[(b4L ..)];rw[(Int.min_eq_right (c8F z))];rw[(Int.max_eq_left (c8F z))];rfl⟩
 refine g8 (w6 (P0 (d8 (V1 (d8 (a0O v.mks ha Y I J (d8 (a0O v.mks ha Y L O (g9 λc D=>g9 (a17 (l:=[(j6 mk o:Int),(j6 mk p:Int)]) l9 (c7d rfl) λd G=>?_))))))))));rw[x];refine a4W (.inr ⟨d,rfl,l9⟩) ?_;have j:=(m7.new (o:=.list [.int (j6 mk o:Nat),.int (j6 mk p:Nat)]) D).trans (.new (o:=.list [.int (l:Nat),.int (h:Nat)]) G);have e:(mk.flatMap λm=>[iV (if m=h then l else m)])=iL (a09 mk l h):=by rw[(J5 ..)];unfold iL a09;rw[c7U];rfl
 have W:((r.set a8u (.int (l:Nat))).set a8v (.int (h:Nat))) v8=some (.ref a):=v.mks;refine g8 (w6 (Y4 (l:=mk) (f:=iV) (g:=λm=>[iV (if m=h then l else m)]) (by rw[e];rw[(m9 ..)];rw[a59];exact l5 Y) (a4R λR C=>f6 W (C a _ (.refl _) (j _ _ ha))) (λm X F k P U=>?_) λF w k V=>z0 ?_))
 ·have U:=U F (.refl _);refine O9 (a3o (B9 (f6 rfl (f6 rfl (a6r ⟨λt=>f6 (v:=.int (l:Nat)) rfl ?_,λt=>f6 rfl ?_⟩)))))
  ·rwa [c7X (Int.ofNat.inj (c7n t))] at U
  ·rwa [c7W λe=>c78 t (by rw[e];rfl)] at U
 ·rw[e];refine q _ _ w _ (j.trans (k.trans (.new V))) ⟨v.high,v.pairs,rfl,v.bef⟩ l9 (M.step n s t Z) (eAA (b2w (mk:=mk) t.1) λ_ S T=>?_);by_cases z:l=h
  ·refine .inl ⟨T z,?_⟩;rcases t.2 with y | y
   ·refine w3 y.1 ?_;refine w3 y.2 ?_;exact z
   ·refine w3 y.1 ?_;refine w3 y.2 ?_;exact z.symm
  ·refine .inr (S ?_ z);rcases t.2 with y | y
   ·rw[y.2];exact c7e (a27 O)
   ·rw[y.2];exact c7e (a27 J)
theorem b3c {Q:v9} (v:MV N at_ a b r) (ha:H a=some (.list (iL mk))) (M:TM (N+1) ps mk) (F:N<=6) (pl:ps.length<=5) (D:r x8=some (.ref d)) (U:H d=none)
  (q:∀ n B,m7 H B->MV N at_ a b n->n x8=some (.ref d)->B d=some (.list ((ps++a1C mk N).map K0))->Q .next n B) :
  S4 [N8] true (K8 (d7 (d6 t9) f4))
   (d9 (r8 (i8 (d6 x8) Q9 (d7 (A9 (B6 (d7 (p7 .add (d6 N8) (h9 (.int 1))) (d7 (p7 .add (d6 y7) (h9 (.int 1))) f4))) [y7] true (K8 (d7 (d6 N8) f4)) (Q8 (y8 .eq (k8 (d6 v8) (d6 N8)) (k8 (d6 v8) (d6 y7))) J4)) f4)))
   m6) K r (H.set d (.list (ps.map K0))) Q:=by
 have u:mk.length<=17:=by rw[M.len];exact zo4 F
 refine a13 (d8 (f6 v.high (g9 (a1k (by unfold o9;exact c5h F) (λi O R=>m7 H R/\MV N at_ a b O/\O x8=some (.ref d)/\R d=some (.list ((ps++a1C mk i).map K0))) ⟨.new U,v,D,by rw[(show a1C mk 0=[] from rfl)];rw[(c8d ..)];exact l9⟩ (λO R z=>q O R z.1 z.2.1 z.2.2.1 z.2.2.2) λi O R V z W C _=>?_))))
 refine b3d z λm Z o j=>?_;clear z;have s:i < mk.length:=by rw[M.len];exact zo1 V
 have w:=b3b (mk:=mk) i (c2Z F V)
 let g:Nat->List f5:=λx=>if decide (j6 mk i=j6 mk x) then [K0 (i+1,x+1)] else []
 have p:((List.range i).flatMap g).length<=i:=by
  show ((List.range i).flatMap λx=>if decide (j6 mk i=j6 mk x) then [K0 (i+1,x+1)] else []).length<=i
  rw[a6z];rw[(c7f ..)];exact c7g (List.length_filter_le ..) (c7z c70)
 have y:a1C mk (i+1)=a1C mk i++((List.range i).filter λx=>decide (j6 mk i=j6 mk x)).map λx=>(i+1,x+1):=by
  unfold a1C;rw[List.range_succ];rw[List.flatMap_append];rw[List.flatMap_cons];rw[List.flatMap_nil];rw[(c8d ..)];rfl
 have e:(ps++a1C mk i).map K0++(List.range i).flatMap g=(ps++a1C mk (i+1)).map K0:=by
  show (ps++a1C mk i).map K0++((List.range i).flatMap λx=>if decide (j6 mk i=j6 mk x) then [K0 (i+1,x+1)] else [])=_
  rw[y];rw[a6z];refine w3 (List.append_assoc ..) ?_;refine Eq.trans ?_ (c7T ..).symm;rw[c7U];rfl
 refine g8 (B4 (a26 (n8 o) j (d8 (Y4 (l:=List.range i) (f:=iV) (g:=g) (c7g p (by unfold o9;exact c5w F V)) (b3E (k:=i) (by unfold o9;exact c5w F V) λQ A=>d8 (f6 rfl (g9 (A _ (.refl _))))) (λx E B k P J=>?_) λB c k h=>g9 (a2S (k.trans (m7.new h) _ _ j) l9 (λe=>?_) ?_ ?_)))))
 ·have G:=c8D E;have J:=J B (.refl _);have Y:((O.set N8 (.int (i:Nat))).set y7 (iV x)) v8=some (.ref a):=Z.mks;refine Z7 (B9 (a0O Y (k _ _ (m _ _ ha)) u (show _=some (f5.int (i:Nat)) from rfl) s (a0O Y (k _ _ (m _ _ ha)) u (show _=some (f5.int (x:Nat)) from rfl) (by exact c77 G s) (a6r ⟨λt=>a3T ⟨λ_=>I4 (d8 (w9 (f6 rfl (m0 (s6 (d8 (w9 (f6 rfl (m0 (s6 (g9 ?_))))))))))),(λz=>nomatch z)⟩,λt=>⟨(λz=>nomatch z),λ_=>?_⟩⟩))))
  ·rw [show g x=[K0 (i+1,x+1)] from c7X (c76 (Int.ofNat.inj (c7n t)))] at J;exact J
  ·rw [show g x=[] from c7W λe=>c78 t (c7o Nat.cast (c7n e))] at J;exact J
 ·subst e;rw [k _ _ j] at h;cases h
 ·rw[(c7f ..)];rw[c7P];unfold o9;exact c45 F pl V w p
 ·rw[e];have I:H d=none:=U;exact C _ _ ⟨(m.trans (k.trans (.new h))).put I,⟨Z.high,Z.pairs,Z.mks,Z.bef⟩,o,l9⟩
section
variable {n:Nat}
theorem a9D (U:H at_=some (.list (ps.map K0))) (m:N<=6) (pl:ps.length<=5) (pt:∀ p∈ps,p.1 < N+1/\p.2 < N+1)
  (q:∀ x a mk,m7 H x->x a=some (.list (iL mk))->TM (N+1) ps mk->TF (N+1) ps mk->Q (.ref a) x):(j3 FT (n+1)).call 0 a1n [.int (N:Nat),.ref at_] H Q:=by
 refine s9 rfl rfl (g8 (w6 (I4 (d8 (b67 (w9 (f6 rfl (m0 (s6 ⟨(N+1:Nat),rfl,by unfold o9;exact c01,by unfold o9;exact c1z m,λa ha=>d8 (V1 (g9 λb E=>g9 (a4W (.inl rfl) ?_)))⟩)))))))))
 rw [a05] at E ⊢;refine g8 (a54 (λk M l=>∃ Z A mk J,m7 H l/\MV N at_ Z A M/\l Z=some (.list (iL mk))/\l A=some (.list (iL J))/\TM (N+1) ps mk/\(mk=J->TF (N+1) ps mk)/\k=if mk=J then 0 else mk.sum+1) _
  ⟨a,b,List.range (N+1),[],(m7.new ha).trans (.new E),⟨rfl,rfl,rfl,rfl⟩,m7.new E _ _ l9,l9,tm0,(λe=>by rw [List.range_succ] at e;exact c7Y e (List.append_ne_nil_of_right_ne_nil _ (λh=>nomatch h))),rfl⟩ λk M l hI W hW=>?_)
 obtain ⟨Z,A,mk,J,G,F,f,T,Y,S,rfl⟩:=hI;have ml:mk.length<=17:=by rw[Y.len];exact zo4 m
 refine B9 (f6 F.mks (f6 F.bef (c0q f T ⟨λt=>?_,λt=>?_⟩)))
 ·have ne:mk≠J:=λe=>by rw [decide_eq_true e] at t;cases t
  rw [if_neg ne] at hW;clear t T S;have p1:=G _ _ U;refine g8 (w6 (I4 (d8 (P0 (d8 (f6 F.mks (g9 (b0F f (by rw[(m9 ..)];exact l5 ml) λc s=>d8 (P0 (d8 (f6 F.pairs (g9 (b0F (m7.new s _ _ p1) (by rw[(c7f ..)];unfold o9;exact c1y pl) λd hd=>g9 (a4W (.inl rfl) ?_))))))))))))))
  refine g8 (b3c (r:=(M.set a1X (.ref c)).set x8 (.ref d)) (a:=Z) (b:=c) (at_:=at_) (mk:=mk) ⟨F.high,F.pairs,F.mks,rfl⟩ (m7.new s _ _ f) Y m pl rfl hd λr2 H2 I v2 d2 X=>?_);have c2:=I c _ l9;have K:=G.trans ((m7.new s).trans I);refine g8 (a3Q (f6 d2 (a2h X ⟨_,a2H (src:=.lst d) ((ps++a1C mk N).map K0) (λi j O=>∃ R B,m7 H2 O/\MV N at_ R c j/\O R=some (.list (iL B))/\TM (N+1) ps B/\((B=mk/\∀ p∈(ps++a1C mk N).take i,j6 mk p.1=j6 mk p.2)\/B.sum < mk.sum)) (λi j O z=>by refine A6 z λ_ _ K _=>?_;clear z;exact ⟨_,K _ _ X,rfl⟩) (λj O z=>?_) (λi w j O hw z W' D _=>?_) _ 0 _ _ (c7y _) (c7q _) ⟨Z,mk,.refl _,v2,I _ _ (m7.new s _ _ f),Y,.inl ⟨rfl,λp U=>nomatch U⟩⟩⟩)))
  ·refine B0 z λR B u V C y v=>?_;clear z;refine hW _ j O ?_ ⟨R,c,B,mk,K.trans u,V,C,u _ _ c2,y,λe=>?_,rfl⟩
   ·by_cases e:B=mk
    ·rw[(c7X e)];exact c7S _
    ·rw[(c7W e)];exact Nat.succ_lt_succ (v.resolve_left λh=>e h.1)
   ·rw[e];refine b1p (N:=N) ?_;rcases v with h | h
    ·have:=h.2;rwa [c7f,c8c] at this
    ·rw [e] at h;exact c7Y h (c7J _)
  ·refine B0 z λR B u V C y v=>?_;clear z;rw [List.getElem?_map] at hw;refine j5 (c8v hw) λp U q1=>?_;subst q1;refine eA (b5R Y pt (c7e U)) λq2 P=>eA q2 λlp lq=>?_;clear q2;refine ⟨_,a7w,b1S (a:=R) (b:=c) (o:=p.1) (p:=p.2) ⟨V.high,V.pairs,V.mks,V.bef⟩ C y m rfl rfl lp lq P λr5 H5 a5 L k5 v5 h5 M5 s5=>D _ _ ⟨a5,L,u.trans k5,v5,h5,M5,?_⟩⟩
   rcases v with h | h
   ·rcases s5 with g | g
    ·refine .inl ⟨g.1.trans h.1,λt ht=>?_⟩;rw [List.take_add_one,U] at ht;rcases c8w ht with ht | ht
     ·exact h.2 t ht
     ·rw[(c8x ht)];refine w3 h.1 ?_;exact g.2
    ·exact .inr (h.1▸g)
   ·refine .inr (c7k ?_ h);rcases s5 with g | g
    ·rw[g.1];exact c7l _
    ·exact c74 g
 ·have e:mk=J:=by
   cases e:decide (mk=J) with
   | true=>exact c7n e
   | false=>rw [e] at t;cases t
  refine g8 (G4 (f6 F.mks ?_));exact q _ _ _ G f Y (S e)
variable {pos:Pos}
noncomputable def Ht (D:Nat->Prop) (lo:Nat) (hi:Int):Prop:=D lo/\(∀ d,D d->lo<=d)/\((hi=-1/\∀ B,∃ d,B<=d/\D d)\/∃ g:Nat,hi=g/\D g/\∀ d,D d->d<=g)
inductive Dp (N:Nat) (mk bs:List Nat):Nat->Nat->Prop
 | leaf {b:Nat}:b∈bs->Dp N mk bs 1 (j6 mk b)
 | f {d j:Nat}:Dp N mk bs d (j6 mk j)->j+1 < N->Dp N mk bs (d+1) (j6 mk (j+1))
structure La (N:Nat) (mk:List Nat) (L ring:Nat) (ag:Bool):Prop where
 pos:0 < L
 LN:L<=N
 fix:∀ i,i < L->j6 mk i=i
 yes:ag=true->L < N/\ring < L/\j6 mk L=ring
 no:ag=false->L=N/\ring=N
noncomputable def pl (L ring b:Nat):Nat->Nat
 | 0=>b
 | s+1=>if pl L ring b s+1 < L then pl L ring b s+1 else ring
noncomputable def hiO (ag:Bool) (ring p i:Nat):Int:=if ag=true then (if ring<=p then -1 else (p:Int)+1) else (i:Int)+1
variable {L:Nat}{bs nr:List Nat}{ring:Nat}{ag:Bool}
theorem La.low (A:La N mk L ring ag) (M:TM N ps mk) (F:TF N ps mk):∀ i,i < N->j6 mk i < L:=by
 intro i;induction i with
 | zero=>intro _;rw[(A.fix 0 A.pos)];exact A.pos
 | succ i J =>
  intro h;have q:=J (zo3 h);have B:j6 mk (i+1)=j6 mk (j6 mk i+1):=F.suc i _ h (by have:=A.LN;have:=M.le i (zo3 h);exact c5D h this) (M.idem i (zo3 h)).symm
  rw[B];by_cases z:j6 mk i+1 < L
  ·rw[(A.fix _ z)];exact z
  ·have e:j6 mk i+1=L:=by exact b9C q z
   rw[e];cases ag with
   | true=>rw[((A.yes rfl).2.2)];exact (A.yes rfl).2.1
   | false=>have:=(A.no rfl).1;have:=M.le i (zo3 h);exact c4Y h z ‹_› this
theorem La.nxt (A:La N mk L ring ag) (M:TM N ps mk) (F:TF N ps mk) (h:i+1 < N):j6 mk (i+1)=(if j6 mk i+1 < L then j6 mk i+1 else ring)/\(ag=false->j6 mk i+1 < L):=by
 have B:=A.low M F i (zo3 h);have q:=M.le i (zo3 h);have J:j6 mk (i+1)=j6 mk (j6 mk i+1):=F.suc i _ h (c5D h q) (M.idem i (zo3 h)).symm;rw[J];by_cases z:j6 mk i+1 < L
 ·rw[(c7X z)];rw[(A.fix _ z)];exact ⟨rfl,λ_=>z⟩
 ·rw[(c7W z)];have e:j6 mk i+1=L:=by exact b9C B z
  cases ag with
  | true=>rw[e];exact ⟨(A.yes rfl).2.2,λh=>nomatch h⟩
  | false=>have:=(A.no rfl).1;exact (c4l h q z this).elim
theorem La.path (A:La N mk L ring ag) (M:TM N ps mk) (F:TF N ps mk) (U:∀ b∈bs,b < N) {d m:Nat} (h:Dp N mk bs d m):∃ b s,b∈bs/\d=s+1/\m=pl L ring (j6 mk b) s/\(ag=false->j6 mk b+s < L/\m=j6 mk b+s):=by
 induction h with
 | @leaf b h=>exact ⟨b,0,h,rfl,rfl,λ_=>⟨A.low M F b (U b h),rfl⟩⟩
 | @f d j _ hj ih =>
  refine J6 ih λb s B J O R=>?_;clear ih;refine eA (A.nxt M F hj) λq V=>⟨b,s+1,B,by rw[J];rfl,?_,λe=>?_⟩
  ·rw[q];show _=if pl L ring (j6 mk b) s+1 < L then pl L ring (j6 mk b) s+1 else ring
   refine w3 O ?_;rfl
  ·have:=(R e).2;have:=V e;rw[q];rw[(c7X this)];exact c4P ‹_› this
structure Nr (N:Nat) (mk bs:List Nat) (L ring:Nat) (ag:Bool) (ok:Nat->Nat->Prop) (nr:List Nat):Prop where
 len:nr.length=L
 in_:∀ p,p < L->j6 nr p=N+1\/Dp N mk bs (j6 nr p) p
 low:∀ b s,b∈bs->ok b s->s < L->(ag=false->j6 mk b+s < L)->j6 nr (pl L ring (j6 mk b) s)<=s+1
theorem b6r (A:La N mk L ring ag):∀ s,s < L->pl L ring (j6 mk 0) s=s:=by
 intro s;induction s with
 | zero=>exact λ_=>A.fix 0 A.pos
 | succ s q =>
  intro h;show (if pl L ring (j6 mk 0) s+1 < L then pl L ring (j6 mk 0) s+1 else ring)=_
  rw[(q (zo3 h))];rw[(c7X h)];rfl
theorem La.dp0 (A:La N mk L ring ag) (h0:0∈bs):∀ p,p < L->Dp N mk bs (p+1) p:=by
 intro p;induction p with
 | zero=>intro h;have:=Dp.leaf (N:=N) (mk:=mk) h0;rwa [A.fix 0 h] at this
 | succ p q =>
  intro h;have:=Dp.f (j:=p) (by rw[(A.fix p (zo3 h))];exact q (zo3 h)) (by have:=A.LN;exact c3d h this)
  rwa [A.fix _ h] at this
theorem La.dp_le (A:La N mk L ring ag) (M:TM N ps mk) (F:TF N ps mk) (O:∀ b∈bs,b < N) {d m:Nat} (h:Dp N mk bs d m):(ag=true->m < ring)->d<=m+1:=by
 induction h with
 | leaf _=>exact λ_=>c8m (c7q _)
 | @f d j _ hj ih =>
  intro B;refine eA (A.nxt M F hj) λq J=>?_;by_cases z:j6 mk j+1 < L
  ·rw [if_pos z] at q;rw [q] at B ⊢;have:=ih λe=>by have:=B e;exact zo3 this
   exact c2r this
  ·rw [if_neg z] at q;cases ag with
   | true=>have:=B rfl;exact c3Q q this
   | false=>exact c7Y (J rfl) z
theorem La.dp_up (A:La N mk L ring ag) (e:ag=true) (h0:0∈bs):∀ B p,ring<=p->p < L->∃ d,B<=d/\Dp N mk bs d p:=by
 refine eAA (A.yes e) λU W V=>?_;intro B;induction B with
 | zero=>exact λp _ h=>⟨p+1,c7q _,A.dp0 h0 p h⟩
 | succ B R =>
  intro p O q;by_cases z:p=ring
  ·refine j5 (R (L - 1) (c39 q z) (c5t q)) λd F J=>⟨d+1,by exact c7G F 1,?_⟩
   have:=Dp.f (j:=L - 1) (by rw[(A.fix _ (c5t q))];exact J) (c3q U q)
   rwa [show L - 1+1=L by exact c2J q,V,<-z] at this
  ·refine j5 (R (p - 1) (c2x O z) (c5l q)) λd F J=>⟨d+1,by exact c7G F 1,?_⟩
   have:=Dp.f (j:=p - 1) (by rw[(A.fix _ (c5l q))];exact J) (c36 U q)
   rwa [show p - 1+1=p by exact c21 O z,A.fix _ q] at this
theorem Nr.ht (R:Nr N mk bs L ring ag (λ_ _=>True) nr) (A:La N mk L ring ag) (M:TM N ps mk) (F:TF N ps mk) (h0:0∈bs) (O:∀ b∈bs,b < N) (W:i < N):Ht (Dp N mk bs · (j6 mk i)) (j6 nr (j6 mk i)) (hiO ag ring (j6 mk i) i):=by
 have q:=A.low M F i W;have Y:j6 nr (j6 mk i)<=j6 mk i+1:=by
  have:=R.low 0 (j6 mk i) h0 trivial q (λ_=>by rw[(A.fix 0 A.pos)];rw[(Nat.zero_add ..)];exact q)
  rwa [b6r A _ q] at this
 have Z:=A.LN;have U:=A.dp0 (bs:=bs) h0 _ q;refine ⟨(R.in_ _ q).resolve_left (c4J q Y Z),λd J=>?_,?_⟩
 ·refine J6 (A.path M F O J) λb s a V c f=>?_;by_cases z:s < L
  ·rw[V];rw[c];exact R.low b s a trivial z λe=>(f e).1
  ·exact c40 q Y V z
 ·unfold hiO;cases ag with
  | false =>
   rw[(c7W c7u)];refine eA (A.no rfl) λg _=>?_;have e:=A.fix i (by exact Nat.lt_of_lt_of_eq W (id (Eq.symm g)))
   exact .inr ⟨i+1,rfl,by have:=U;rw [e] at this ⊢;exact this,λd J=>by have:=A.dp_le M F O J (λh=>nomatch h);rwa [e] at this⟩
  | true =>
   rw[(c7X rfl)];by_cases z:ring<=j6 mk i
   ·rw[(c7X z)];exact .inl ⟨rfl,λB=>A.dp_up rfl h0 B _ z q⟩
   ·rw[(c7W z)];exact .inr ⟨j6 mk i+1,rfl,U,λd J=>A.dp_le M F O J λ_=>Nat.lt_of_not_le z⟩
variable {h:Nat}
theorem b5W {t:List Nm} {b:En->Hp->v9->Prop} {src:Src} {Q:v9} (l:List f5) (I:Nat->En->Hp->Prop)
  (a:∀ i r H,I i r H->src.next H i l[i]?) (Y:∀ r H,I l.length r H->Q .next r H)
  (h:∀ i v r H,l[i]?=some v->I i r H->∀ W:v9,(∀ F B,I (i+1) F B->W .next F B)->(∀ F B,Q .next F B->W .brk F B)->∃ V,a0k t one v r V/\b V H W) :
  ∀ m i r H,l.length - i < m->i<=l.length->I i r H->a4f t one b src m i r H Q:=by
 intro m;induction m with
 | zero=>intro _ _ _ U _ _;exact c7Y U (c8p _)
 | succ m c =>
  intro i r H U Z O;refine ⟨l[i]?,a i r H O,λe=>?_,λv e=>?_⟩
  ·rw [List.getElem?_eq_none_iff] at e;obtain rfl:i=l.length:=Nat.le_antisymm Z e;exact Y r H O
  ·have J:=(c8r e).1;exact h i v r H e O _ (λF B R=>c (i+1) F B (by exact c7v (Nat.sub_succ_lt_self _ _ J) (c7A U)) J R) λF B q=>q
end
variable {h:Nat}
theorem b3p {b:Bv} {Q:v9} (U:m<=o9) (I:Nat->En->Hp->Prop) (h0:I 0 r H) (c:∀ r H,I m r H->Q .next r H)
  (h:∀ (i:Nat) (r:En) (H:Hp),i < m->I i r H->∀ W:v9,(∀ B q,I (i+1) B q->W .next B q)->(∀ B q,Q .next B q->W .brk B q)->b K (r.set x (.int (i:Nat))) H W):itR [.int (m:Nat)] H λsrc Z=>∃ n,a4f [x] true (b K) src n 0 r Z Q :=
 .inl ⟨m,rfl,by have:=U;exact b9x,by have:=U;exact c8F U,_,b5W (src:=.seq (Q3 0 (m:Nat))) (Q3 0 (m:Nat)) I (λ_ _ _ _=>rfl) (λr H J=>c r H (by rwa [a05,m9,c70] at J)) (λi v r H F J W O R=>by
  rw [a05] at F;unfold iL at F;rw [List.getElem?_map] at F;refine j5 (c8v F) λj a d=>?_;subst d;refine eE (c8r a) λV Y=>?_;rw [List.length_range] at V;rw [List.getElem_range] at Y;subst Y;exact ⟨_,N0,h i r H V J W O R⟩) _ 0 r H (c7y _) (c7q _) h0⟩
theorem a4o {as:Lv} (F:∀ Q:l7,Q (.ref a) H->e K r H Q) (B:H a=some (.list xs)) (h:as K r H λvs q=>N5 K (.lst .index) (.ref a) P6 vs q Q):i8 e P6 as K r H Q:=F _ ⟨.lst .index,⟨⟨a,xs,rfl,B⟩,rfl⟩,h⟩
theorem a6i {L p:Nat} (h:H a=some (.list (iL (List.range L)))) (J:L<=17) (F:p < L) (q:Q (iV p) H):N5 K (.lst .index) (.ref a) P6 [iV p] H Q:=by
 refine ⟨a,_,rfl,h,(List.range L).map Int.ofNat,(p:Nat),p,rfl,(a1z _).symm,?_,?_,λk B=>?_,q⟩
 ·rw[(c7f ..)];rw[c70];exact l5 J
 ·rw[c7m];refine b9 (List.getElem?_range F) ?_;rfl
 ·rw[c7m];refine b9 (List.getElem?_range (by exact c77 B F)) ?_
  exact λe=>c7Y (Int.ofNat.inj (c7p e)) (c7F B)
theorem b6h (q:Q (.int (min i j:Nat)) H):biW .min [.int (i:Nat),.int (j:Nat)] H Q :=
 ⟨i,j,rfl,by rw[(show min (i:Int) (j:Int)=((min i j:Nat):Int) by exact c5k)];exact q⟩
theorem a6E {l:List Nat}:(iL l).isEmpty=l.isEmpty:=by cases l <;> rfl
variable {L:Nat}{bs nr ags:List Nat}{ring:Nat}{ag:Bool}
theorem c0n (M:TM N ps mk) (O:0 < N) (e:ags=(List.range N).filter λn=>decide (j6 mk n < n)):(ags=[]/\La N mk N N false)\/∃ L t,ags=L :: t/\La N mk L (j6 mk L) true:=by
 have B:∀ i,i < N->i∉ags->j6 mk i=i:=λi h n=>Nat.le_antisymm (M.le i h) (Nat.le_of_not_lt λl=>n (by rw[e];exact List.mem_filter.mpr ⟨c8C h,c76 l⟩))
 cases ags with
 | nil=>exact .inl ⟨rfl,O,c7l _,λi h=>B i h c7E,(λh=>nomatch h),λ_=>⟨rfl,rfl⟩⟩
 | cons L t =>
  have R:L∈(List.range N).filter λn=>decide (j6 mk n < n):=e▸c7j;refine eA (List.mem_filter.mp R) λF J=>?_;have F:=c8D F;have J:=c7n J;have q:(L :: t).Pairwise (· < ·):=e▸List.Pairwise.filter _ List.pairwise_lt_range;have first:=(List.pairwise_cons.mp q).1
  exact .inr ⟨L,t,rfl,c7k (c7q _) J,c74 F,λi h=>B i (c77 h F) λz=>by
   rcases c8z z with z | z
   ·exact c7Y z (c7F h)
   ·exact c7Y (first i z) (Nat.not_lt.mpr (c74 h)),λ_=>⟨F,J,rfl⟩,(λh=>nomatch h)⟩
theorem La.line (A:La N mk L ring ag) (M:TM N ps mk):mk.take L=List.range L:=by
 have q:=A.LN;refine List.ext_getElem? λi=>?_;by_cases h:i < L
 ·refine b9 (List.getElem?_take_of_lt h) ?_;refine b9 (List.getElem?_range h) ?_;refine b9 (a27 (by rw[M.len];exact c4f q h)) ?_;rw[(A.fix i h)];rfl
 ·refine b9 (c7I (by rw[List.length_take];exact c4j h)) ?_;refine b9 (c7I (by rw[c70];exact b5p h)) ?_;rfl
theorem La.pl_lt (A:La N mk L ring ag) (M:TM N ps mk) (F:TF N ps mk) {b:Nat} (J:b < N):∀ s,(ag=false->j6 mk b+s < L)->pl L ring (j6 mk b) s < L/\(ag=false->pl L ring (j6 mk b) s=j6 mk b+s):=by
 intro s;induction s with
 | zero=>exact λ_=>⟨A.low M F b J,λ_=>rfl⟩
 | succ s O =>
  intro B;refine eA (O λe=>by have:=B e;exact c5x this) λR q=>?_
  show (if pl L ring (j6 mk b) s+1 < L then pl L ring (j6 mk b) s+1 else ring) < L/\(_->(if pl L ring (j6 mk b) s+1 < L then pl L ring (j6 mk b) s+1 else ring)=_)
  by_cases z:pl L ring (j6 mk b) s+1 < L
  ·rw[(c7X z)];exact ⟨z,λe=>by rw[(q e)];rfl⟩
  ·rw[(c7W z)];cases ag with
   | true=>exact ⟨(A.yes rfl).2.1,λh=>nomatch h⟩
   | false=>have:=B rfl;have:=q rfl;exact (c5N z ‹_› this).elim
theorem La.dp_path (A:La N mk L ring ag) (M:TM N ps mk) (F:TF N ps mk) {b:Nat} (U:b∈bs) (R:b < N):∀ s,(ag=false->j6 mk b+s < L)->Dp N mk bs (s+1) (pl L ring (j6 mk b) s):=by
 intro s;induction s with
 | zero=>exact λ_=>.leaf U
 | succ s V =>
  intro J;have q:ag=false->j6 mk b+s < L:=λe=>by have:=J e;exact c5x this
  have d:=V q;refine eA (A.pl_lt M F R s q) λB W=>?_;have O:=A.LN;have d:Dp N mk bs (s+1) (j6 mk (pl L ring (j6 mk b) s)):=by rw[(A.fix _ B)];exact d
  show Dp N mk bs (s+1+1) (if pl L ring (j6 mk b) s+1 < L then pl L ring (j6 mk b) s+1 else ring)
  by_cases z:pl L ring (j6 mk b) s+1 < L
  ·rw[(c7X z)];have:=d.f (by exact c7v z O)
   rwa [A.fix _ z] at this
  ·rw[(c7W z)];have e:pl L ring (j6 mk b) s+1=L:=by exact b9C B z
   cases ag with
   | true =>
    have:=d.f (by rw[e];exact (A.yes rfl).1)
    rwa [e,(A.yes rfl).2.2] at this
   | false=>have:=J rfl;have:=W rfl;exact (c5N z ‹_› this).elim
theorem Nr.step (A:La N mk L ring ag) (M:TM N ps mk) (F:TF N ps mk) {Z U:Nat->Nat->Prop} {b s:Nat} (R:Nr N mk bs L ring ag Z nr) (i:b∈bs) (W:b < N) (v:ag=false->j6 mk b+s < L)
  (more:∀ J O,U J O->(ag=false->j6 mk J+O < L)->Z J O\/(J=b/\O=s)):Nr N mk bs L ring ag U (nr.set (pl L ring (j6 mk b) s) (min (j6 nr (pl L ring (j6 mk b) s)) (s+1))):=by
 refine eA (A.pl_lt M F W s v) λj _=>?_;have B:∀ q,j6 (nr.set (pl L ring (j6 mk b) s) (min (j6 nr (pl L ring (j6 mk b) s)) (s+1))) q=if q=pl L ring (j6 mk b) s then min (j6 nr (pl L ring (j6 mk b) s)) (s+1) else j6 nr q:=λq=>by
  by_cases e:q=pl L ring (j6 mk b) s
  ·rw[(c7X e)];exact a4p (by rw[e];refine b9 (List.getElem?_set_self (by rw[R.len];exact j)) ?_;rfl)
  ·rw[(c7W e)];show List.getD (List.set nr _ _) q q=List.getD nr q q;rw[c7w];rw[c7w];refine b9 (List.getElem?_set_ne λz=>e z.symm) ?_;rfl
 have k:∀ q,j6 (nr.set (pl L ring (j6 mk b) s) (min (j6 nr (pl L ring (j6 mk b) s)) (s+1))) q<=j6 nr q:=λq=>by
  rw[(B ..)]
  split
  ·rename_i e;rw[e];exact Nat.min_le_left _ _
  ·exact c7l _
 refine ⟨List.length_set.trans R.len,λp Y=>?_,λJ O d f g V=>?_⟩
 ·rw[(B ..)]
  split
  ·rename_i e;rcases c7O (j6 nr (pl L ring (j6 mk b) s)) (s+1) with z | z
   ·rw[(Nat.min_eq_left z)];refine w3 e ?_;exact R.in_ p Y
   ·rw[(Nat.min_eq_right z)];rw[e];exact .inr (A.dp_path M F i W s v)
  ·exact R.in_ p Y
 ·rcases more J O f V with h | ⟨a,c⟩
  ·exact c7g (k _) (R.low J O d h g V)
  ·rw[a];rw[c];rw[(B ..)];rw[(c7X rfl)];exact Nat.min_le_right _ _
variable {L:List El}
structure WV (h ab am ga al an ring:Nat) (r:En):Prop where
 high:r t9=some (.int (h:Nat))
 beg:r F7=some (.ref ab)
 mks:r v8=some (.ref am)
 again:r K5=some (.ref ga)
 ring:r Y3=some (.int (ring:Nat))
 line:r F0=some (.ref al)
 near:r U4=some (.ref an)
structure WH (mk bs ags:List Nat) (ab am ga al L:Nat) (H:Hp):Prop where
 beg:H ab=some (.list (iL bs))
 mks:H am=some (.list (iL mk))
 again:H ga=some (.list (iL ags))
 line:H al=some (.list (iL (List.range L)))
theorem WH.keep {mk bs ags:List Nat} {ab am ga B L:Nat} {H q:Hp} (X:WH mk bs ags ab am ga B L H) (k:m7 H q):WH mk bs ags ab am ga B L q:=⟨k _ _ X.beg,k _ _ X.mks,k _ _ X.again,k _ _ X.line⟩
variable {hs:List Int}{L:Nat}{Hb:Hp}{ab am ga al an:Nat}
theorem b3e (v:WV h ab am ga al an ring r) (X:WH mk bs ags ab am ga al L H) (B:L<=17) (q:Q (.int (L:Nat)) H):P9 .len (d7 (d6 F0) f4) K r H Q :=
 P0 (d8 (f6 v.line (g9 (L9 X.line (by rw[(m9 ..)];rw[c70];exact l5 B) (by rw[(m9 ..)];rw[c70];exact q)))))
theorem b2p {p s:Nat} {Q:v9} (v:WV h ab am ga al an ring r) (w:m7 Hb H) (X:WH mk bs ags ab am ga al L Hb) (y:Hb an=none) (l:H an=some (.list (iL nr))) (R:L<=17) (g:nr.length=L) (U:r o8=some (.int (p:Nat))) (u:r a1o=some (.int (s:Nat))) (m:p < L) (O:ags.isEmpty=!ag) (x:ag=true->ring < L)
  (n:ag=false->p+1=L->∀ F B,m7 Hb B->WV h ab am ga al an ring F->B an=some (.list (iL (nr.set p (min (j6 nr p) (s+1)))))->Q .brk F B)
  (j:∀ F B,m7 Hb B->WV h ab am ga al an ring F->B an=some (.list (iL (nr.set p (min (j6 nr p) (s+1)))))->F o8=some (.int ((if p+1 < L then p+1 else ring:Nat):Nat))->(ag=false->p+1 < L)->Q .next F B) :
  (d9 (p9 (a0B (d6 U4) (d6 o8)) (P9 .min (d7 (k8 (d6 U4) (d6 o8)) (d7 (p7 .add (h9 (.int 1)) (d6 a1o)) f4))))
   (d9 (U9 (Q8 (y8 .eq (p7 .add (d6 o8) (h9 (.int 1))) (P9 .len (d7 (d6 F0) f4))) (Q8 (y8 .eq (d6 K5) (G0 f4)) J4))
    (d9 b6w
    m6)
    m6)
   (d9 (p9 (m5 o8) (a1D (y8 .lt (p7 .add (d6 o8) (h9 (.int 1))) (P9 .len (d7 (d6 F0) f4))) (p7 .add (d6 o8) (h9 (.int 1))) (i8 (d6 F0) P6 (d7 (d6 Y3) f4))))
   m6))) K r H Q:=by
 have Y:p < nr.length:=by rw[g];exact m
 refine g8 (w6 (P0 (d8 (a0O v.near l (by rw[g];exact R) U Y (d8 (w9 (m0 (f6 u (s6 (g9 ?_))))))))))
 rw[(show (1:Int)+((s:Nat):Int)=((s+1:Nat):Int) by exact Int.add_comm _ _)]
 refine b6h (a8L (n8 v.near) (n8 U) l (by rw[(m9 ..)];exact Y) (by rw[(m9 ..)];rw[g];exact l5 R) ?_)
 rw[b3y];generalize nr.set p (min (j6 nr p) (s+1))=q at n j ⊢;have V:m7 Hb (H.set an (.list (iL q))):=w.put y;have Z:(H.set an (.list (iL q))) an=some (.list (iL q)):=l9;generalize H.set an (.list (iL q))=o at V Z ⊢;have b:=X.keep V;have k:∀ a,m7 o a->(ag=false->p+1 < L)->(d9 (p9 (m5 o8) (a1D (y8 .lt (p7 .add (d6 o8) (h9 (.int 1))) (P9 .len (d7 (d6 F0) f4))) (p7 .add (d6 o8) (h9 (.int 1))) (i8 (d6 F0) P6 (d7 (d6 Y3) f4)))) m6) K r a Q:=λa W i=>by
  have d:=b.keep W;refine g8 (w6 (a3o (B9 (w9 (f6 U (m0 (s6 (b3e v d R (lt_int ⟨λt=>w9 (f6 U (m0 (s6 (z0 ?_)))),λt=>a4o (n8 v.line) d.line (d8 (f6 v.ring (g9 (a6i d.line R ?_ (z0 ?_)))))⟩)))))))))
  ·have t:=c7n t;exact j _ _ (V.trans W) ⟨v.high,v.beg,v.mks,v.again,v.ring,v.line,v.near⟩ (W _ _ Z) (by rw[(c7X (c1L t))];rfl) i
  ·have t:=c78 t;refine x ?_;cases ag with
   | true=>rfl
   | false=>have:=i rfl;exact (c25 t this).elim
  ·have t:=c78 t;exact j _ _ (V.trans W) ⟨v.high,v.beg,v.mks,v.again,v.ring,v.line,v.near⟩ (W _ _ Z) (by rw[(c7W (c26 t))];rfl) i
 refine g8 (W9 (Z7 (B9 (w9 (f6 U (m0 (s6 (b3e v b R (a6r ⟨λt=>Z7 (B9 (f6 v.again (a9i b.again λc f=>⟨λJ=>a3T ⟨λ_=>?_,(λz=>nomatch z)⟩,λJ=>⟨(λz=>nomatch z),λ_=>?_⟩⟩))),λt=>⟨(λz=>nomatch z),λ_=>?_⟩⟩)))))))))
 ·rw [a6E,O] at J;have t:=c7n t;refine n (by cases ag with | true=>cases J | false=>rfl) (c1M t) _ _ (V.trans (.new f)) v (m7.new f _ _ Z)
 ·rw [a6E,O] at J;exact k _ (.new f) λe=>by rw [e] at J;cases J
 ·have t:=c78 t;exact k _ (.refl _) λ_=>by exact c2e m t
theorem a80 {b:Nat} {Y i:Nat->Nat->Prop} {Q:v9} (v:WV h ab am ga al an ring r) (P:m7 Hb H) (X:WH mk bs ags ab am ga al L Hb) (n0:Hb an=none) (hn:H an=some (.list (iL nr))) (m:L<=17) (w:ags.isEmpty=!ag) (A:La N mk L ring ag) (M:TM N ps mk) (F:TF N ps mk) (hN:N<=17)
  (R:Nr N mk bs L ring ag Y nr) (hb:r V7=some (.int (b:Nat))) (I:b∈bs) (f:b < N) (more:∀ B J,i B J->Y B J\/B=b)
  (q:∀ r' o g,m7 Hb o->WV h ab am ga al an ring r'->o an=some (.list (iL g))->Nr N mk bs L ring ag i g->Q .next r' o) :
  (d9 (p9 (m5 o8) (i8 (d6 F0) P6 (d7 (k8 (d6 v8) (d6 V7)) f4)))
  (d9 (S4 [a1o] true (K8 (d7 (P9 .len (d7 (d6 F0) f4)) f4))
   (d9 (p9 (a0B (d6 U4) (d6 o8)) (P9 .min (d7 (k8 (d6 U4) (d6 o8)) (d7 (p7 .add (h9 (.int 1)) (d6 a1o)) f4))))
   (d9 (U9 (Q8 (y8 .eq (p7 .add (d6 o8) (h9 (.int 1))) (P9 .len (d7 (d6 F0) f4))) (Q8 (y8 .eq (d6 K5) (G0 f4)) J4))
    (d9 b6w
    m6)
    m6)
   (d9 (p9 (m5 o8) (a1D (y8 .lt (p7 .add (d6 o8) (h9 (.int 1))) (P9 .len (d7 (d6 F0) f4))) (p7 .add (d6 o8) (h9 (.int 1))) (i8 (d6 F0) P6 (d7 (d6 Y3) f4))))
   m6))))
  m6)) K r H Q:=by
 have k:=X.keep P;have ml:b < mk.length:=by rw[M.len];exact f
 have S:=A.low M F b f;refine g8 (w6 (a4o (n8 v.line) k.line (d8 (a0O v.mks k.mks (by rw[M.len];exact hN) hb ml (g9 (a6i k.line m S (z0 ?_)))))))
 have v1:WV h ab am ga al an ring (r.set o8 (iV (j6 mk b))):=⟨v.high,v.beg,v.mks,v.again,v.ring,v.line,v.near⟩;refine g8 (a13 (d8 (b3e v1 k m (g9 (b3p (l5 m) (λs a c=>∃ O,m7 Hb c/\WV h ab am ga al an ring a/\c an=some (.list (iL O))/\Nr N mk bs L ring ag (λB J=>Y B J\/(B=b/\J < s)) O/\(s < L->a o8=some (.int (pl L ring (j6 mk b) s:Nat))/\(ag=false->j6 mk b+s < L)))
  ⟨nr,P,v1,hn,⟨R.len,R.in_,λB J Z d l u=>R.low B J Z (d.resolve_right λz=>c8p _ z.2) l u⟩,λ_=>⟨rfl,λ_=>S⟩⟩ (λa c z=>?_) λs a c hs z W hW hB=>?_)))))
 ·refine a4E z λO x U C V _=>?_;clear z;exact q a c O x U C ⟨V.len,V.in_,λB J Z d l u=>V.low B J Z ((more B J d).imp id λe=>⟨e,l⟩) l u⟩
 ·refine a4E z λO x U C V P2=>?_;clear z;refine eA (P2 hs) λp2 E=>eA (A.pl_lt M F f s E) λl1 T=>?_;have v3:WV h ab am ga al an ring (a.set a1o (.int (s:Nat))):=⟨U.high,U.beg,U.mks,U.again,U.ring,U.line,U.near⟩;refine b2p (p:=pl L ring (j6 mk b) s) (s:=s) (ag:=ag) v3 x X n0 C m V.len p2 rfl l1 w (λe=>(A.yes e).2.1) (λt e2 n j y G D=>?_) λn j y G D p3 o3=>?_
  ·refine hB n j (q n j _ y G D (Nr.step (b:=b) (s:=s) A M F V I f E ?_));intro B J h Y;rcases more B J h with h | h
   ·exact .inl (.inl h)
   ·have:=Y t;have:=T t;rw [h] at Y;have:=Y t;rcases Nat.lt_or_eq_of_le (show J<=s by exact c4Z e2 ‹_› this) with z | z
    ·exact .inl (.inr ⟨h,z⟩)
    ·exact .inr ⟨h,z⟩
  ·refine hW n j ⟨_,y,G,D,Nr.step (b:=b) (s:=s) A M F V I f E λB J h _=>?_,λ_=>⟨p3,λe=>?_⟩⟩
   ·rcases h with h | ⟨Z,d⟩
    ·exact .inl (.inl h)
    ·rcases Nat.lt_or_eq_of_le (c7A d) with z | z
     ·exact .inl (.inr ⟨Z,z⟩)
     ·exact .inr ⟨Z,z⟩
   ·have:=o3 e;rw [T e] at this;exact this
noncomputable def A0 (o:Nat×Int):f5:=.tup [.int (o.1:Nat),.int o.2]
variable {p:Nat×Nat}{L:List El}
theorem b7U {e i:Ev} (h:e K r H λv q=>i K r q λw B=>b7N v w B Q):a9h e i K r H Q:=h
theorem b39 {a k x:Nat} (h:H a=some (.list [iV x])) (B:k<=100) (q:∀ b,H b=none->Q (.ref b) (H.set b (.list (iL (List.replicate k x))))):a3q .mul (.ref a) (.int (k:Nat)) H Q :=
 .inr ⟨a,iV x,k,rfl,rfl,h,B,by rw[List.length_replicate];unfold o9;exact c7g B (c7d rfl),λb F=>by have:=q b F;unfold iL at this;rwa [List.map_replicate] at this⟩
structure W0 (h ab am ga:Nat) (r:En):Prop where
 high:r t9=some (.int (h:Nat))
 beg:r F7=some (.ref ab)
 mks:r v8=some (.ref am)
 again:r K5=some (.ref ga)
theorem b1P {b:Bv} {Q:v9} (v:W0 h ab am ga r) (f:H am=some (.list (iL mk))) (V:H ga=some (.list (iL ags))) (D:H ab=some (.list (iL bs))) (M:TM (h+1) ps mk) (W:h<=6) (e:ags=(List.range (h+1)).filter λn=>decide (j6 mk n < n))
  (q:∀ U a L ring ag F g,m7 H a->La (h+1) mk L ring ag->ags.isEmpty=!ag->WV h ab am ga F g ring U->WH mk bs ags ab am ga F L a->a g=none->b K U (a.set g (.list (iL (List.replicate L (h+1+1))))) Q) :
  (d9 (p9 (m5 Y3) (a1D (y8 .ne (d6 K5) (G0 f4)) (k8 (d6 v8) (k8 (d6 K5) (h9 (.int 0)))) (p7 .add (d6 t9) (h9 (.int 1)))))
  (d9 (p9 (m5 F0) (a1D (y8 .ne (d6 K5) (G0 f4)) (a9h (d6 v8) (k8 (d6 K5) (h9 (.int 0)))) (d6 v8)))
  (d9 (p9 (m5 U4) (p7 .mul (G0 (d7 (p7 .add (d6 t9) (h9 (.int 2))) f4)) (P9 .len (d7 (d6 F0) f4)))) b))) K r H Q:=by
 have C:mk.length<=17:=by rw[M.len];exact zo4 W
 have R:∀ U Z L ring ag F,m7 H Z->La (h+1) mk L ring ag->ags.isEmpty=!ag->W0 h ab am ga U->U Y3=some (.int (ring:Nat))->U F0=some (.ref F)->Z F=some (.list (iL (List.range L))) ->
   (d9 (p9 (m5 U4) (p7 .mul (G0 (d7 (p7 .add (d6 t9) (h9 (.int 2))) f4)) (P9 .len (d7 (d6 F0) f4)))) b) K U Z Q:=λU Z L ring ag F k A E v G w u=>by
  have p:=A.LN;have y:(iL (List.range L)).length=L:=by rw[(m9 ..)];rw[c70];rfl
  refine g8 (w6 (w9 (V1 (d8 (w9 (f6 v.high (m0 (s6 (g9 λc B=>P0 (d8 (f6 w (g9 (L9 (m7.new B _ _ u) (by rw[y];exact l5 (b9E W p)) ?_)))))))))))))
  rw [y,show ((h:Nat):Int)+2=((h+1+1:Nat):Int) by exact c0Y] at *
  exact b39 l9 (c20 W p) λd J=>z0 (q _ _ L ring ag F d (k.trans (.new B)) A E ⟨v.high,v.beg,v.mks,v.again,G,w,rfl⟩ ⟨m7.new B _ _ (k _ _ D),m7.new B _ _ (k _ _ f),m7.new B _ _ (k _ _ V),m7.new B _ _ u⟩ J)
 rcases c0n M (c7S h) e with ⟨j,A⟩ | ⟨L,t,j,A⟩
 ·subst j;refine g8 (w6 (a3o (B9 (f6 v.again (a3N V λc B=>⟨(λz=>nomatch z),λ_=>w9 (f6 v.high (m0 (s6 (z0 ?_))))⟩)))))
  have O:m7 H _:=m7.new (o:=.list []) B;have Y:W0 h ab am ga (r.set Y3 (.int ((h:Int)+1))):=⟨v.high,v.beg,v.mks,v.again⟩;refine g8 (w6 (a3o (B9 (f6 Y.again (a3N (O _ _ V) λd J=>⟨(λz=>nomatch z),λ_=>f6 Y.mks (z0 ?_)⟩)))))
  refine R _ _ (h+1) (h+1) false am (O.trans (.new J)) A rfl ⟨v.high,v.beg,v.mks,v.again⟩ rfl rfl ?_;rw[((O.trans (.new J)) _ _ f)];refine w3 (A.line M) ?_;refine w3 M.len ?_;rw[c8c];rfl
 ·subst j;refine eAA (A.yes rfl) λm I N=>?_;have s:(iL (L :: t)).length<=o9:=by
   rw[(m9 ..)];rw[e];exact c7g (List.length_filter_le ..) (by rw[c70];exact l5 (zo4 W))
  refine g8 (w6 (a3o (B9 (f6 v.again (a3N V λc B=>⟨λ_=>B2 (f6 v.mks (B2 (f6 v.again (m0 (D9 (i:=0) (x:=iV L) (m7.new B _ _ V) s rfl (D9 (m7.new B _ _ f) (by rw[(m9 ..)];exact l5 C) (b7x (by rw[M.len];exact m)) (z0 ?_))))))),(λz=>nomatch z)⟩)))))
  have O:m7 H _:=m7.new (o:=.list []) B;have Y:W0 h ab am ga (r.set Y3 (.int (j6 mk L:Nat))):=⟨v.high,v.beg,v.mks,v.again⟩;refine g8 (w6 (a3o (B9 (f6 Y.again (a3N (O _ _ V) λd J=>⟨λ_=>b7U (f6 Y.mks (B2 (f6 Y.again (m0 (D9 (i:=0) (x:=iV L) ((O.trans (.new J)) _ _ V) s rfl ?_))))),(λz=>nomatch z)⟩)))))
  refine ⟨mk.map Int.ofNat,(L:Nat),rfl,c7C _,by unfold o9;exact c2W W m,by rw[(c7f ..)];exact l5 C,.inr ⟨am,rfl,by rw[(a1z ..)];exact (O.trans (.new J)) _ _ f⟩,by rw[(c7f ..)];rw[List.length_take];exact c7g (Nat.min_le_left _ _) (by unfold o9;exact c2X W m),λF l=>z0 ?_⟩
  rw [<- List.map_take,a1z,Int.toNat_natCast,A.line M] at *;exact R _ _ L (j6 mk L) true F ((O.trans (.new J)).trans (.new l)) A rfl ⟨v.high,v.beg,v.mks,v.again⟩ rfl rfl l9
section
variable {u:f5}{n:Nat}
theorem b2t {am ga Z a td ring L i:Nat} {mk ags nr:List Nat} {ag:Bool} {told:List (Nat×Int)} {W:v9} (v:WV h ab am ga Z a ring r) (X:WH mk bs ags ab am ga Z L H) (p:H a=some (.list (iL nr))) (ht:H td=some (.list (told.map A0))) (C:r a0Q=some (.ref td)) (n:r n_n=some (.int (i:Nat))) (A:La (h+1) mk L ring ag) (M:TM (h+1) ps mk) (F:TF (h+1) ps mk) (m:h<=6) (d:nr.length=L) (s:i < h+1) (U:ags.isEmpty=!ag) (E:told.length<=17)
  (q:∀ g k,m7 H k->WV h ab am ga Z a ring g->g a0Q=some (.ref td)->W .next g (k.set td (.list ((told++[(j6 nr (j6 mk i),hiO ag ring (j6 mk i) i)]).map A0)))) :
  (d9 (p9 (m5 o8) (i8 (d6 F0) P6 (d7 (k8 (d6 v8) (d6 n_n)) f4)))
  (d9 (r8 (i8 (d6 a0Q) m8 (d7 (a1D (y8 .ne (d6 K5) (G0 f4)) (B6 (d7 (k8 (d6 U4) (d6 o8)) (d7 (a1D (y8 .ge (d6 o8) (i8 (d6 F0) P6 (d7 (d6 Y3) f4))) (K3 (h9 (.int 1))) (p7 .add (d6 o8) (h9 (.int 1)))) f4))) (B6 (d7 (k8 (d6 U4) (d6 o8)) (d7 (p7 .add (d6 n_n) (h9 (.int 1))) f4)))) f4)))
  m6)) K r H W:=by
 have D:mk.length<=17:=by rw[M.len];exact zo4 m
 have f:=A.low M F i s;have y:=A.LN;have b:L<=17:=by exact b9E m y
 refine g8 (w6 (a4o (n8 v.line) X.line (d8 (a0O v.mks X.mks D n (by rw[M.len];exact s) (g9 (a6i X.line b f (z0 ?_)))))))
 have R:WV h ab am ga Z a ring (r.set o8 (iV (j6 mk i))):=⟨v.high,v.beg,v.mks,v.again,v.ring,v.line,v.near⟩;have O:(r.set o8 (iV (j6 mk i))) a0Q=some (.ref td):=C;have Y:(r.set o8 (iV (j6 mk i))) o8=some (.int (j6 mk i:Nat)):=rfl;have V:(r.set o8 (iV (j6 mk i))) n_n=some (.int (i:Nat)):=n;have j:(told.map A0).length<=o9:=by rw[(c7f ..)];exact l5 E
 generalize r.set o8 (iV (j6 mk i))=u at R O Y V ⊢;have J:∀ {x:Int} {c:Nat},H c=none->hiO ag ring (j6 mk i) i=x->N5 K (.lst .append) (.ref td) m8 [.tup [.int (j6 nr (j6 mk i):Nat),.int x]] (H.set c (.list [])) λ_ w=>W .next u w:=λB e=>by
  refine H9 (m7.new B _ _ ht) j ?_;have:=q u _ (m7.new (o:=.list []) B) R O;rw [e,List.map_append] at this;exact this
 refine g8 (B4 (E9 (n8 O) ht (d8 (a3o (B9 (f6 R.again (a3N X.again λc B=>⟨λt=>?_,λt=>?_⟩)))))))
 ·rw [a6E,U,Bool.not_not] at t;subst t;have l:=X.keep (.new (o:=.list []) B);refine I4 (d8 (a0O R.near (m7.new B _ _ p) (by rw[d];exact b) Y (by rw[d];exact f) (d8 (a3o (B9 (f6 Y (a4o (n8 R.line) l.line (d8 (f6 R.ring (g9 (a6i l.line b (A.yes rfl).2.1 ⟨_,_,rfl,rfl,λt=>a36 (m0 ⟨1,rfl,g9 (g9 (J B ?_))⟩),λt=>w9 (f6 Y (m0 (s6 (g9 (g9 (J B ?_))))))⟩)))))))))))
  ·have t:=c7n t;unfold hiO;rw[(c7X rfl)];rw[(c7X (Int.ofNat_le.mp t))];rfl
  ·have t:=c78 t;unfold hiO;rw[(c7X rfl)];rw[(c7W λz=>t (c8F z))];rfl
 ·rw [a6E,U,Bool.not_not] at t;subst t;refine I4 (d8 (a0O R.near (m7.new B _ _ p) (by rw[d];exact b) Y (by rw[d];exact f) (d8 (w9 (f6 V (m0 (s6 (g9 (g9 (J B ?_))))))))))
  unfold hiO;rw[(c7W c7u)];rfl
theorem b0c (hp:H at_=some (.list (ps.map K0))) (a0:H ab=some (.list (iL bs))) (O:h<=6) (pl:ps.length<=5) (pt:∀ p∈ps,p.1 < h+1/\p.2 < h+1) (b0:0∈bs) (bl:∀ b∈bs,b < h+1)
  (q:∀ D a (told:List (Nat×Int)) mk,m7 H D->D a=some (.list (told.map A0))->TM (h+1) ps mk->TF (h+1) ps mk->told.length=h+1->(∀ i,i < h+1->∃ o,told[i]?=some o/\Ht (Dp (h+1) mk bs · (j6 mk i)) o.1 o.2)->Q (.ref a) D) :
  (j3 FT (n+2)).call 0 Z0 [.int (h:Nat),.ref at_,.ref ab] H Q:=by
 refine s9 rfl rfl (g8 (w6 (P1 (d8 (f6 rfl (d8 (f6 rfl (g9 (a9D hp O pl pt λH1 am mk k1 hm M F=>z0 ?_)))))))));have ml:mk.length<=17:=by rw[M.len];exact zo4 O
 let ags:=(List.range (h+1)).filter λx=>decide (j6 mk x < x)
 have ge:((List.range (h+1)).flatMap λx=>if decide (j6 mk x < x) then [iV x] else [])=iL ags:=a6z
 have gl:ags.length<=17:=c7g (List.length_filter_le ..) (by rw[c70];exact zo4 O)
 refine g8 (w6 (Y4 (l:=List.range (h+1)) (f:=iV) (g:=λx=>if decide (j6 mk x < x) then [iV x] else []) (by rw[ge];rw[(m9 ..)];exact l5 gl) (b3E (k:=h+1) (by unfold o9;exact c5g O) λQ hQ=>d8 (w9 (f6 rfl (m0 (s6 (g9 (hQ _ (.refl _)))))))) (λx hx D k P hP=>?_) λH2 ga k2 a1=>z0 ?_))
 ·have lx:=c8D hx;have hP:=hP D (.refl _);refine Z7 (B9 (a0O (y:=v8) (x:=n_n) rfl (k _ _ hm) ml (show _=some (f5.int (x:Nat)) from rfl) (by rw[M.len];exact lx) (f6 rfl (lt_int ⟨λt=>a3T ⟨λ_=>f6 rfl ?_,(λz=>nomatch z)⟩,λt=>⟨(λz=>nomatch z),λ_=>?_⟩⟩))))
  ·have t:=Int.ofNat_lt.mp (c7n t);rwa [c7X (c76 t)] at hP
  ·have t:=c78 t;rwa [c7W λz=>t (c8E (c7n z))] at hP
 ·rw[ge];have k3:=k2.trans (.new (o:=.list (iL ags)) a1);refine b1P (h:=h) (ab:=ab) (am:=am) (ga:=ga) (mk:=mk) (bs:=bs) (ags:=ags) (ps:=ps) ⟨rfl,rfl,rfl,rfl⟩ (k3 _ _ hm) l9 (k3 _ _ (k1 _ _ a0)) M O rfl λr4 T L ring ag al E k4 A G v4 X Y=>?_;have LN:=A.LN;have hl:L<=17:=by exact b9E O LN
  have kk:=k1.trans (k3.trans k4);have a2:Nr (h+1) mk bs L ring ag (λb _=>∃ k,k < 0/\bs[k]?=some b) (List.replicate L (h+1+1)):=⟨List.length_replicate,λp hp=>.inl (a4p (List.getElem?_replicate_of_lt hp)),λb s _ h=>h.elim λk z=>c7Y z.1 (c8p _)⟩;refine g8 (a3Q (f6 v4.beg (a2h ((m7.new Y) _ _ X.beg) ⟨_,a2H (src:=.lst ab) (iL bs) (λi C c=>∃ nr,m7 T c/\WV h ab am ga al E ring C/\c E=some (.list (iL nr))/\Nr (h+1) mk bs L ring ag (λb _=>∃ k,k < i/\bs[k]?=some b) nr) (λi C c z=>by refine j5 z λ_ u _=>?_;clear z;exact ⟨_,u _ _ X.beg,rfl⟩) (λC c z=>?_) (λi w C c hw z W hW _=>?_) _ 0 _ _ (c7y _) (c7q _) ⟨_,.new Y,v4,l9,a2⟩⟩)))
  ·refine N1 z λnr u B n5 d=>?_;clear z;rw [m9] at d;have R:Nr (h+1) mk bs L ring ag (λ_ _=>True) nr:=⟨d.len,d.in_,λb s h1 _ h3 h4=>d.low b s h1 ((c8A h1).imp λk e=>⟨(c8r e).1,e⟩) h3 h4⟩;refine g8 (w6 (V1 (g9 λtd J=>z0 ?_)));have ne:E≠td:=λe=>by rw [<- e,n5] at J;cases J
   have tb:T td=none:=by
    cases e:T td with
    | none=>rfl
    | some o=>rw [u _ _ e] at J;cases J
   refine g8 (a13 (d8 (w9 (f6 (show (C.set a0Q (.ref td)) t9=some (.int (h:Nat)) from B.high) (m0 (s6 (g9 (a1k (r:=C.set a0Q (.ref td)) (H:=c.set td (.list [])) (m:=h+1) (by unfold o9;exact c5g O) (λi S V=>∃ told:List (Nat×Int),m7 T V/\WV h ab am ga al E ring S/\S a0Q=some (.ref td)/\V E=some (.list (iL nr))/\V td=some (.list (told.map A0))/\told.length=i/\∀ j,j < i->told[j]?=some (j6 nr (j6 mk j),hiO ag ring (j6 mk j) j))
    ⟨[],u.trans (.new J),⟨B.high,B.beg,B.mks,B.again,B.ring,B.line,B.near⟩,rfl,m7.new J _ _ n5,l9,rfl,λj hj=>c7Y hj (c8p _)⟩ (λS V z=>?_) λi S V I z W hW _=>?_))))))))
   ·refine a7P z λtold v U t6 N h6 Z a6=>?_;clear z;refine g8 (G4 (f6 t6 ?_));exact q V td told mk (kk.trans v) h6 M F Z λi I=>⟨_,a6 i I,R.ht A M F b0 bl I⟩
   ·refine a7P z λtold v U t6 N h6 Z a6=>?_;clear z;refine b2t (ps:=ps) (mk:=mk) (nr:=nr) (ag:=ag) (i:=i) (told:=told) (td:=td) ⟨U.high,U.beg,U.mks,U.again,U.ring,U.line,U.near⟩ (X.keep v) N h6 t6 rfl A M F O R.len I G (c3Y O I Z) λr7 H7 k7 v7 t7=>hW _ _ ⟨_,(v.trans k7).put tb,v7,t7,(J9 ne).trans (k7 _ _ N),l9,by rw[c7P];rw[Z];rfl,λj hj=>?_⟩
    by_cases z:j=i
    ·subst z;refine b9 (List.getElem?_append_right (by exact c7z Z)) ?_;rw[Z];rw[(Nat.sub_self ..)];rfl
    ·rw[(c8h (c3P Z hj z))];exact a6 j (b9A hj z)
  ·refine N1 z λnr u B n5 d=>?_;clear z;unfold iL at hw;rw [List.getElem?_map] at hw;refine j5 (c8v hw) λb hb q1=>?_;subst q1;have K:=c7e hb;refine ⟨_,N0,a80 (b:=b) (ps:=ps) (mk:=mk) (bs:=bs) (ags:=ags) ⟨B.high,B.beg,B.mks,B.again,B.ring,B.line,B.near⟩ u X Y n5 hl G A M F (zo4 O) d rfl K (bl b K) (λb' s' z=>?_) λS V a3 v U N R6=>hW _ _ ⟨a3,v,U,N,R6⟩⟩
   refine j5 z λk h1 h2=>?_;clear z;rcases Nat.lt_or_eq_of_le (c7A h1) with y | y
   ·exact .inl ⟨k,y,h2⟩
   ·rw [y,hb] at h2;exact .inr (c7p h2).symm
noncomputable def tow (h:Nat):List M9:=("x",[]) :: (List.range h).map λi=>("f",[i])
noncomputable def yz (j:Nat):String:=if j=0 then "y" else "z"
noncomputable def lvs (k:Nat):List M9:=(List.range k).map λj=>(yz j,[])
noncomputable def gN (p:Nat×Nat):M9:=("g",[p.1,p.2])
noncomputable def base (h k:Nat) (gs:List (Nat×Nat)):List M9:=tow h++lvs k++gs.map gN
inductive NK (h k:Nat) (gs:List (Nat×Nat)) (a b:Nat):Nat->M9->Prop
 | x:NK h k gs a b 0 ("x",[])
 | f {i:Nat}:i < h->NK h k gs a b (i+1) ("f",[i])
 | l {j:Nat}:j < k->NK h k gs a b (h+1+j) (yz j,[])
 | g {j:Nat} {p:Nat×Nat}:gs[j]?=some p->NK h k gs a b (h+1+k+j) (gN p)
 | gg:NK h k gs a b (h+1+k+gs.length) ("g",[a,b])
structure Hs (h k:Nat) (bs:List Nat) (ps gs lh:List (Nat×Nat)) (a b:Nat) (nd:List M9):Prop where
 nd:nd=base h k gs++[("g",[a,b])]
 bl:bs.length=k+1
 b0:bs[0]?=some 0
 bt:∀ x∈bs,x < h+1
 gl:∀ p∈gs,p.1 < h+1/\p.2 < h+1
 k2:k<=2
 ab:(∃ j,j < gs.length/\a=h+1+k+j)/\∃ j,j < gs.length/\b=h+1+k+j
 tie:∀ t,t∈lh↔t∈ps\/∃ j y,j < k/\bs[j+1]?=some y/\t=(h+1+j,y)
noncomputable def vl (h k:Nat) (bs:List Nat) (gs:List (Nat×Nat)) (mk:List Nat) (i:Nat):Nat×Nat×Nat :=
 if i < h+1 then (0,j6 mk i,0) else if i < h+1+k then (0,j6 mk (bs.getD (i - h) 0),0) else match gs[i - (h+1+k)]? with
  | some p=>(1,j6 mk p.1,j6 mk p.2)
  | none=>(i+2,0,0)
end
variable {u:f5}{gs:List (Nat×Nat)}{nd:List M9}
theorem W1:(tow h).length=h+1:=by unfold tow;rw[c72];rw[(c7f ..)];rw[c70];rfl
theorem a4n:(lvs k).length=k:=by unfold lvs;rw[(c7f ..)];rw[c70];rfl
theorem Q7:(base h k gs).length=h+1+k+gs.length:=by unfold base;rw[c7P];rw[c7P];rw[W1];rw[a4n];rw[(c7f ..)];rfl
theorem a8P:(tow h)[0]?=some ("x",[]):=rfl
theorem a8O (q:i < h):(tow h)[i+1]?=some ("f",[i]):=by
 unfold tow;refine b9 List.getElem?_cons_succ ?_;rw[c7m];refine b9 (List.getElem?_range q) ?_;rfl
theorem b8E (q:j < k):(lvs k)[j]?=some (yz j,[]):=by unfold lvs;rw[c7m];refine b9 (List.getElem?_range q) ?_;rfl
theorem a1J (q:i < h+1):(base h k gs)[i]?=(tow h)[i]?:=by
 unfold base;rw[(List.append_assoc ..)];refine b9 (c8h (by rw[W1];exact q)) ?_;rfl
theorem a4i (q:j < k):(base h k gs)[h+1+j]?=some (yz j,[]):=by
 unfold base;refine b9 (c8h (by rw[c7P];rw[W1];rw[a4n];exact c5B q)) ?_;refine b9 (List.getElem?_append_right (by rw[W1];exact c1T)) ?_;rw[W1];rw[(Nat.add_sub_cancel_left ..)];rw[(b8E q)];rfl
theorem a8Z:(base h k gs)[h+1+k+j]?=gs[j]?.map gN:=by
 unfold base;refine b9 (List.getElem?_append_right (by rw[c7P];rw[W1];rw[a4n];exact b9G)) ?_;rw[c7P];rw[W1];rw[a4n];rw[(Nat.add_sub_cancel_left ..)];rw[c7m];rfl
theorem Hs.len (S:Hs h k bs ps gs lh a b nd):nd.length=h+1+k+gs.length+1:=by rw[S.nd];rw[c7P];rw[Q7];rfl
theorem Hs.nth (S:Hs h k bs ps gs lh a b nd) {x:M9}:nd[i]?=some x↔NK h k gs a b i x:=by
 have B:∀ {i:Nat},i < h+1+k+gs.length->nd[i]?=(base h k gs)[i]?:=λq=>by rw[S.nd];refine b9 (c8h (by rw[Q7];exact q)) ?_;rfl
 constructor
 ·intro e;have q:=(c8r e).1;rw [S.len] at q;by_cases F:i < h+1
  ·rw [B (c5J F),a1J F] at e;cases i with
   | zero=>rw [a8P] at e;exact c7p e▸.x
   | succ i=>rw [a8O (zo2 F)] at e;exact c7p e▸.f (zo2 F)
  ·by_cases J:i < h+1+k
   ·obtain ⟨j,rfl⟩:∃ j,i=h+1+j:=⟨i - (h+1),by exact b7a F⟩
    rw [B (c4k J),a4i (b7c J)] at e;exact c7p e▸.l (b7c J)
   ·obtain ⟨j,rfl⟩:∃ j,i=h+1+k+j:=⟨i - (h+1+k),by exact b9H J⟩
    by_cases R:j < gs.length
    ·rw [B (c5M R),a8Z] at e;refine j5 (c8v e) λp O V=>?_;subst V;exact .g O
    ·obtain rfl:j=gs.length:=by exact c4G q R
     rw [S.nd,List.getElem?_append_right (by rw[Q7];exact Nat.le_refl _),Q7,Nat.sub_self] at e
     exact c7p e▸.gg
 ·intro e;cases e with
  | x=>rw[(B (c3b))];rw[(a1J (zo7))];exact a8P
  | f q=>rw[(B (c4r q))];rw[(a1J (zo0 q))];exact a8O q
  | l U=>rw[(B (c4y U))];exact a4i U
  | @g j p O =>
   have:=(c8r O).1;rw[(B (c5M this))];rw[a8Z];rw[O];rfl
  | gg=>rw[S.nd];refine b9 (List.getElem?_append_right (by rw[Q7];exact c7l _)) ?_;rw[Q7];rw[(Nat.sub_self ..)];rfl
theorem Z6 (q:i < h+1):vl h k bs gs mk i=(0,j6 mk i,0):=c7X q
theorem b5d {j y:Nat} (q:j < k) (B:bs[j+1]?=some y):vl h k bs gs mk (h+1+j)=(0,j6 mk y,0):=by
 unfold vl;rw[(c7W (c27))];rw[(c7X (c5B q))];rw[(show h+1+j - h=j+1 by exact c1Q)];rw[c7w];rw[B];rfl
theorem a4h (q:gs[j]?=some p):vl h k bs gs mk (h+1+k+j)=(1,j6 mk p.1,j6 mk p.2):=by
 unfold vl;rw[(c7W (c5G))];rw[(c7W (c5H))];rw[(Nat.add_sub_cancel_left ..)];rw[q];rfl
theorem b02:vl h k bs gs mk (h+1+k+gs.length)=(h+1+k+gs.length+2,0,0):=by
 unfold vl;rw[(c7W (c5G))];rw[(c7W (c5H))];rw[(Nat.add_sub_cancel_left ..)];rw[(c7I (c7l _))];rfl
theorem Hs.ab_v (S:Hs h k bs ps gs lh a b nd):(∃ p,p∈gs/\vl h k bs gs mk a=(1,j6 mk p.1,j6 mk p.2))/\∃ p,p∈gs/\vl h k bs gs mk b=(1,j6 mk p.1,j6 mk p.2):=by
 refine b8n S.ab λF j B O=>j5 F λi q J=>?_;clear F;subst J;subst O;exact ⟨⟨_,List.getElem_mem q,a4h (c7h q)⟩,_,List.getElem_mem B,a4h (c7h B)⟩
theorem Hs.cong (S:Hs h k bs ps gs lh a b nd) (F:TF (h+1) ps mk) (H:∀ p∈ps,p.1 < h+1/\p.2 < h+1):a37 nd lh λi j=>vl h k bs gs mk i=vl h k bs gs mk j:=by
 refine ⟨λ_=>rfl,λ_ _ e=>e.symm,λ_ _ _ e v=>e.trans v,λt ht=>?_,λi j x y m O J B R=>?_⟩
 ·rcases (S.tie t).mp ht with z | ⟨j,y,A,o,rfl⟩
  ·refine eA (H t z) λZ G=>?_;rw[(Z6 Z)];rw[(Z6 G)];rw[(F.tie t z)];rfl
  ·rw[(b5d A o)];rw[(Z6 (S.bt y (c7e o)))];rfl
 ·have m:=S.nth.mp m;have O:=S.nth.mp O;have n:∀ {p:Nat×Nat},p∈gs->vl h k bs gs mk p.1=vl h k bs gs mk a->False:=λW e=>by
   refine eA (S.ab_v (mk:=mk)) λu _=>j5 u λq _ B=>?_;clear u;rw [Z6 (S.gl _ W).1,B] at e;cases e
  have C:∀ {j:Nat},yz j="y"\/yz j="z":=λ{j}=>by unfold yz;split;exact .inl rfl;exact .inr rfl
  have no:∀ {j:Nat} {s:String},s≠"y"->s≠"z"->yz j≠s:=λD E e=>(C.elim (λz=>D (e.symm.trans z)) λz=>E (e.symm.trans z));cases m with
  | x=>cases O with
   | x=>rfl
   | f _=>cases B
   | l _=>exact c7Y J.symm (no (by decide) (by decide))
   | g _=>cases B
   | gg=>cases B
  | f U=>cases O with
   | x=>cases B
   | f V =>
    have:=R 0 _ _ rfl rfl;rw [Z6 (zo1 U),Z6 (zo1 V)] at this;rw[(Z6 (zo0 U))];rw[(Z6 (zo0 V))];rw[(F.suc _ _ (zo0 U) (zo0 V) (c7o (·.2.1) this))];rfl
   | l _=>cases B
   | g _=>cases B
   | gg=>cases B
  | l U=>cases O with
   | x=>exact c7Y J (no (by decide) (by decide))
   | f _=>cases B
   | @l j V =>
    rename_i i;have:i=j:=by
     have:=S.k2;have J:yz i=yz j:=J;unfold yz at J;by_cases z:i=0
     ·by_cases w:j=0
      ·exact c2g z w
      ·rw [if_pos z,if_neg w] at J;exact c7Y J (by decide)
     ·by_cases w:j=0
      ·rw [if_neg z,if_pos w] at J;exact c7Y J (by decide)
      ·exact c3t U V this z w
    rw[this];rfl
   | g _=>cases B
   | gg=>cases B
  | g W=>cases O with
   | x=>cases B
   | f _=>cases B
   | l _=>cases B
   | g Y =>
    have c:=R 0 _ _ rfl rfl;have d:=R 1 _ _ rfl rfl;have Z:=S.gl _ (c7e W);have r:=S.gl _ (c7e Y);rw [Z6 Z.1,Z6 r.1] at c;rw [Z6 Z.2,Z6 r.2] at d;have c:j6 mk _=j6 mk _:=c7o (·.2.1) c;have d:j6 mk _=j6 mk _:=c7o (·.2.1) d;rw[(a4h W)];rw[(a4h Y)];rw[c];rw[d];rfl
   | gg=>exact (n (c7e W) (R 0 _ _ rfl rfl)).elim
  | gg=>cases O with
   | x=>cases B
   | f _=>cases B
   | l _=>cases B
   | g Y=>exact (n (c7e Y) (R 0 _ _ rfl rfl).symm).elim
   | gg=>rfl
theorem b1m {V:List (Nat×Nat)} {st:St} (I:K1 V st) (D:a1B st) (w:st.wt=[]):a37 st.nd V λa b=>f9 st.up a=f9 st.up b :=
 ⟨λ_=>rfl,λ_ _ e=>e.symm,λ_ _ _ e W=>e.trans W,I.told,λi j x y Z c F B Y=>by
  have e:A5 st.up x=A5 st.up y:=by
   unfold A5;rw[F]
   congr 1
   refine List.ext_getElem? λq=>?_;rw[c7m];rw[c7m];by_cases h:q < x.2.length
   ·have R:=c7h h;have U:=c7h (B▸h:q < y.2.length);rw[R];rw[U];exact c7o some (Y q _ _ R U)
   ·rw[(c7I (b5p h))];rw[(c7I (by exact Nat.not_lt.mp (B▸h)))];rfl
  have get:∀ (i:Nat) (x:M9),st.nd[i]?=some x->∃ p,K9 st.kn (A5 st.up x)=some p/\f9 st.up p=f9 st.up i:=λi x d=>by
   rcases D i x d with h | ⟨p,F,B⟩
   ·rw [w] at h;cases h
   ·exact ⟨p,F,B.resolve_right λh=>h⟩
  refine j5 (get i x Z) λp J f=>j5 (get j y c) λq O g=>?_;rw [e,O] at J;have O:=E0 J;clear J;subst O;exact f.symm.trans g⟩
noncomputable def Ov (D1 D2:Nat->Prop) (v:Nat):Prop:=∃ d1 d2,D1 d1/\D2 d2/\v=1+max d1 d2
theorem Ov.mono {q B F J:Nat->Prop} (h:Ov q B v) (U:∀ d,q d->F d) (V:∀ d,B d->J d):Ov F J v :=
 h.elim λO h=>h.elim λR h=>⟨O,R,U _ h.1,V _ h.2.1,h.2.2⟩
structure Hm (h k:Nat) (bs:List Nat) (ps gs lh:List (Nat×Nat)) (a b:Nat) (mk:List Nat) (st:St):Prop where
 S:Hs h k bs ps gs lh a b st.nd
 I:K1 lh st
 D:a1B st
 w:st.wt=[]
 M:TM (h+1) ps mk
 F:TF (h+1) ps mk
 pt:∀ p∈ps,p.1 < h+1/\p.2 < h+1
variable {ks:List Nat}
theorem Hm.len (X:Hm h k bs ps gs lh a b mk st):st.up.length=h+1+k+gs.length+1:=X.I.eqn.symm.trans X.S.len
theorem Hm.vr (X:Hm h k bs ps gs lh a b mk st) (q:i < st.up.length) (B:j < st.up.length) (e:f9 st.up i=f9 st.up j):vl h k bs gs mk i=vl h k bs gs mk j:=X.I.sound _ (X.S.cong X.F X.pt) i j q B e
theorem Hm.tc (X:Hm h k bs ps gs lh a b mk st):TC (h+1) ps λi j=>f9 st.up i=f9 st.up j :=
 ⟨λ_=>rfl,λ_ _ e=>e.symm,λ_ _ _ e J=>e.trans J,λp U=>X.I.told p ((X.S.tie p).mpr (.inl U)),λi j O R e=>(b1m X.I X.D X.w).node (i+1) (j+1) _ _ (X.S.nth.mpr (.f (zo2 O))) (X.S.nth.mpr (.f (zo2 R))) rfl rfl λq u v B F=>by
  cases q with
  | zero=>have V:=E0 B;clear B;subst V;have W:=E0 F;clear F;subst W;exact e
  | succ q=>cases B⟩
theorem Hm.rt (X:Hm h k bs ps gs lh a b mk st) (q:i < h+1) (B:j < h+1) (e:j6 mk i=j6 mk j):f9 st.up i=f9 st.up j :=
 (X.M.sound _ X.tc i q).trans ((c7o (f9 st.up) e).trans (X.M.sound _ X.tc j B).symm)
theorem Hm.tower (X:Hm h k bs ps gs lh a b mk st) (F:i < st.up.length) (e:vl h k bs gs mk i=(0,m,0)):∃ j,j < h+1/\j6 mk j=m/\f9 st.up i=f9 st.up j:=by
 obtain ⟨x,O⟩:∃ x,st.nd[i]?=some x:=⟨_,c7h (X.I.eqn.symm▸F:i < st.nd.length)⟩;cases X.S.nth.mp O with
 | x=>rw [Z6 (zo7)] at e;exact ⟨0,by exact zo7,c7o (·.2.1) e,rfl⟩
 | f B=>rw [Z6 (zo0 B)] at e;exact ⟨_,by exact zo0 B,c7o (·.2.1) e,rfl⟩
 | @l j hj =>
  obtain ⟨y,q⟩:∃ y,bs[j+1]?=some y:=⟨_,c7h (by rw[X.S.bl];exact zo0 hj)⟩
  rw [b5d hj q] at e;exact ⟨y,X.S.bt y (c7e q),c7o (·.2.1) e,X.I.told (h+1+j,y) ((X.S.tie _).mpr (.inr ⟨j,y,hj,q,rfl⟩))⟩
 | g J=>rw [a4h J] at e;cases e
 | gg=>rw [b02] at e;cases e
noncomputable def DV (h:Nat) (mk bs:List Nat) (va vb:Nat×Nat×Nat):Nat×Nat×Nat->Nat->Prop
 | (0,m,_),v=>Dp (h+1) mk bs v m
 | (1,p,q),v=>Ov (Dp (h+1) mk bs · p) (Dp (h+1) mk bs · q) v
 | (_+2,_,_),v=>Ov (Ov (Dp (h+1) mk bs · va.2.1) (Dp (h+1) mk bs · va.2.2)) (Ov (Dp (h+1) mk bs · vb.2.1) (Dp (h+1) mk bs · vb.2.2)) v
theorem a9F {d e:Nat}:dpO [d,e]=1+max d e:=c7o (λx=>1+max x e) (Nat.zero_max d)
theorem b4a {d:Nat}:dpO [d]=d+1:=(c7o (1+·) (Nat.zero_max d)).trans (Nat.add_comm 1 d)
theorem Hm.down (X:Hm h k bs ps gs lh a b mk st) (t:Trm st dpO v c):c < st.up.length->DV h mk bs (vl h k bs gs mk a) (vl h k bs gs mk b) (vl h k bs gs mk c) v:=by
 induction t with
 | @mk c ks F hn B _ ih =>
  intro r;refine j5 hn λz w m=>?_;clear hn;refine j9 w λi x Y s Z=>?_;clear w;subst Z;subst m;have J:=X.I.nlt Y;refine w3 (X.vr J r s) ?_;have kid:∀ (q d y:Nat),F[q]?=some d->x.2[q]?=some y->DV h mk bs (vl h k bs gs mk a) (vl h k bs gs mk b) (vl h k bs gs mk y) d:=λq d y E U=>by
   have ly:=X.I.kid x (c7e Y) y (c7e U);have u:=G7 X.I.up X.I.lt y ly;have:=ih q d (f9 st.up y) E (by show (x.2.map (f9 st.up))[q]?=_;rw[c7m];rw[U];rfl) u
   rwa [X.vr u ly (a0f X.I.up ly)] at this
  have B:F.length=x.2.length:=B.trans (c7f ..);have G:=X.S.nth.mp Y;clear ih s r Y J;have one:∀ {y:Nat},x.2=[y]->∃ d,F=[d]/\DV h mk bs (vl h k bs gs mk a) (vl h k bs gs mk b) (vl h k bs gs mk y) d:=λe=>by
   rw [e] at B;refine eE (List.length_eq_one_iff.mp B) λd n=>?_;subst n;exact ⟨d,rfl,kid 0 _ _ rfl (by rw[e];rfl)⟩
  have W:∀ {y z:Nat},x.2=[y,z]->∃ d e,F=[d,e]/\DV h mk bs (vl h k bs gs mk a) (vl h k bs gs mk b) (vl h k bs gs mk y) d/\DV h mk bs (vl h k bs gs mk a) (vl h k bs gs mk b) (vl h k bs gs mk z) e:=λe=>by
   rw [e] at B;cases F with
   | nil=>cases B
   | cons d F =>
   refine eE (List.length_eq_one_iff.mp (Nat.succ.inj B)) λA o=>?_;subst o;exact ⟨d,A,rfl,kid 0 _ _ rfl (by rw[e];rfl),kid 1 _ _ rfl (by rw[e];rfl)⟩
  have nil:x.2=[]->F=[]:=λe=>c7H (by rw[B];rw[e];rfl)
  clear kid B;have S:=X.S;cases G with
  | x=>rw[(nil rfl)];rw[(Z6 (i:=0) (zo7))];exact .leaf (c7e S.b0)
  | @f i J =>
   refine j5 (one rfl) λd H g=>?_;subst H;rw [Z6 (i:=i) (zo1 J)] at g;rw[b4a];rw[(Z6 (i:=i+1) (zo0 J))];exact Dp.f g (zo0 J)
  | @l j hj =>
   obtain ⟨y,U⟩:∃ y,bs[j+1]?=some y:=⟨_,c7h (by rw[S.bl];exact zo0 hj)⟩
   rw[(nil rfl)];rw[(b5d hj U)];exact .leaf (c7e U)
  | @g j p hp =>
   refine j9 (W rfl) λd e K O R=>?_;subst K;have pl:=S.gl p (c7e hp);rw [Z6 (i:=p.1) pl.1] at O;rw [Z6 (i:=p.2) pl.2] at R;rw[a9F];rw[(a4h hp)];exact ⟨d,e,O,R,rfl⟩
  | gg =>
   refine j9 (W rfl) λd e L O R=>?_;subst L;refine b8n (S.ab_v (mk:=mk)) λV q _ D=>j5 V λp _ C=>?_;clear V;rw[a9F];rw[b02];rw [C,D] at O R ⊢;exact ⟨d,e,O,R,rfl⟩
theorem Hm.kn (X:Hm h k bs ps gs lh a b mk st) {x:M9} (q:NK h k gs a b i x) (e:f9 st.up i=f9 st.up c):Kn st c (x.2.map (f9 st.up)):=⟨_,⟨i,x,X.S.nth.mpr q,e,rfl⟩,rfl⟩
theorem Hm.up_t (X:Hm h k bs ps gs lh a b mk st) (S:∀ {v i},i < st.up.length->(Trm st dpO v (f9 st.up i)↔Trm st dpO v i)) (d:Dp (h+1) mk bs v m):∀ i,i < st.up.length->vl h k bs gs mk i=(0,m,0)->Trm st dpO v i:=by
 have J:=X.len;induction d with
 | @leaf y hy =>
  intro i W e;refine y4 (X.tower W e) λj B U V=>?_;have ly:=X.S.bt y hy;have R:f9 st.up i=f9 st.up y:=V.trans (X.rt B ly U);refine eE (c8A hy) λq O=>?_;cases q with
  | zero =>
   rw [X.S.b0] at O;obtain rfl:=c7p O;exact .mk (ds:=[]) (X.kn .x R.symm) rfl λq d k F=>nomatch F
  | succ q =>
   have Z:q < k:=by have:=(c8r O).1;have:=X.S.bl;exact c3c ‹_› this
   exact .mk (ds:=[]) (X.kn (.l Z) ((X.I.told (h+1+q,y) ((X.S.tie _).mpr (.inr ⟨q,y,Z,O,rfl⟩))).trans R.symm)) rfl λq d k F=>nomatch F
 | @f d j _ B ih =>
  intro i W e;refine y4 (X.tower W e) λn Y U V=>?_;have R:f9 st.up i=f9 st.up (j+1):=V.trans (X.rt Y B U);have t:=(S (c5P J B)).mpr (ih j (c5P J B) (Z6 (c1R B)));have:=Trn.mk (ov:=dpO) (ds:=[d]) (X.kn (.f (zo2 B:j < h)) R.symm) rfl λq g o F c=>by
   cases q with
   | zero=>exact c7p F▸c7p c▸t
   | succ q=>cases F
  rwa [b4a] at this
theorem Hm.pair (X:Hm h k bs ps gs lh a b mk st) (S:∀ {v i},i < st.up.length->(Trm st dpO v (f9 st.up i)↔Trm st dpO v i)) {i y z v:Nat} {s:String} (U:NK h k gs a b i (s,[y,z])) (ly:y < st.up.length) (R:z < st.up.length) (o:Ov (Trm st dpO · y) (Trm st dpO · z) v):Trm st dpO v i:=by
 refine j9 o λd e J O V=>?_;clear o;subst V;have W:=(S ly).mpr J;have Y:=(S R).mpr O;have:=Trn.mk (ov:=dpO) (ds:=[d,e]) (X.kn U rfl) rfl λq Z c B F=>by
  cases q with
  | zero=>exact c7p B▸c7p F▸W
  | succ q =>
  cases q with
  | zero=>exact c7p B▸c7p F▸Y
  | succ q=>cases B
 rwa [a9F] at this
theorem Hm.trm (X:Hm h k bs ps gs lh a b mk st) (S:∀ {v i},i < st.up.length->(Trm st dpO v (f9 st.up i)↔Trm st dpO v i)) (U:i < st.up.length):Trm st dpO v i↔DV h mk bs (vl h k bs gs mk a) (vl h k bs gs mk b) (vl h k bs gs mk i) v:=by
 refine ⟨λt=>X.down t U,λd=>?_⟩;have q:=X.len;have J:∀ {j v},j < h+1->Dp (h+1) mk bs v (j6 mk j)->Trm st dpO v j:=λ{j v} F d=>X.up_t S d j (c5R q F) (Z6 F);have V:∀ {j p v},gs[j]?=some p->Ov (Dp (h+1) mk bs · (j6 mk p.1)) (Dp (h+1) mk bs · (j6 mk p.2)) v->Trm st dpO v (h+1+k+j):=λ{j p v} B o=>by
  have pl:=X.S.gl p (c7e B);exact X.pair S (.g B) (c48 q pl) (c49 q pl) (o.mono (λ_=>J pl.1) λ_=>J pl.2)
 obtain ⟨x,m⟩:∃ x,st.nd[i]?=some x:=⟨_,c7h (X.I.eqn.symm▸U:i < st.nd.length)⟩;cases X.S.nth.mp m with
 | x=>rw [Z6 (i:=0) (zo7)] at d;exact J (zo7) d
 | @f i hl=>rw [Z6 (i:=i+1) (zo0 hl)] at d;exact J (zo0 hl) d
 | @l j F =>
  obtain ⟨y,n⟩:∃ y,bs[j+1]?=some y:=⟨_,c7h (by rw[X.S.bl];exact zo0 F)⟩
  have e:=b5d (h:=h) (gs:=gs) (mk:=mk) F n;rw [e] at d;exact X.up_t S d _ U e
 | @g j p B=>rw [a4h B] at d;exact V B d
 | gg =>
  refine b8n X.S.ab λc j Z R=>j5 c λi Y O=>?_;clear c;have B:=c7h Y;have W:=c7h Z;rw [b02,O,R,a4h B,a4h W] at d;refine X.pair S .gg (c5W q Y O) (c5W q Z R) (d.mono (λ_ o=>?_) λ_ o=>?_)
  ·rw[O];exact V B o
  ·rw[R];exact V W o
noncomputable def a8x (a b:Int):Int:=if a=-1\/b=-1 then -1 else 1+max a b
noncomputable def ovO (x y:Nat×Int):Nat×Int:=(1+max x.1 y.1,a8x x.2 y.2)
theorem Ht.iff {D E:Nat->Prop} {B:Nat} {q:Int} (t:Ht D B q) (h:∀ d,D d↔E d):Ht E B q:=by
 have:D=E:=funext λd=>propext (h d);rwa [this] at t
theorem Ht.ov {D E:Nat->Prop} {x y:Nat×Int} (t:Ht D x.1 x.2) (u:Ht E y.1 y.2):Ht (Ov D E) (ovO x y).1 (ovO x y).2:=by
 refine eAA t λV i j=>?_;clear t;refine eAA u λW k l=>?_;clear u;refine ⟨⟨_,_,V,W,rfl⟩,λd z=>?_,?_⟩
 ·refine j9 z λq F O R f=>?_;clear z;subst f;have:=i _ O;have:=k _ R;show 1+max _ _<=_;exact c5K ‹_› this
 ·show (a8x x.2 y.2=-1/\_)\/∃ g:Nat,a8x x.2 y.2=g/\_;unfold a8x;rcases j with ⟨e,U⟩ | ⟨g,e,O,R⟩
  ·rw[(c7X (.inl e))];refine .inl ⟨rfl,λB=>?_⟩;exact j5 (U B) λd q F=>⟨_,by have:=Nat.le_max_left d y.1;exact c3C q,d,_,F,W,rfl⟩
  ·rcases l with ⟨J,U⟩ | ⟨Y,J,Z,a⟩
   ·rw[(c7X (.inr J))];refine .inl ⟨rfl,λB=>?_⟩;exact j5 (U B) λd q F=>⟨_,by have:=Nat.le_max_right x.1 d;exact c3F q,_,d,V,F,rfl⟩
   ·refine b9 (c7W (by rw[e];rw[J];exact c22)) ?_;rw[e];rw[J]
    refine .inr ⟨1+max g Y,by exact c1I,⟨_,_,O,Z,rfl⟩,λd z=>?_⟩
    refine j9 z λq F b c h=>?_;clear z;subst h;have:=R _ b;have:=a _ c;exact c5K ‹_› this
section
variable {v:f5}{fs:List (Nat×Nat)}{n:Nat}
theorem Fnd.deep (S:Sy lay C H lh st) (ha:a < st.up.length) (F:Fnd st a fs):∀ B c,Rch st a c->fs.lookup c=none->∃ d,B<=d/\Trm st dpO d c:=by
 intro B;induction B with
 | zero=>intro c U _;exact (S.ex_trm dpO c (S.rch ha U).1).imp λd h=>⟨c7q _,h⟩
 | succ B o =>
  intro c U n;refine j5 (F.cl c U n) λJ Z V=>j5 Z λz W O=>?_;clear Z;refine j5 (o J (.step U ⟨z,W,O⟩) V) λd b g=>?_;have R:∀ l∈z.2,∃ e,Trm st dpO e l/\(l=J->e=d):=λl m=>by
   by_cases e:l=J
   ·exact ⟨d,e▸g,λ_=>rfl⟩
   ·exact eE (S.ex_trm dpO l (S.klt W m).1) λu i=>⟨u,i,λh=>c7Y h e⟩
  refine eE (a8z R) λf Y=>⟨dpO (z.2.map f),?_,.mk ⟨z,W,rfl⟩ (c7f ..) λq d k j O=>?_⟩
  ·have:=a8d (c8t ⟨J,O,rfl⟩:f J∈z.2.map f);rw [(Y J O).2 rfl] at this;unfold dpO;exact c3G b this
  ·rw[(a6O j O)];exact (Y _ (c7e O)).1
theorem a4N (S:Sy lay C H lh st) (G:Gr lay H g) (ha:a < st.up.length) {Y:Nat} {W:Int} (t:Ht (Trm st dpO · a) Y W) (q:∀ B,m7 H B->Q (A0 (Y,W)) B):(j3 FT (n+8)).call y0 P5 [.ref g,.int (a:Nat)] H Q :=
 b3r S G ha λB v Z k l F=>by
  refine eAA t λm o f=>?_;clear t;have h:v=Y:=Nat.le_antisymm (l.2 _ m) (o _ l.1);have i:((Z.lookup (f9 st.up a)).map iV).getD (.int (-1))=.int W:=by
   cases e:Z.lookup (f9 st.up a) with
   | some g =>
    refine eA ((F.val _ g e).1) λU c=>?_;have U:=(S.trm ha).mp U;rcases f with ⟨_,p⟩ | ⟨b,R,j,V⟩
    ·exact j5 (p (g+1)) λd J O=>c7Y (c d ((S.trm ha).mpr O)) (Nat.not_le.mpr J)
    ·rw[R];rw[(Nat.le_antisymm (c _ ((S.trm ha).mpr j)) (V _ U))];rfl
   | none =>
    rcases f with ⟨R,_⟩ | ⟨b,_,_,V⟩
    ·rw[R];rfl
    ·exact j5 (F.deep S ha (b+1) _ .base e) λd J O=>c7Y (V d ((S.trm ha).mp O)) (Nat.not_le.mpr J)
  rw[h];rw[i];exact q B k
noncomputable def b7h (st:St) (nums:List Nat) (due:List (Nat×Int)):Prop:=nums.length=due.length/\∀ (i m:Nat) (o:Nat×Int),nums[i]?=some m->due[i]?=some o->m < st.up.length/\Ht (Trm st dpO · m) o.1 o.2
structure b9W (h k:Nat) (ws gs:List (Nat×Nat)) (a b:Nat) (gn:List Nat):Prop where
 wl:gn.length=ws.length
 at_:∀ (l m:Nat) (p:Nat×Nat),gn[l]?=some m->ws[l]?=some p->∃ j,gs[j]?=some p/\m=h+1+k+j
 a_:gn.getLast?=some a
 b_:gn.head?=some b
noncomputable def k9 (told:List (Nat×Int)) (i:Nat):Nat×Int:=told.getD i (0,0)
noncomputable def b1o (told:List (Nat×Int)) (bs:List Nat) (ws:List (Nat×Nat)):List (Nat×Int):=told++(bs.drop 1).map (k9 told)++ws.map λp=>ovO (k9 told p.1) (k9 told p.2)
end
variable {v:f5}{gn:List Nat}{ws:List (Nat×Nat)}{told:List (Nat×Int)}
theorem b8m (X:Hm h k bs ps gs lh a b mk st) (S:∀ {v i},i < st.up.length->(Trm st dpO v (f9 st.up i)↔Trm st dpO v i)) (N:b9W h k ws gs a b gn) (U:told.length=h+1) (t:∀ i,i < h+1->∃ o,told[i]?=some o/\Ht (Dp (h+1) mk bs · (j6 mk i)) o.1 o.2)
  {x y:Nat×Nat} (K:ws.getLast?=some x) (W:ws.head?=some y) :
  b7h st (List.range (h+1+k)++gn++[h+1+k+gs.length]) (b1o told bs ws++[ovO (ovO (k9 told x.1) (k9 told x.2)) (ovO (k9 told y.1) (k9 told y.2))]):=by
 have J:=X.len;have g:=X.S.bl;have V:((bs.drop 1).map (k9 told)).length=k:=by rw[(c7f ..)];rw[List.length_drop];rw[g];rfl
 have tt:∀ {i},i < h+1->told[i]?=some (k9 told i)/\Ht (Dp (h+1) mk bs · (j6 mk i)) (k9 told i).1 (k9 told i).2:=λ{i} I=>by
  refine j5 (t i I) λo r H=>?_;have:k9 told i=o:=by unfold k9;rw[c7w];rw[r];rfl
  rw[this];exact ⟨r,H⟩
 have f:∀ {j:Nat} {p:Nat×Nat},gs[j]?=some p->h+1+k+j < st.up.length/\Ht (Ov (Dp (h+1) mk bs · (j6 mk p.1)) (Dp (h+1) mk bs · (j6 mk p.2))) (ovO (k9 told p.1) (k9 told p.2)).1 (ovO (k9 told p.1) (k9 told p.2)).2:=λ{j p} Y=>by
  have pl:=X.S.gl p (c7e Y);have:=(c8r Y).1;exact ⟨by exact c44 J this,(tt pl.1).2.ov (tt pl.2).2⟩
 refine ⟨?_,λi m o O F=>?_⟩
 ·unfold b1o;rw[c7P];rw[c7P];rw[c7P];rw[c7P];rw[c7P];rw[c70];rw[V];rw[U];rw[(c7f ..)];rw[N.wl];rfl
 ·unfold b1o at F;have Z:(List.range (h+1+k)++gn).length=h+1+k+ws.length:=by rw[c7P];rw[c70];rw[N.wl];rfl
  have c:(told++(bs.drop 1).map (k9 told)++ws.map λp=>ovO (k9 told p.1) (k9 told p.2)).length=h+1+k+ws.length:=by rw[c7P];rw[c7P];rw[V];rw[U];rw[(c7f ..)];rfl
  by_cases q:i < h+1+k
  ·rw [List.getElem?_append_left (c5S Z q),List.getElem?_append_left (by rw[List.length_range];exact q),List.getElem?_range q] at O
   obtain rfl:=c7p O;rw [List.getElem?_append_left (c5S c q),List.getElem?_append_left (by rw[List.length_append];rw[V];rw[U];exact q)] at F
   refine ⟨by exact c5Q J q,?_⟩
   by_cases B:i < h+1
   ·rw [List.getElem?_append_left (b7b U B),(tt B).1] at F;obtain rfl:=c7p F;exact (tt B).2.iff λd=>by refine O0 (X.trm S (c5Q J q) ..) ?_;rw[(Z6 (i:=i) B)];exact Iff.rfl
   ·obtain ⟨j,rfl⟩:∃ j,i=h+1+j:=⟨i - (h+1),by exact b7a B⟩
    obtain ⟨y,W⟩:∃ y,bs[j+1]?=some y:=⟨_,c7h (c4B g q)⟩;rw [List.getElem?_append_right (c3u U),U,Nat.add_sub_cancel_left,List.getElem?_map,List.getElem?_drop,Nat.add_comm 1 j,W] at F;obtain rfl:=c7p F;have ly:=X.S.bt y (c7e W);exact (tt ly).2.iff λd=>by refine O0 (X.trm S (c41 J q) ..) ?_;rw[(b5d (j:=j) (b7c q) W)];exact Iff.rfl
  ·obtain ⟨l,rfl⟩:∃ l,i=h+1+k+l:=⟨i - (h+1+k),by exact b9H q⟩
   by_cases B:l < ws.length
   ·rw [List.getElem?_append_left (b7d Z B),List.getElem?_append_right (by rw[List.length_range];exact b9G),List.length_range,Nat.add_sub_cancel_left] at O
    rw [List.getElem?_append_left (b7d c B),List.getElem?_append_right (by rw[List.length_append];rw[V];rw[U];exact b9G),List.length_append,V,U,Nat.add_sub_cancel_left,List.getElem?_map] at F
    refine j5 (c8v F) λp Y M=>?_;subst M;refine j5 (N.at_ l m p O Y) λj u L=>?_;subst L;exact eA (f u) λn G=>⟨n,G.iff λd=>by refine O0 (X.trm S n ..) ?_;rw[(a4h u)];exact Iff.rfl⟩
   ·rw [List.getElem?_append_right (c5O Z B),Z] at O;rw [List.getElem?_append_right (c5O c B),c] at F;have:l=ws.length:=by
     have:=(c8r O).1;have:h+1+k+l - (h+1+k+ws.length) < 1:=this;exact c4S B this
    subst this;rw [Nat.sub_self] at O F;obtain rfl:=c7p O;obtain rfl:=c7p F;have w:h+1+k+gs.length < st.up.length:=by exact c4O J
    have R:∀ {α:Type} {l:List α} {z:α},l.getLast?=some z->l[l.length - 1]?=some z:=λe=>by refine w3 List.getLast?_eq_getElem? ?_;exact e
    have s:∀ {α:Type} {l:List α} {z:α},l.head?=some z->l[0]?=some z:=λe=>by refine w3 List.head?_eq_getElem? ?_;exact e
    refine j5 (N.at_ _ a x (R N.a_) (by rw[N.wl];exact R K)) λP A D=>?_
    refine j5 (N.at_ _ b y (s N.b_) (s W)) λQ C E=>⟨w,((f A).2.ov (f C).2).iff λd=>?_⟩;refine O0 (X.trm S w ..) ?_;rw[b02];rw[D];rw[E];rw[(a4h A)];rw[(a4h C)];exact Iff.rfl
noncomputable def dkL (lay:Slot->Nat) (k:Nat) (bl:Int):List (f5×f5):=[(.str "cells",.ref (lay (.ow 1))),(.str "turn",.int (k:Nat)),(.str "blend",.int bl)]
theorem b25 {u v w:f5}:C0 [(.str "cells",u),(.str "turn",v),(.str "blend",w)] (.str "cells")=some u:=by unfold C0;simp
theorem a9e {u v w:f5}:C0 [(.str "cells",u),(.str "turn",v),(.str "blend",w)] (.str "turn")=some v:=by unfold C0;simp
theorem b8k {u v w:f5}:C0 [(.str "cells",u),(.str "turn",v),(.str "blend",w)] (.str "blend")=some w:=by unfold C0;simp
theorem b8l {u v w x:f5}:K2 [(.str "cells",u),(.str "turn",v),(.str "blend",w)] (.str "turn") x=[(.str "cells",u),(.str "turn",x),(.str "blend",w)]:=by
 unfold K2;rw[a9e];simp
theorem a5Y {u v w:f5} (s:String):M2 [(.str "cells",u),(.str "turn",v),(.str "blend",w)] (.str s):=⟨rfl,λp q=>by
 simp only [List.mem_cons,List.not_mem_nil,or_false] at q;rcases q with rfl | rfl | rfl <;> rfl⟩
structure LA (cells:List Int) (bl:Int) (lay:Slot->Nat) (C:B3) (H:Hp) (st:St) (lh:List (Nat×Nat)) (k:Nat) (nums:List Nat) (ps:List (Nat×Nat)) (bs:List Nat) (ws:Option (List (Nat×Nat))) (gr:Bool):Prop where
 L:J1 lay C H
 E:EG lay C st
 I:K1 lh st
 D:a1B st
 c0:∃ ep,C (.ow 0)=some (.dict (dkL lay k bl) ep)
 c1:C (.ow 1)=some (.list (cells.map f5.int))
 c2:C (.ow 2)=some (.list (iL nums))
 c3:C (.ow 3)=some (.list (ps.map K0))
 c4:C (.ow 4)=some (.list (iL bs))
 c5:∀ w,ws=some w->C (.ow 5)=some (.list (w.map K0))
 c6:gr=true->C (.ow 6)=some (.inst y0 (lay (.ow 7)))/\C (.ow 7)=some (.ns [(u6,.ref (lay (.eg 0)))])
theorem EG.ow {lay:Slot->Nat} {C:B3} {st:St} (E:EG lay C st):EG lay (upd C (.ow k) o) st :=
 {c0:=E.c0,c1:=E.c1,c2:=E.c2,c3:=E.c3,c8:=E.c8,c9:=E.c9,c4:=E.c4,c5:=E.c5,c6:=E.c6,c7:=E.c7,c10:=E.c10,c11:=E.c11,cl:=E.cl,c12:=E.c12,c13:=E.c13,c14:=E.c14,c15:=E.c15,c16:=E.c16,cu:=E.cu,c17:=E.c17}
theorem EG.own {lay:Slot->Nat} {C:B3} {st:St} (E:EG lay C st):EG (K4 lay (.ow k) a) (upd C (.ow k) o) st :=
 {c0:=E.c0,c1:=E.c1,c2:=E.c2,c3:=E.c3,c8:=E.c8,c9:=E.c9,c4:=E.c4,c5:=E.c5,c6:=E.c6,c7:=E.c7,c10:=E.c10,c11:=E.c11,cl:=E.cl,c12:=E.c12,c13:=E.c13,c14:=E.c14,c15:=E.c15,c16:=E.c16,cu:=E.cu,c17:=E.c17}
structure Ly (lay lay':Slot->Nat):Prop where
 eg:∀ k,lay' (.eg k)=lay (.eg k)
 ow:∀ k,lay' (.ow k)=lay (.ow k)
theorem Ly.refl (lay:Slot->Nat):Ly lay lay:=⟨λ_=>rfl,λ_=>rfl⟩
theorem Ly.trans {q B F:Slot->Nat} (x:Ly q B) (y:Ly B F):Ly q F:=⟨λk=>(y.eg k).trans (x.eg k),λk=>(y.ow k).trans (x.ow k)⟩
theorem Q6.ly {lay q:Slot->Nat} {C B:B3} (s:Q6 lay C q B):Ly lay q:=⟨s.eg,s.lay⟩
structure LV (lay:Slot->Nat) (h:Nat) (r:En):Prop where
 feed:r w8=some (.ref (lay (.ow 0)))
 heap:r u6=some (.ref (lay (.eg 0)))
 high:r t9=some (.int (h:Nat))
 nums:r i9=some (.ref (lay (.ow 2)))
 pairs:r A8=some (.ref (lay (.ow 3)))
 begs:r F7=some (.ref (lay (.ow 4)))
theorem LV.ly {lay q:Slot->Nat} (v:LV lay h r) (y:Ly lay q):LV q h r:=⟨by rw[(y.ow ..)];exact v.feed,by rw[(y.eg ..)];exact v.heap,v.high,by rw[(y.ow ..)];exact v.nums,by rw[(y.ow ..)];exact v.pairs,by rw[(y.ow ..)];exact v.begs⟩
section
variable {n:Nat}{cells:List Int}{bl:Int}{lay':Slot->Nat}{C':B3}{H':Hp}{st':St}{nums:List Nat}{ws:Option (List (Nat×Nat))}{gr:Bool}
theorem LA.keep (X:LA cells bl lay C H st lh k nums ps bs ws gr) (z:m7 H H'):LA cells bl lay C H' st lh k nums ps bs ws gr:={X with L:=X.L.keep z}
theorem LA.same (X:LA cells bl lay C H st lh k nums ps bs ws gr) (s:Q6 lay C lay' C') (L:J1 lay' C' H') (E:EG lay' C' st') (I:K1 ties' st') (D:a1B st'):LA cells bl lay' C' H' st' ties' k nums ps bs ws gr :=
 ⟨L,E,I,D,X.c0.imp λ_ h=>by rw[(s.con ..)];rw[h];unfold dkL;rw[(s.lay ..)];rfl,by rw[(s.con ..)];exact X.c1,by rw[(s.con ..)];exact X.c2,by rw[(s.con ..)];exact X.c3,by rw[(s.con ..)];exact X.c4,λw e=>by rw[(s.con ..)];exact X.c5 w e,λe=>by rw[(s.con ..)];rw[(s.con ..)];rw[(s.lay ..)];rw[(s.eg ..)];exact X.c6 e⟩
theorem LA.put (X:LA cells bl lay C H st lh k nums ps bs ws gr) {o p:a0z} (e:C (.ow j)=some p):J1 lay (upd C (.ow j) o) (H.set (lay (.ow j)) o)/\EG lay (upd C (.ow j) o) st/\∀ i,i≠j->(upd C (.ow j) o) (.ow i)=C (.ow i) :=
 ⟨X.L.put e,X.E.ow,λi h=>j8 λz=>h (by injection z)⟩
theorem LA.set2 (X:LA cells bl lay C H st lh k nums ps bs ws gr) (xs:List Nat):LA cells bl lay (upd C (.ow 2) (.list (iL xs))) (H.set (lay (.ow 2)) (.list (iL xs))) st lh k xs ps bs ws gr:=by
 exact eAA (X.put (o:=.list (iL xs)) X.c2) λl e f=>⟨l,e,X.I,X.D,by rw[(f 0 (by decide))];exact X.c0,by rw[(f 1 (by decide))];exact X.c1,D3,by rw[(f 3 (by decide))];exact X.c3,by rw[(f 4 (by decide))];exact X.c4,by rw[(f 5 (by decide))];exact X.c5,by rw[(f 6 (by decide))];rw[(f 7 (by decide))];exact X.c6⟩
theorem LA.set3 (X:LA cells bl lay C H st lh k nums ps bs ws gr) (xs:List (Nat×Nat)):LA cells bl lay (upd C (.ow 3) (.list (xs.map K0))) (H.set (lay (.ow 3)) (.list (xs.map K0))) st lh k nums xs bs ws gr:=by
 exact eAA (X.put (o:=.list (xs.map K0)) X.c3) λl e f=>⟨l,e,X.I,X.D,by rw[(f 0 (by decide))];exact X.c0,by rw[(f 1 (by decide))];exact X.c1,by rw[(f 2 (by decide))];exact X.c2,D3,by rw[(f 4 (by decide))];exact X.c4,by rw[(f 5 (by decide))];exact X.c5,by rw[(f 6 (by decide))];rw[(f 7 (by decide))];exact X.c6⟩
theorem LA.set4 (X:LA cells bl lay C H st lh k nums ps bs ws gr) (xs:List Nat):LA cells bl lay (upd C (.ow 4) (.list (iL xs))) (H.set (lay (.ow 4)) (.list (iL xs))) st lh k nums ps xs ws gr:=by
 exact eAA (X.put (o:=.list (iL xs)) X.c4) λl e f=>⟨l,e,X.I,X.D,by rw[(f 0 (by decide))];exact X.c0,by rw[(f 1 (by decide))];exact X.c1,by rw[(f 2 (by decide))];exact X.c2,by rw[(f 3 (by decide))];exact X.c3,D3,by rw[(f 5 (by decide))];exact X.c5,by rw[(f 6 (by decide))];rw[(f 7 (by decide))];exact X.c6⟩
theorem LA.set5 {w:List (Nat×Nat)} (X:LA cells bl lay C H st lh k nums ps bs (some w) gr) (xs:List (Nat×Nat)):LA cells bl lay (upd C (.ow 5) (.list (xs.map K0))) (H.set (lay (.ow 5)) (.list (xs.map K0))) st lh k nums ps bs (some xs) gr:=by
 exact eAA (X.put (o:=.list (xs.map K0)) (X.c5 w rfl)) λl e f=>⟨l,e,X.I,X.D,by rw[(f 0 (by decide))];exact X.c0,by rw[(f 1 (by decide))];exact X.c1,by rw[(f 2 (by decide))];exact X.c2,by rw[(f 3 (by decide))];exact X.c3,by rw[(f 4 (by decide))];exact X.c4,λw e=>by have q:=E0 e;clear e;subst q;exact D3,by rw[(f 6 (by decide))];rw[(f 7 (by decide))];exact X.c6⟩
theorem a28 {i j:Int} (h:0 < j) (q:Q (.int (i % j)) H):a3q .mod (.int i) (.int j) H Q:=⟨i,j,rfl,rfl,h,q⟩
theorem b3j {i j:Int} (h:0 < j) (B:j < 1073741824) (q:Q (.int (i / j)) H):a3q .fdiv (.int i) (.int j) H Q:=⟨i,j,rfl,rfl,h,B,q⟩
theorem mul_int {i j:Int} (B:small i) (F:small j) (q:Q (.int (i * j)) H):a3q .mul (.int i) (.int j) H Q:=.inl ⟨i,j,rfl,rfl,B,F,q⟩
theorem b78 {s b:Bv} {F:v9} {rt:f5->En->Hp->Prop} {J:En->Hp->Prop} (h:d9 s b K r H F):m6 K r H (λf B q=>a3P f (d9 s b K B q F) (λv=>rt v B q) (J B q)):=h
theorem a07 {i:Int} (q:0<=i) (B:i<=1000000):small i:=by unfold small;exact c0N q B
theorem b7m (L:J1 lay C H) (W:C (.ow 0)=some (.dict (dkL lay k bl) ep)) (e:C (.ow 1)=some (.list (cells.map f5.int))) (d:cells.length<=50) (R:k < 1000) {many:Nat} (U:0 < many) (q:∀ B (j:Nat),j < many->J1 lay (upd C (.ow 0) (.dict (dkL lay (k+1) bl) B)) (H.set (lay (.ow 0)) (.dict (dkL lay (k+1) bl) B))->Q (.int (j:Nat)) (H.set (lay (.ow 0)) (.dict (dkL lay (k+1) bl) B))):(j3 FT (n+1)).call 0 l8 [.ref (lay (.ow 0)),.int (many:Nat)] H Q:=by
 refine s9 rfl rfl (g8 (w6 (w9 (B2 (f6 rfl (m0 (T8 (L.at_ _ _ W) (a5Y _) a9e (m0 (s6 (a18 (n8 rfl) (λ_ q=>q) (L.at_ _ _ W) (a5Y _) (by show 3<=1000000;decide) ?_))))))))))
 unfold dkL;rw[b8l];rw[(show ((k:Nat):Int)+1=((k+1:Nat):Int) from rfl)];generalize dep _ _ _=B;have F:J1 lay (upd C (.ow 0) (.dict (dkL lay (k+1) bl) B)) (H.set (lay (.ow 0)) (.dict (dkL lay (k+1) bl) B)):=L.put W;have V:(upd C (.ow 0) (.dict (dkL lay (k+1) bl) B)) (.ow 0)=some (.dict (dkL lay (k+1) bl) B):=D3;have a:(upd C (.ow 0) (.dict (dkL lay (k+1) bl) B)) (.ow 1)=some (.list (cells.map f5.int)):=(j8 (by decide)).trans e
 have J:∀ x:Int,Q (.int (x % (many:Nat))) (H.set (lay (.ow 0)) (.dict (dkL lay (k+1) bl) B)):=λx=>by
  have b:=Int.emod_nonneg x (show ((many:Nat):Int)≠0 by exact Int.natCast_ne_zero_iff_pos.mpr U)
  have Z:=Int.emod_lt_of_pos x (show (0:Int) < ((many:Nat):Int) by exact Int.natCast_pos.mpr U)
  refine eE (Int.eq_ofNat_of_zero_le b) λj c=>?_;rw [c] at Z ⊢;exact q B j (by exact Int.ofNat_lt.mp Z) F
 have O:(cells.map f5.int).length<=o9:=by rw[(c7f ..)];unfold o9;exact c7g d (c75 _ _)
 have Y:small ((k+1:Nat):Int):=a07 (c7C _) (c06 R);refine g8 (w6 (B2 (f6 rfl (m0 (T8 (x:=.int (k+1:Nat)) (F.at_ _ _ V) (a5Y _) a9e (z0 ?_))))));refine g8 (W9 (B9 (f6 rfl (P0 (d8 (B2 (f6 rfl (m0 (T8 (x:=.ref (lay (.ow 1))) (F.at_ _ _ V) (a5Y _) b25 (g9 (L9 (F.at_ _ _ a) O (le_int ⟨λt=>?_,λ_=>?_⟩))))))))))))
 ·have t:=c7n t;rw [List.length_map] at t;have R:k < cells.length:=by exact Int.ofNat_lt.mp t
  refine g8 (G4 (w9 (B2 (B2 (f6 rfl (m0 (T8 (x:=.ref (lay (.ow 1))) (F.at_ _ _ V) (a5Y _) b25 (w9 (f6 rfl (m0 (sub_int ?_)))))))))));rw[(show ((k+1:Nat):Int) - 1=(k:Nat) by exact Int.sub_eq_iff_eq_add.mpr rfl)]
  exact D9 (x:=.int cells[k]) (F.at_ _ _ a) O (by rw[c7m];rw[(c7h R)];rfl) (f6 (v:=.int (many:Nat)) rfl (a28 (by exact Int.natCast_pos.mpr U) (J _)))
 ·refine b78 (g8 (G4 (w9 (w9 (w9 (w9 (w9 (w9 (w9 (m0 (f6 rfl (mul_int (a07 (by exact c7C _) (by exact c7C _)) Y (f6 rfl (mul_int ?_ Y (w9 (m0 (f6 rfl (mul_int (a07 (c6v) (c6z)) Y (s6 (w9 (f6 rfl (m0 (b3j (c6s) (c6A) (s6 (B2 (f6 rfl (m0 (T8 (x:=.int bl) (F.at_ _ _ V) (a5Y _) b8k (s6 (m0 (a28 (c6t) (f6 (v:=.int (many:Nat)) rfl (a28 (by exact Int.natCast_pos.mpr U) (J _))))))))))))))))))))))))))))))))))
  exact a07 (c0X) (c05 R)
theorem b29 (X:LA cells bl lay C H st lh k nums ps bs ws gr) (W:cells.length<=50) (V:k < 1000) {many:Nat} (Y:0 < many) (q:∀ O F (j:Nat),j < many->LA cells bl lay O F st lh (k+1) nums ps bs ws gr->(∀ x l,H x=some (.list l)->F x=some (.list l))->Q (.int (j:Nat)) F):(j3 FT (n+1)).call 0 l8 [.ref (lay (.ow 0)),.int (many:Nat)] H Q:=by
 refine eE X.c0 λZ J=>b7m X.L J X.c1 W V Y λB j U L=>q (upd C (.ow 0) (.dict (dkL lay (k+1) bl) B)) _ j U ?_ λx l e=>(J9 λz=>?_).trans e
 ·exact eAA (X.put (o:=.dict (dkL lay (k+1) bl) B) J) λ_ R f=>⟨L,R,X.I,X.D,⟨B,D3⟩,by rw[(f 1 (by decide))];exact X.c1,by rw[(f 2 (by decide))];exact X.c2,by rw[(f 3 (by decide))];exact X.c3,by rw[(f 4 (by decide))];exact X.c4,by rw[(f 5 (by decide))];exact X.c5,by rw[(f 6 (by decide))];rw[(f 7 (by decide))];exact X.c6⟩
 ·have:=X.L.at_ _ _ J;rw [z,this] at e;cases e
theorem draw (X:LA cells bl lay C H st lh k nums ps bs ws gr) (U:cells.length<=50) (R:k < 1000) {many:Nat} (V:0 < many) (q:∀ F B (j:Nat),j < many->LA cells bl lay F B st lh (k+1) nums ps bs ws gr->Q (.int (j:Nat)) B):(j3 FT (n+1)).call 0 l8 [.ref (lay (.ow 0)),.int (many:Nat)] H Q :=
 b29 X U R V λF B j O J _=>q F B j O J
theorem a1m {m:Nm} {as:Lv} {K:Nat} (X:LA cells bl lay C H st lh k nums ps bs ws gr) (F:(FT t8 m).isSome=true) (B:a0l (a6C lay) m=none) (J:∀ Q:l7,Q (.ref (lay (.eg 0))) H->e (j3 FT K) r H Q) (h:as (j3 FT K) r H λvs q=>(j3 FT K).call t8 m (.ref (lay (.eg 0)) :: vs) q Q):i8 e m as (j3 FT K) r H Q :=
 F6 F (X.L.at_ _ _ X.E.c0) (X.L.at_ _ _ X.E.c1) B J h
theorem LA.add (X:LA cells bl lay C H st lh k nums ps bs ws gr) (f:st.nd.length < 17) {c:Char} (Z:97<=c.toNat) (a:c.toNat<=122) (two:ks.length<=2) (b:∀ k∈ks,k < st.nd.length)
  (d:∀ p,st.nd[p]?=some (String.singleton c,ks)->Q (.int (p:Nat)) H)
  (e:∀ q J F B,LA cells bl q J F B lh k nums ps bs ws gr->Ly lay q->B.nd=st.nd++[(String.singleton c,ks)]->Q (.int (st.nd.length:Nat)) F) :
  (j3 FT (n+5)).call t8 a1W [.ref (lay (.eg 0)),.str (String.singleton c),.tup (iL ks)] H Q :=
 c0d (n:=n) (x:=(String.singleton c,ks)) X.L X.E X.I X.D (by refine w3 X.I.eqn ?_;exact f) rfl Z a two (by refine w3 X.I.eqn ?_;exact b) d λq J F B Y V R W U O=>e q J F B (X.same R Y V W U) R.ly O
theorem b7B (L:J1 lay C H) (E:EG lay C st) (I:K1 lh st) (D:a1B st) (h:st.nd.length < 17) {c:Char} (U:97<=c.toNat) (V:c.toNat<=122) (no:∀ p:Nat,st.nd[p]?≠some (String.singleton c,[]))
  (q:∀ B J O F,J1 B J O->EG B J F->Q6 lay C B J->K1 lh F->a1B F->F.nd=st.nd++[(String.singleton c,[])]->Q (.int (st.nd.length:Nat)) O) :
  (j3 FT (n+6)).call t8 a32 [.ref (lay (.eg 0)),.tup [.str (String.singleton c)]] H Q:=by
 refine s9 rfl rfl (g8 (G4 (F6 rfl (L.at_ _ _ E.c0) (L.at_ _ _ E.c1) rfl (n8 rfl) (d8 (B2 (f6 rfl (m0 (a2g (i:=0) (x:=.str (String.singleton c)) (by show 1<=o9;unfold o9;exact c5d) rfl (d8 (P0 (d8 (Y4 (l:=([]:List Nat)) (f:=iV) (g:=λ_=>[]) (c7q _) (a3F λR W=>a5k (f6 rfl (m0 (a2n (v:=.str (String.singleton c)) (l:=[]) (by show 1<=o9;unfold o9;exact c5d) (W _ (.refl _)))))) (λx d=>nomatch d) λj a e Y=>g9 (a8T l9 (c7q _) (g9 ?_))))))))))))))
 exact c0d (n:=n) (x:=(String.singleton c,[])) (L.keep (e.trans (.new Y))) E I D (by refine w3 I.eqn ?_;exact h) rfl U V (c7q _) (λk Z=>nomatch Z) (λp b=>c7Y b (no p)) q
theorem LA.leaf (X:LA cells bl lay C H st lh k nums ps bs ws gr) (d:st.nd.length < 17) {c:Char} (a:97<=c.toNat) (b:c.toNat<=122) (no:∀ p:Nat,st.nd[p]?≠some (String.singleton c,[]))
  (q:∀ B O J F,LA cells bl B O J F lh k nums ps bs ws gr->Ly lay B->F.nd=st.nd++[(String.singleton c,[])]->Q (.int (st.nd.length:Nat)) J) :
  (j3 FT (n+6)).call t8 a32 [.ref (lay (.eg 0)),.tup [.str (String.singleton c)]] H Q :=
 b7B (n:=n) X.L X.E X.I X.D d a b no λB O J F Z W U Y V R=>q B O J F (X.same U Z W Y V) U.ly R
theorem LA.merge (X:LA cells bl lay C H st lh k nums ps bs ws gr) (e:lh.length < 20) {a b:Nat} {U:f5} (ha:a < st.nd.length) (d:b < st.nd.length)
  (q:∀ B O J F v,LA cells bl B O J F (lh++[(a,b)]) k nums ps bs ws gr->Ly lay B->F.nd=st.nd->Q v J):(j3 FT (n+4)).call t8 N6 [.ref (lay (.eg 0)),.int (a:Nat),.int (b:Nat),U] H Q :=
 b1U (n:=n) X.L X.E X.I X.D e (by refine w3 X.I.eqn ?_;exact ha) (by refine w3 X.I.eqn ?_;exact d) λB O J F u c Y V Z W R=>q B O J F u (X.same V c Y Z W) V.ly R
theorem LA.settle (X:LA cells bl lay C H st lh k nums ps bs ws gr)
  (q:∀ B O J F,LA cells bl B O J F lh k nums ps bs ws gr->Ly lay B->F.nd=st.nd->F.wt=[]->Q .none J):(j3 FT (n+5)).call t8 a0r [.ref (lay (.eg 0))] H Q :=
 b51 (n:=n) X.L X.E X.I X.D λB O J F Z W U Y V R a=>q B O J F (X.same U Z W Y V) U.ly R a
theorem a6H {a i m:Nat} {x:f5} (h:H a=some (.list xs)) (F:xs.length<=o9) (h0:0 < i) (B:i<=xs.length) (J:xs[xs.length - i]?=some x) (q:Q x H):a6F (.ref a) (.int (-(i:Nat))) H Q :=
 .inr (.inl ⟨xs,-(i:Nat),xs.length - i,x,.inr ⟨a,rfl,h⟩,rfl,by
  unfold a1q;rw[(c7X F)];rw[(c7W (c1H h0))];rw[(c7X (c1G h0 B))];exact c7o some (c1F),J,q⟩)
theorem a3z {x:f5} (F:∀ Q:l7,Q (.ref a) H->e K r H Q) (h:H a=some (.list xs)) (J:xs.length<=o9) (B:xs.getLast?=some x) (q:Q x H):k8 e (K3 (h9 (.int 1))) K r H Q:=by
 have O:0 < xs.length:=by cases xs with | nil=>cases B | cons _ _=>exact c7S _
 refine B2 (F _ (a36 (m0 ⟨1,rfl,?_⟩)));exact a6H (i:=1) (m:=0) h J Nat.one_pos O (by refine w3 List.getLast?_eq_getElem? ?_;exact B) q
theorem b2r (h:i<=20):(toString ((i:Nat):Int)).length<=10:=by
 have:∀ j:Fin 21,(toString ((j.val:Nat):Int)).length<=10:=by decide +kernel
 exact this ⟨i,c7Q h⟩
variable {Q:v9}{b:Bv}
theorem b6V {Q:l7} (h:small i) (q:Q (.str (toString ((i:Nat):Int))) H):biW .str [.int (i:Nat)] H Q:=⟨i,rfl,h,q⟩
theorem add_str {a b:String} {Q:l7} (h:a.length+b.length<=o9) (q:Q (.str (a++b)) H):a3q .add (.str a) (.str b) H Q:=.inr (.inl ⟨a,b,rfl,rfl,h,q⟩)
theorem b52 {s:String} {c:Char} {Q:l7} (B:s.toList[k]?=some c) (F:s.toList.length<=o9) (J:∀ c∈s.toList,c.toNat < 128) (q:Q (.str (String.singleton c)) H):a6F (.str s) (.int (k:Nat)) H Q:=.inl ⟨s,k,c,rfl,rfl,B,F,J,q⟩
theorem LA.app2 {Q:l7} (X:LA cells bl lay C H st lh k nums ps bs ws gr) (e:lay (.ow 2)=a) (l:nums.length<=17) (q:LA cells bl lay (upd C (.ow 2) (.list (iL (nums++[m])))) (H.set a (.list (iL (nums++[m])))) st lh k (nums++[m]) ps bs ws gr->Q .none (H.set a (.list (iL (nums++[m]))))):N5 K (.lst .append) (.ref a) m8 [.int (m:Nat)] H Q:=by
 subst e;refine H9 (X.L.at_ _ _ X.c2) (by rw[(m9 ..)];exact l5 l) ?_
 rw[a0E];exact q (X.set2 _)
theorem LA.app3 {Q:l7} (X:LA cells bl lay C H st lh k nums ps bs ws gr) (l:ps.length<=17) (q:LA cells bl lay (upd C (.ow 3) (.list ((ps++[p]).map K0))) (H.set (lay (.ow 3)) (.list ((ps++[p]).map K0))) st lh k nums (ps++[p]) bs ws gr->Q .none (H.set (lay (.ow 3)) (.list ((ps++[p]).map K0)))):N5 K (.lst .append) (.ref (lay (.ow 3))) m8 [K0 p] H Q:=by
 refine H9 (X.L.at_ _ _ X.c3) (by rw[(c7f ..)];exact l5 l) ?_
 have:=q (X.set3 _);rwa [c7T] at this
theorem LA.app4 {Q:l7} (X:LA cells bl lay C H st lh k nums ps bs ws gr) (l:bs.length<=17) (q:LA cells bl lay (upd C (.ow 4) (.list (iL (bs++[m])))) (H.set (lay (.ow 4)) (.list (iL (bs++[m])))) st lh k nums ps (bs++[m]) ws gr->Q .none (H.set (lay (.ow 4)) (.list (iL (bs++[m]))))):N5 K (.lst .append) (.ref (lay (.ow 4))) m8 [.int (m:Nat)] H Q:=by
 refine H9 (X.L.at_ _ _ X.c4) (by rw[(m9 ..)];exact l5 l) ?_
 rw[a0E];exact q (X.set4 _)
theorem LA.app5 {w:List (Nat×Nat)} {Q:l7} (X:LA cells bl lay C H st lh k nums ps bs (some w) gr) (l:w.length<=17) (q:LA cells bl lay (upd C (.ow 5) (.list ((w++[p]).map K0))) (H.set (lay (.ow 5)) (.list ((w++[p]).map K0))) st lh k nums ps bs (some (w++[p])) gr->Q .none (H.set (lay (.ow 5)) (.list ((w++[p]).map K0)))):N5 K (.lst .append) (.ref (lay (.ow 5))) m8 [K0 p] H Q:=by
 refine H9 (X.L.at_ _ _ (X.c5 w rfl)) (by rw[(c7f ..)];exact l5 l) ?_
 have:=q (X.set5 _);rwa [c7T] at this
theorem b4Y:tow i++[(String.singleton 'f',[i])]=tow (i+1):=by
 unfold tow;rw[List.range_succ];rw[c7T];rfl
theorem b1K (X:LA cells bl lay C H st [] k [0] [] [0] none false) (v:LV lay h r) (e:h<=6) (t:st.nd=tow 0) (q:∀ F u j w O,LA cells bl F u j O [] k (List.range (h+1)) [] [0] none false->LV F h w->O.nd=tow h->b (j3 FT (n+8)) w j Q) :
  d9 (S4 [O8] true (K8 (d7 (d6 t9) f4))
  (d9 (r8 (i8 (d6 i9) m8 (d7 (i8 (d6 u6) a1W (d7 (h9 (.str "f")) (d7 (B6 (d7 (k8 (d6 i9) (K3 (h9 (.int 1)))) f4)) f4))) f4)))
  m6)) b (j3 FT (n+8)) r H Q:=by
 refine g8 (a13 (d8 (f6 v.high (g9 (a1k (m:=h) (by unfold o9;exact c5h e) (λi Z d=>∃ B a J,LA cells bl B a d J [] k (List.range (i+1)) [] [0] none false/\LV B h Z/\J.nd=tow i) ⟨lay,C,st,X,v,t⟩ (λZ d z=>by refine a0M z λB a J R U Y=>?_;clear z;exact q B a d Z J R U Y) λi Z d l z W E _=>?_)))))
 refine a0M z λB a J R U Y=>?_;clear z;have g:LV B h (Z.set O8 (.int (i:Nat))):=⟨U.feed,U.heap,U.high,U.nums,U.pairs,U.begs⟩;have o:J.nd.length=i+1:=by rw[Y];rw[W1];rfl
 have y:(List.range (i+1)).length=i+1:=c70;refine g8 (B4 (E9 (n8 g.nums) (R.L.at_ _ _ R.c2) (d8 (a1m R rfl rfl (n8 g.heap) (d8 (m0 (d8 (I4 (d8 (a3z (x:=iV i) (n8 g.nums) (R.L.at_ _ _ R.c2) (by rw[(m9 ..)];rw[y];unfold o9;exact c2Y e l) (by rw[List.range_succ];refine w3 a0E ?_;refine b9 List.getLast?_concat ?_;rfl) (g9 (g9 ?_))))))))))))
 refine R.add (n:=n+3) (c:='f') (ks:=[i]) (c3Z e l o) (by decide) (by decide) (Nat.le_succ 1) (λz G=>by rw[(c8x G)];exact c2M o) (λp V=>?_) λF u j O A ly s=>by
  rw[o];exact g9 (A.app2 (ly.ow 2) (c30 e l y) λD=>E _ _ ⟨F,_,O,by rw[(List.range_succ (n:=i+1))];exact D,g.ly ly,by rw[s];rw[Y];exact b4Y⟩)
 rw [Y] at V;cases p with
 | zero =>
  rw [a8P] at V;exact nomatch (c7o (·.2) (c7p V):[]=[i])
 | succ p =>
  have:=(c8r V).1;rw [W1] at this;rw [a8O (zo2 this)] at V;have:=(List.cons.inj (c7o (·.2) (c7p V):[p]=[i])).1;exact (c1S ‹_› this).elim
theorem c0y {O:Ev} (X:LA cells bl lay C H st lh k nums ps bs ws gr) (v:LV lay h r) (E:∀ i,i < h+1->nums[i]?=some i) (K:nums.length<=17) (l:h+1<=st.nd.length) (e:cells.length<=50) (g:k < 900) (M:lh.length < 20) (pl:ps.length<=10)
  (G:∀ (H:Hp) (Q:l7),(∀ w,Q w H)->O (j3 FT (n+8)) r H Q)
  (q:∀ B U R F (p:Nat×Nat),p.1 < h+1->p.2 < h+1->LA cells bl B U R F (lh++[p]) (k+2) nums (ps++[p]) bs ws gr->Ly lay B->F.nd=st.nd->b (j3 FT (n+8)) r R Q) :
  (d9 (r8 (i8 (d6 A8) m8 (d7 (B6 (d7 (A4 l8 (d7 (d6 w8) (d7 (p7 .add (d6 t9) (h9 (.int 1))) f4))) (d7 (A4 l8 (d7 (d6 w8) (d7 (p7 .add (d6 t9) (h9 (.int 1))) f4))) f4))) f4)))
  (d9 (r8 (i8 (d6 u6) N6 (d7 (k8 (d6 i9) (k8 (k8 (d6 A8) (K3 (h9 (.int 1)))) (h9 (.int 0)))) (d7 (k8 (d6 i9) (k8 (k8 (d6 A8) (K3 (h9 (.int 1)))) (h9 (.int 1)))) (d7 O f4))))) b)) (j3 FT (n+8)) r H Q:=by
 have Z:(iL nums).length<=o9:=by rw[(m9 ..)];exact l5 K
 refine g8 (B4 (E9 (n8 v.pairs) (X.L.at_ _ _ X.c3) (d8 (I4 (d8 (P1 (d8 (f6 v.feed (d8 (w9 (f6 v.high (m0 (s6 (g9 (draw (n:=n+7) (many:=h+1) X e (c1b g) (c7S h) λN S x V t=>d8 (P1 (d8 (f6 v.feed (d8 (w9 (f6 v.high (m0 (s6 (g9 (draw (n:=n+7) (many:=h+1) t e (c1a g) (c7S h) λm o y W A=>g9 (g9 (A.app3 (p:=(x,y)) (c1h pl) λJ=>?_)))))))))))))))))))))))))));generalize o.set (lay (.ow 3)) (.list ((ps++[(x,y)]).map K0))=d at J ⊢
 generalize upd m (.ow 3) (.list ((ps++[(x,y)]).map K0))=P at J ⊢;have a:((ps++[(x,y)]).map K0).length<=o9:=by rw[(c7f ..)];rw[c7P];exact l5 (by show ps.length+1<=17;exact c1g pl)
 have c:((ps++[(x,y)]).map K0).getLast?=some (K0 (x,y)):=by rw[c7T];exact List.getLast?_concat
 have f:∀ {Q:l7} {j:Nat} {z:Nat},[f5.int (x:Nat),.int (y:Nat)][j]?=some (.int (z:Nat))->z < h+1->Q (.int (z:Nat)) d->k8 (d6 i9) (k8 (k8 (d6 A8) (K3 (h9 (.int 1)))) (h9 (.int (j:Nat)))) (j3 FT (n+8)) r d Q:=λ{Q j z} D I q =>
  B2 (f6 v.nums (B2 (a3z (n8 v.pairs) (J.L.at_ _ _ J.c3) a c (m0 (a2g (i:=j) (by show 2<=1000000;decide) D (D9 (J.L.at_ _ _ J.c2) Z (a4P (E z I)) q))))))
 refine g8 (B4 (a1m J rfl rfl (n8 v.heap) (d8 (f (j:=0) rfl V (d8 (f (j:=1) rfl W (d8 (G _ _ λw=>g9 (J.merge (n:=n+4) M (c5E l V) (c5E l W) λB U R F u s ly Y=>q B U R F (x,y) V W s ly Y)))))))))
theorem b7o {s:String} {Q:l7} (F:r O8=some (.int (i:Nat))) (B:i<=20) (J:s.length<=10) (q:∀ w,Q w H):B6 (d7 (h9 (.str "told")) (d7 (p7 .add (h9 (.str s)) (P9 .str (d7 (d6 O8) f4))) f4)) K r H Q:=by
 refine I4 (d8 (m0 (d8 (w9 (m0 (P0 (d8 (f6 F (g9 (b6V (a07 (c7C _) (c1p B)) (add_str ?_ (g9 (q _)))))))))))));have:=b2r B;unfold o9;exact c2p J this
theorem b1J (w:cells.length<=50) (X:LA cells bl lay C H st [] k (List.range (h+1)) [] [0] none false) (v:LV lay h r) (L:h<=6) (s:st.nd=tow h) (x:k<=100)
  (q:∀ J g j A R ps y,LA cells bl J g j R ps y (List.range (h+1)) ps [0] none false->LV J h A->R.nd=tow h->(∀ p∈ps,p.1 < h+1/\p.2 < h+1)->ps.length<=2->y<=k+5->b (j3 FT (n+8)) A j Q) :
  d9 (S4 [O8] true (K8 (d7 (A4 l8 (d7 (d6 w8) (d7 (h9 (.int 3)) f4))) f4))
  (d9 (r8 (i8 (d6 A8) m8 (d7 (B6 (d7 (A4 l8 (d7 (d6 w8) (d7 (p7 .add (d6 t9) (h9 (.int 1))) f4))) (d7 (A4 l8 (d7 (d6 w8) (d7 (p7 .add (d6 t9) (h9 (.int 1))) f4))) f4))) f4)))
  (d9 (r8 (i8 (d6 u6) N6 (d7 (k8 (d6 i9) (k8 (k8 (d6 A8) (K3 (h9 (.int 1)))) (h9 (.int 0)))) (d7 (k8 (d6 i9) (k8 (k8 (d6 A8) (K3 (h9 (.int 1)))) (h9 (.int 1)))) (d7 (B6 (d7 (h9 (.str "told")) (d7 (p7 .add (h9 (.str "p")) (P9 .str (d7 (d6 O8) f4))) f4))) f4)))))
  m6))) b (j3 FT (n+8)) r H Q:=by
 refine g8 (a13 (d8 (P1 (d8 (f6 v.feed (d8 (m0 (g9 (draw (n:=n+7) (many:=3) X w (b9v x) (by decide) λE S m V I=>g9 (a1k (m:=m) (by unfold o9;exact c74 (c7v V (c7d rfl))) (λi a d=>∃ B c O F f,LA cells bl B c d O F f (List.range (h+1)) F [0] none false/\LV B h a/\O.nd=tow h/\(∀ p∈F,p.1 < h+1/\p.2 < h+1)/\F.length=i/\f=k+1+2 * i)
  ⟨lay,E,st,[],k+1,I,v,s,(λp M=>nomatch M),rfl,rfl⟩ (λa d z=>?_) λi a d Y z W K _=>?_))))))))))
 ·obtain ⟨B,c,O,F,f,l,U,e,u,Z,rfl⟩:=z;exact q B c d a O F _ l U e u (c2I V Z) (c2F V)
 ·obtain ⟨B,c,O,F,f,l,U,e,u,Z,rfl⟩:=z;have D:LV B h (a.set O8 (.int (i:Nat))):=⟨U.feed,U.heap,U.high,U.nums,U.pairs,U.begs⟩;refine c0y (n:=n) l D (λi Y=>List.getElem?_range Y) (by rw[c70];exact zo4 L) (by rw[e];rw[W1];exact c7l _) w (c3z x V Y) (c3L V Y Z) (c3M V Y Z) (λH Q q=>b7o rfl (c5s V Y) (by decide) q) λJ g j R p N P G ly o=>K _ _ ⟨J,g,R,_,_,G,D.ly ly,o.trans e,λt ht=>?_,by rw[c7P];rw[Z];rfl,by exact c1P⟩
  rcases c8w ht with ht | ht
  ·exact u t ht
  ·rw[(c8x ht)];exact ⟨N,P⟩
theorem c0G (h:i < 2):∃ c,"yz".toList[i]?=some c/\97<=c.toNat/\c.toNat<=122/\String.singleton c=yz i:=by
 cases i with
 | zero=>exact ⟨'y',rfl,by decide,by decide,rfl⟩
 | succ i =>
  cases i with
  | zero=>exact ⟨'z',rfl,by decide,by decide,rfl⟩
  | succ i=>exact c7Y h (Nat.not_lt.mpr (c75 2 i))
theorem b34:lvs j++[(yz j,[])]=lvs (j+1):=by
 unfold lvs;rw[List.range_succ];rw[c7T];rfl
theorem a4z:base h j []=tow h++lvs j:=c8d _
theorem b6l {p j:Nat} (B:j < 2) (e:(base h j [])[p]?=some (yz j,[])):False:=by
 have F:∀ i,i < j->yz i≠yz j:=λi q e=>by
  have e:(if i=0 then "y" else "z")=if j=0 then "y" else "z":=e
  rw [if_pos (c2C B q),if_neg (c2K q)] at e;exact c7Y e (by decide)
 have J:yz j≠"x":=by unfold yz;split <;> decide
 by_cases c:p < h+1
 ·rw [a1J c] at e;cases p with
  | zero=>rw [a8P] at e;exact J (c7o (·.1) (c7p e)).symm
  | succ p=>rw [a8O (zo2 c)] at e;exact nomatch (c7o (·.2) (c7p e):[p]=[])
 ·obtain ⟨i,rfl⟩:∃ i,p=h+1+i:=⟨p - (h+1),by exact b7a c⟩
  have l:=(c8r e).1;rw [Q7] at l;have l:h+1+i < h+1+j+0:=l;rw [a4i (c5C l)] at e;exact F i (c5C l) (c7o (·.1) (c7p e))
structure Lf (h j:Nat) (bs:List Nat) (ps lh:List (Nat×Nat)):Prop where
 bl:bs.length=j+1
 b0:bs[0]?=some 0
 bt:∀ x∈bs,x < h+1
 tie:∀ t,t∈lh↔t∈ps\/∃ i y,i < j/\bs[i+1]?=some y/\t=(h+1+i,y)
theorem Lf.more {j x:Nat} (F:Lf h j bs ps lh) (U:x < h+1):Lf h (j+1) (bs++[x]) ps (lh++[(h+1+j,x)]):=by
 have B:∀ i,i < j->(bs++[x])[i+1]?=bs[i+1]?:=λi R=>c8h (by rw[F.bl];exact zo0 R)
 have new:(bs++[x])[j+1]?=some x:=by refine b9 (List.getElem?_append_right (by rw[F.bl];exact c7l _)) ?_;rw[F.bl];rw[(Nat.sub_self ..)];rfl
 refine ⟨by rw[c7P];rw[F.bl];rfl,by refine b9 (c8h (by rw[F.bl];exact c7S _)) ?_;exact F.b0,λy hy=>?_,λt=>⟨λht=>?_,λht=>?_⟩⟩
 ·rcases c8w hy with hy | hy
  ·exact F.bt y hy
  ·rw[(c8x hy)];exact U
 ·rcases c8w ht with ht | ht
  ·exact ((F.tie t).mp ht).imp id λz=>by refine j9 z λi y J q O=>?_;clear z;exact ⟨i,y,by exact zo1 J,by rw[(B i J)];exact q,O⟩
  ·exact .inr ⟨j,x,c7y _,new,c8x ht⟩
 ·rcases ht with ht | ⟨i,y,J,q,O⟩
  ·exact c7s _ ((F.tie t).mpr (.inl ht))
  ·by_cases e:i=j
   ·subst e;rw [new] at q;rw[O];refine w3 (c7p q) ?_;exact c7t _ (c8B rfl)
   ·rw [B i (b9A J e)] at q;exact c7s _ ((F.tie t).mpr (.inr ⟨i,y,by exact b9A J e,q,O⟩))
theorem a9y (cl:cells.length<=50) (X:LA cells bl lay C H st ps k (List.range (h+1)) ps [0] none false) (v:LV lay h r) (hh:h<=6) (a1:st.nd=tow h) (hk:k<=100) (pt:∀ p∈ps,p.1 < h+1/\p.2 < h+1) (pl:ps.length<=2)
  (q:∀ d C' H' r' K lh j bs k',j<=2->LA cells bl d C' H' K lh k' (List.range (h+1+j)) ps bs none false->LV d h r'->K.nd=base h j []->Lf h j bs ps lh->lh.length<=4->k'<=k+3->b (j3 FT (n+8)) r' H' Q) :
  d9 (S4 [O8] true (K8 (d7 (A4 l8 (d7 (d6 w8) (d7 (h9 (.int 3)) f4))) f4))
  (d9 (r8 (i8 (d6 F7) m8 (d7 (A4 l8 (d7 (d6 w8) (d7 (p7 .add (d6 t9) (h9 (.int 1))) f4))) f4)))
  (d9 (p9 (m5 a2K) (i8 (d6 u6) a32 (d7 (B6 (d7 (k8 (h9 (.str "yz")) (d6 O8)) f4)) f4)))
  (d9 (r8 (i8 (d6 u6) N6 (d7 (d6 a2K) (d7 (k8 (d6 i9) (k8 (d6 F7) (K3 (h9 (.int 1))))) (d7 (B6 (d7 (h9 (.str "told")) (d7 (p7 .add (h9 (.str "l")) (P9 .str (d7 (d6 O8) f4))) f4))) f4)))))
  (d9 (r8 (i8 (d6 i9) m8 (d7 (d6 a2K) f4)))
  m6))))) b (j3 FT (n+8)) r H Q:=by
 refine g8 (a13 (d8 (P1 (d8 (f6 v.feed (d8 (m0 (g9 (draw (n:=n+7) (many:=3) X cl (b9v hk) (by decide) λC1 H1 m O X1=>g9 (a1k (m:=m) (by unfold o9;exact c74 (c7v O (c7d rfl))) (λj f P=>∃ F M R B J,LA cells bl F M P R B (k+1+j) (List.range (h+1+j)) ps J none false/\LV F h f/\R.nd=base h j []/\Lf h j J ps B/\B.length=ps.length+j)
  ⟨lay,C1,st,ps,[0],X1,v,by rw[a1];rw[a4z];exact (c8d _).symm,⟨rfl,rfl,λx A=>by rw[(c8x A)];exact c7S _,λt=>⟨.inl,λz=>z.elim id λz=>by refine A6 z λ_ _ h _=>?_;clear z;exact c7Y h (c8p _)⟩⟩,rfl⟩ (λf P z=>?_) λj f P Z z W hW _=>?_))))))))))
 ·obtain ⟨F,M,R,B,J,o,e,y,N,T⟩:=z;exact q F M P f R B m J _ (c08 O) o e y N (c3V pl O T) (c2G O)
 ·obtain ⟨F,M,R,B,J,o,e,y,N,T⟩:=z;have s:=N.bl;have nl:R.nd.length=h+1+j:=by rw[y];rw[Q7];rfl
  refine N1 (c0G (i:=j) (c5r O Z)) λc hc c1 c2 ec=>?_;have Y:LV F h (f.set O8 (.int (j:Nat))):=⟨e.feed,e.heap,e.high,e.nums,e.pairs,e.begs⟩;have U:(f.set O8 (.int (j:Nat))) O8=some (.int (j:Nat)):=rfl;generalize f.set O8 (.int (j:Nat))=r3 at Y U ⊢;refine g8 (B4 (E9 (n8 Y.begs) (o.L.at_ _ _ o.c4) (d8 (P1 (d8 (f6 Y.feed (d8 (w9 (f6 Y.high (m0 (s6 (g9 (draw (n:=n+7) (many:=h+1) o cl (c3A hk O Z) (c7S h) λC4 H4 x A X4=>g9 (X4.app4 (c3K O Z s) λS=>?_))))))))))))))
  generalize H4.set (F (.ow 4)) (.list (iL (J++[x])))=H5 at S ⊢;generalize upd C4 (.ow 4) (.list (iL (J++[x])))=C5 at S ⊢;refine g8 (w6 (a1m S rfl rfl (n8 Y.heap) (d8 (I4 (d8 (B2 (m0 (f6 U (b52 hc (by decide) (by decide) (g9 (g9 ?_)))))))))))
  refine S.leaf (n:=n+2) (c4E hh O Z nl) c1 c2 (λp hp=>?_) λD C6 H6 a3 g V G=>?_
  ·rw [y,ec] at hp;exact b6l (c5r O Z) hp
  ·rw[nl];have v6:LV D h (r3.set a2K (.int (h+1+j:Nat))):=⟨(Y.ly V).feed,(Y.ly V).heap,Y.high,(Y.ly V).nums,(Y.ly V).pairs,(Y.ly V).begs⟩;have I:a3.nd.length=h+1+j+1:=by rw[G];rw[c7P];rw[nl];rfl
   refine z0 (g8 (B4 (a1m g rfl rfl (n8 v6.heap) (d8 (f6 rfl (d8 (B2 (f6 v6.nums (a3z (x:=iV x) (n8 v6.begs) (g.L.at_ _ _ g.c4) (by rw[(m9 ..)];rw[c7P];rw[s];exact l5 (by show j+1+1<=17;exact c2H O Z)) (by refine w3 a0E ?_;refine b9 List.getLast?_concat ?_;rfl) (D9 (g.L.at_ _ _ g.c2) (by rw[(m9 ..)];rw[c70];exact l5 (c5A hh O Z)) (a4P (List.getElem?_range (b5q A))) (d8 (b7o U (c5s O Z) (by decide) λw=>g9 (g.merge (n:=n+4) (a:=h+1+j) (b:=x) (c4C pl O Z T) (c4a I) (c4s A I) λE C7 H7 a4 u X7 a0 a2=>?_)))))))))))))
   have v7:=v6.ly a0;refine g8 (b:=m6) (Q:=W) (B4 (E9 (n8 v7.nums) (X7.L.at_ _ _ X7.c2) (d8 (f6 rfl (g9 (X7.app2 rfl (by rw[c70];exact c5A hh O Z) λX8=>hW _ _ ⟨E,_,a4,_,_,by rw[(show h+1+(j+1)=h+1+j+1 from rfl)];rw[(List.range_succ (n:=h+1+j))];exact X8,v7,?_,N.more A,by rw[c7P];rw[T];rfl⟩))))))
   rw[a2];rw[G];rw[y];rw[ec];rw[a4z];rw[a4z];rw[(List.append_assoc ..)];rw[b34];rfl
end
structure LW (lay:Slot->Nat) (h:Nat) (r:En):Prop extends LV lay h r where
 wide:r D0=some (.ref (lay (.ow 5)))
theorem LW.ly {lay q:Slot->Nat} (v:LW lay h r) (y:Ly lay q):LW q h r:=⟨v.toLV.ly y,by rw[(y.ow ..)];exact v.wide⟩
structure Wd (h k:Nat) (nd:List M9) (nums:List Nat) (ws gs:List (Nat×Nat)) (gn:List Nat):Prop where
 nd:nd=base h k gs
 nums:nums=List.range (h+1+k)++gn
 wl:gn.length=ws.length
 at_:∀ (l m:Nat) (p:Nat×Nat),gn[l]?=some m->ws[l]?=some p->∃ j,gs[j]?=some p/\m=h+1+k+j
 gl:∀ p∈gs,p.1 < h+1/\p.2 < h+1
 wt:∀ p∈ws,p.1 < h+1/\p.2 < h+1
 le:gs.length<=ws.length
theorem Wd.find {J:List M9} {nums U:List Nat} {ws gs:List (Nat×Nat)} (W:Wd h k J nums ws gs U) {q x y:Nat} {s:String} (e:J[q]?=some (s,[x,y])):∃ j,gs[j]?=some (x,y)/\q=h+1+k+j:=by
 rw [W.nd] at e;by_cases B:q < h+1
 ·rw [a1J B] at e;cases q with
  | zero=>rw [a8P] at e;exact nomatch (c7o (·.2) (c7p e):[]=[x,y])
  | succ q=>rw [a8O (zo2 B)] at e;exact nomatch (c7o (·.2) (c7p e):[q]=[x,y])
 ·by_cases F:q < h+1+k
  ·obtain ⟨i,rfl⟩:∃ i,q=h+1+i:=⟨q - (h+1),by exact b7a B⟩
   rw [a4i (b7c F)] at e;exact nomatch (c7o (·.2) (c7p e):[]=[x,y])
  ·obtain ⟨i,rfl⟩:∃ i,q=h+1+k+i:=⟨q - (h+1+k),by exact b9H F⟩
   rw [a8Z] at e;refine j5 (c8v e) λp V e=>?_;have e:[p.1,p.2]=[x,y]:=c7o (·.2) e;have O:=(List.cons.inj e).1;have R:=(List.cons.inj (List.cons.inj e).2).1;exact ⟨i,by rw[V];refine w3 O ?_;refine w3 R ?_;rfl,rfl⟩
theorem Wd.more {n F:List M9} {nums U:List Nat} {ws gs q:List (Nat×Nat)} (W:Wd h k n nums ws gs U) {x y j:Nat} (V:x < h+1) (Y:y < h+1) (Z:F=base h k q) (a:q[j]?=some (x,y)) (b:∀ (i:Nat) (p:Nat×Nat),gs[i]?=some p->q[i]?=some p) (d:∀ p∈q,p∈gs\/p=(x,y)) (e:q.length<=gs.length+1):Wd h k F (nums++[h+1+k+j]) (ws++[(x,y)]) q (U++[h+1+k+j]):=by
 have R:=W.wl;refine ⟨Z,by rw[W.nums];rw[(List.append_assoc ..)];rfl,by rw[c7P];rw[c7P];rw[R];rfl,λl m p J B=>?_,λp B=>?_,λp B=>?_,by rw[c7P];exact c7g e (c8m W.le)⟩
 ·by_cases c:l < ws.length
  ·rw [List.getElem?_append_left (by exact Nat.lt_of_lt_of_eq c (id (Eq.symm R)))] at J
   rw [List.getElem?_append_left c] at B;exact j5 (W.at_ l m p J B) λi f g=>⟨i,b i p f,g⟩
  ·have O:=(c8r B).1;rw [List.length_append] at O;have O:l < ws.length+1:=O;obtain rfl:l=ws.length:=by exact c3a c O
   rw [List.getElem?_append_right (by exact Nat.le_of_eq R),R,Nat.sub_self] at J
   rw [List.getElem?_append_right (Nat.le_refl _),Nat.sub_self] at B;obtain rfl:=c7p J;obtain rfl:=c7p B;exact ⟨j,a,rfl⟩
 ·rcases d p B with h | rfl
  ·exact W.gl p h
  ·exact ⟨V,Y⟩
 ·rcases c8w B with h | h
  ·exact W.wt p h
  ·rw[(c8x h)];exact ⟨V,Y⟩
section
variable {Q:v9}{n:Nat}{cells:List Int}{bl:Int}{nums:List Nat}{b:Bv}
theorem b5k {W0:v9} (A:cells.length<=50) (X:LA cells bl lay C H st lh k nums ps bs (some ws) false) (v:LW lay h r) (W:Wd h m st.nd nums ws gs gn) (E:h<=6) (K:m<=2) (I:k<=900) (Y:ws.length<=2)
  (q:∀ B u Z O (p:Nat×Nat) d j,LA cells bl B u Z O lh (k+2) (nums++[h+1+m+j]) ps bs (some (ws++[p])) false->Ly lay B->Wd h m O.nd (nums++[h+1+m+j]) (ws++[p]) d (gn++[h+1+m+j])->W0 .next r Z) :
  (d9 (r8 (i8 (d6 D0) m8 (d7 (B6 (d7 (A4 l8 (d7 (d6 w8) (d7 (p7 .add (d6 t9) (h9 (.int 1))) f4))) (d7 (A4 l8 (d7 (d6 w8) (d7 (p7 .add (d6 t9) (h9 (.int 1))) f4))) f4))) f4)))
  (d9 (r8 (i8 (d6 i9) m8 (d7 (i8 (d6 u6) a1W (d7 (h9 (.str "g")) (d7 (B6 (d7 (k8 (d6 i9) (k8 (k8 (d6 D0) (K3 (h9 (.int 1)))) (h9 (.int 0)))) (d7 (k8 (d6 i9) (k8 (k8 (d6 D0) (K3 (h9 (.int 1)))) (h9 (.int 1)))) f4))) f4))) f4)))
  m6)) (j3 FT (n+8)) r H W0:=by
 have l:nums.length<=17:=by rw[W.nums];rw[c7P];rw[c70];rw[W.wl];exact c3B E K Y
 have o:(iL nums).length<=o9:=by rw[(m9 ..)];exact l5 l
 have J:st.nd.length=h+1+m+gs.length:=by rw[W.nd];rw[Q7];rfl
 have le:=W.le;have hn:∀ i,i < h+1->nums[i]?=some i:=λi G=>by rw[W.nums];refine b9 (c8h (by rw[c70];exact b5q G)) ?_;refine b9 (List.getElem?_range (b5q G)) ?_;rfl
 refine g8 (B4 (E9 (n8 v.wide) (X.L.at_ _ _ (X.c5 ws rfl)) (d8 (I4 (d8 (P1 (d8 (f6 v.feed (d8 (w9 (f6 v.high (m0 (s6 (g9 (draw (n:=n+7) (many:=h+1) X A (c1C I) (c7S h) λC1 H1 x U S=>d8 (P1 (d8 (f6 v.feed (d8 (w9 (f6 v.high (m0 (s6 (g9 (draw (n:=n+7) (many:=h+1) S A (c1B I) (c7S h) λM N y V T=>g9 (g9 (T.app5 (p:=(x,y)) (b5m Y) λF=>?_)))))))))))))))))))))))))))
 generalize N.set (lay (.ow 5)) (.list ((ws++[(x,y)]).map K0))=w at F ⊢;generalize upd M (.ow 5) (.list ((ws++[(x,y)]).map K0))=C3 at F ⊢;have s:((ws++[(x,y)]).map K0).length<=o9:=by rw[(c7f ..)];rw[c7P];exact l5 (by show ws.length+1<=17;exact c1n Y)
 have t:((ws++[(x,y)]).map K0).getLast?=some (K0 (x,y)):=by rw[c7T];exact List.getLast?_concat
 have D:∀ {Q:l7} {j:Nat} {z:Nat},[f5.int (x:Nat),.int (y:Nat)][j]?=some (.int (z:Nat))->z < h+1->Q (.int (z:Nat)) w->k8 (d6 i9) (k8 (k8 (d6 D0) (K3 (h9 (.int 1)))) (h9 (.int (j:Nat)))) (j3 FT (n+8)) r w Q:=λ{Q j z} hj hz q =>
  B2 (f6 v.nums (B2 (a3z (n8 v.wide) (F.L.at_ _ _ (F.c5 _ rfl)) s t (m0 (a2g (i:=j) (by show 2<=1000000;decide) hj (D9 (F.L.at_ _ _ F.c2) o (a4P (hn z hz)) q))))))
 refine g8 (b:=m6) (Q:=W0) (B4 (E9 (n8 v.nums) (F.L.at_ _ _ F.c2) (d8 (a1m F rfl rfl (n8 v.heap) (d8 (m0 (d8 (I4 (d8 (D (j:=0) rfl U (d8 (D (j:=1) rfl V (g9 (g9 ?_))))))))))))));refine F.add (n:=n+3) (c:='g') (ks:=[x,y]) (c4W E K Y J le) (by decide) (by decide) (c7l 2) (λz hz=>?_) (λp R=>?_) λB u Z O P ly f=>?_
 ·rcases c8z hz with rfl | hz
  ·exact c5T J U
  ·rw[(c8x hz)];exact c5T J V
 ·refine j5 (W.find R) λj h1 q1=>?_;subst q1;exact g9 (F.app2 rfl l λa=>q lay _ _ st (x,y) gs j a (.refl _) (W.more U V W.nd h1 (λ_ _ e=>e) (λp R=>.inl R) (Nat.le_succ _)))
 ·rw[J];refine g9 (P.app2 (ly.ow 2) l λa=>q B _ _ O (x,y) (gs++[(x,y)]) gs.length a ly (W.more U V ?_ (List.getElem?_concat_length ..) (λi p e=>by rw[(c8h (c8r e).1)];exact e) (λp R=>(c8w R).imp id c8x) (by rw[c7P];exact c7l _)))
  rw[f];rw[W.nd];unfold base;rw[(List.append_assoc ..)];rw[(List.append_assoc ..)];rw[c7T];exact (List.append_assoc ..).symm▸rfl
structure LG (lay:Slot->Nat) (h:Nat) (r:En):Prop extends LW lay h r where
 gram:r P4=some (.ref (lay (.ow 6)))
theorem LG.ly {lay q:Slot->Nat} (v:LG lay h r) (y:Ly lay q):LG q h r:=⟨v.toLW.ly y,by rw[(y.ow ..)];exact v.gram⟩
variable {fs:List (Nat×Nat)}{C':B3}{H':Hp}
theorem LA.new5 (X:LA cells bl lay C H st lh k nums ps bs none false) (ha:H a=none):LA cells bl (K4 lay (.ow 5) a) (upd C (.ow 5) (.list (([]:List (Nat×Nat)).map K0))) (H.set a (.list (([]:List (Nat×Nat)).map K0))) st lh k nums ps bs (some []) false :=
 ⟨X.L.take ha,X.E.own,X.I,X.D,X.c0.imp λ_ e=>e,X.c1,X.c2,X.c3,X.c4,λw e=>by have q:=E0 e;clear e;subst q;exact D3,λh=>nomatch h⟩
theorem LA.gram {W:l7} (X:LA cells bl lay C H st lh k nums ps bs (some ws) false)
  (q:∀ a d F B,LA cells bl (K4 (K4 lay (.ow 7) d) (.ow 6) a) F B st lh k nums ps bs (some ws) true->W (.ref a) B):b1X (j3 FT (n+1)) y0 [.ref (lay (.eg 0))] H W:=λa d U V Y=>by
 have J:=X.L.take (s:=.ow 7) (o:=.ns []) V;have O:=J.take (s:=.ow 6) (o:=.inst y0 d) (a:=a) (by rw[(J9 Y)];exact U)
 refine s9 rfl rfl (g8 (w6 (f6 rfl (a16 (sI:=.ow 6) (sN:=.ow 7) (c:=y0) (fs:=[]) O (n8 rfl) rfl rfl (c7q _) λR=>?_))));exact ⟨rfl,q a d _ _ ⟨R,X.E.own.own.ow,X.I,X.D,X.c0.imp λ_ e=>e,X.c1,X.c2,X.c3,X.c4,X.c5,λ_=>⟨rfl,rfl⟩⟩⟩
structure Bd (h k:Nat) (bs:List Nat) (ps gs ws lh:List (Nat×Nat)) (a b:Nat) (gn:List Nat) (nums:List Nat) (st:St):Prop where
 S:Hs h k bs ps gs lh a b st.nd
 N:b9W h k ws gs a b gn
 nums:nums=List.range (h+1+k)++gn++[h+1+k+gs.length]
 wt:∀ p∈ws,p.1 < h+1/\p.2 < h+1
 w0:0 < ws.length
 w2:ws.length<=2
 pt:∀ p∈ps,p.1 < h+1/\p.2 < h+1
 le:gs.length<=ws.length
theorem b3P (cl:cells.length<=50) (X:LA cells bl lay C H st lh k (List.range (h+1+m)) ps bs none false) (v:LV lay h r) (S:h<=6) (D:m<=2) (hk:k<=100) (a6:st.nd=base h m []) (F:Lf h m bs ps lh) (pt:∀ p∈ps,p.1 < h+1/\p.2 < h+1)
  (q:∀ U C' H' r' s gs ws gn nums a b' k',LA cells bl U C' H' s lh k' nums ps bs (some ws) true->LG U h r'->Bd h m bs ps gs ws lh a b' gn nums s->s.wt=[]->k'<=k+5->b (j3 FT (n+8)) r' H' Q) :
  d9 (p9 (m5 D0) (G0 f4))
 (d9 (S4 [O8] true (K8 (d7 (p7 .add (h9 (.int 1)) (A4 l8 (d7 (d6 w8) (d7 (h9 (.int 2)) f4)))) f4))
  (d9 (r8 (i8 (d6 D0) m8 (d7 (B6 (d7 (A4 l8 (d7 (d6 w8) (d7 (p7 .add (d6 t9) (h9 (.int 1))) f4))) (d7 (A4 l8 (d7 (d6 w8) (d7 (p7 .add (d6 t9) (h9 (.int 1))) f4))) f4))) f4)))
  (d9 (r8 (i8 (d6 i9) m8 (d7 (i8 (d6 u6) a1W (d7 (h9 (.str "g")) (d7 (B6 (d7 (k8 (d6 i9) (k8 (k8 (d6 D0) (K3 (h9 (.int 1)))) (h9 (.int 0)))) (d7 (k8 (d6 i9) (k8 (k8 (d6 D0) (K3 (h9 (.int 1)))) (h9 (.int 1)))) f4))) f4))) f4)))
  m6)))
 (d9 (r8 (i8 (d6 i9) m8 (d7 (i8 (d6 u6) a1W (d7 (h9 (.str "g")) (d7 (B6 (d7 (k8 (d6 i9) (K3 (h9 (.int 1)))) (d7 (k8 (d6 i9) (K3 (P9 .len (d7 (d6 D0) f4)))) f4))) f4))) f4)))
 (d9 (r8 (i8 (d6 u6) a0r f4))
 (d9 (p9 (m5 P4) (a6p y0 (d7 (d6 u6) f4))) b)))) (j3 FT (n+8)) r H Q:=by
 refine g8 (w6 (V1 (g9 λP a3=>z0 ?_)));have X0:=X.new5 a3;have v0:LW (K4 lay (.ow 5) P) h (r.set D0 (.ref P)):=⟨⟨v.feed,v.heap,v.high,v.nums,v.pairs,v.begs⟩,rfl⟩;generalize K4 lay (.ow 5) P=G at X0 v0;generalize r.set D0 (.ref P)=r0 at v0 ⊢;have W0:Wd h m st.nd (List.range (h+1+m)) [] [] []:=⟨a6,(c8d _).symm,rfl,(λl m p e=>nomatch e),(λp E=>nomatch E),(λp E=>nomatch E),c7l _⟩
 refine g8 (a13 (d8 (w9 (m0 (P1 (d8 (f6 v0.feed (d8 (m0 (g9 (draw (n:=n+7) (many:=2) X0 cl (b9v hk) (by decide) λC1 H1 c u X1=>s6 (g9 ?_))))))))))))
 rw[(show (1:Int)+((c:Nat):Int)=((1+c:Nat):Int) by exact rfl)]
 refine a1k (m:=1+c) (by unfold o9;exact c7g (c7x (c74 u) _) (c7d rfl)) (λi r2 H2=>∃ O C2 t B R Z J,LA cells bl O C2 H2 t lh (k+1+2 * i) B ps bs (some R) false/\LW O h r2/\Wd h m t.nd B R Z J/\R.length=i) ⟨G,C1,st,_,[],[],[],X1,v0,W0,rfl⟩ (λr2 H2 z=>?_) λi r2 H2 hi z W hW _=>?_
 ·obtain ⟨O,C2,t,B,R,Z,J,f,V,Y,o⟩:=z;have le:=Y.le;have N:=Y.wl;have nn:=Y.nums;have nl:B.length=h+1+m+R.length:=by rw[nn];rw[c7P];rw[c70];rw[N];rfl
  have K:(iL B).length<=o9:=by rw[(m9 ..)];exact l5 (c5U S D u o nl)
  have w:t.nd.length=h+1+m+Z.length:=by rw[Y.nd];rw[Q7];rfl
  have A:∀ l,l < J.length->∃ j,j < Z.length/\J[l]?=some (h+1+m+j):=λl hl=>by
   refine j5 (Y.at_ l _ _ (c7h hl) (c7h (by refine w3 N ?_;exact hl))) λj h1 h2=>?_
   exact ⟨j,(c8r h1).1,by refine w3 h2 ?_;exact c7h hl⟩
  refine j5 (A (J.length - 1) (c3O o N)) λy a1 a2=>j5 (A 0 (c3N o N)) λT b1 b2=>?_;have la:J.getLast?=some (h+1+m+y):=by refine b9 List.getLast?_eq_getElem? ?_;exact a2
  have na:(iL B).getLast?=some (iV (h+1+m+y)):=by
   unfold iL;refine b9 List.getLast?_map ?_;rw[nn];refine b9 List.getLast?_append ?_;rw[la];rfl
  have nb:(iL B)[(iL B).length - R.length]?=some (iV (h+1+m+T)):=a4P (by rw[(m9 ..)];rw[nl];rw[(Nat.add_sub_cancel ..)];rw[nn];refine b9 (List.getElem?_append_right (by rw[c70];exact c7l _)) ?_;rw[c70];rw[(Nat.sub_self ..)];exact b2)
  refine g8 (B4 (E9 (n8 V.nums) (f.L.at_ _ _ f.c2) (d8 (a1m f rfl rfl (n8 V.heap) (d8 (m0 (d8 (I4 (d8 (a3z (n8 V.nums) (f.L.at_ _ _ f.c2) K na (d8 (B2 (f6 V.nums (a36 (P0 (d8 (f6 V.wide (g9 (L9 (f.L.at_ _ _ (f.c5 _ rfl)) (by rw[(c7f ..)];exact l5 (c2D u o)) ⟨_,rfl,?_⟩)))))))))))))))))))
  rw[(c7f ..)];refine a6H (m:=0) (f.L.at_ _ _ f.c2) K (c5n o) (by rw[(m9 ..)];exact c4A nl) nb (g9 (g9 ?_))
  refine f.add (n:=n+3) (c:='g') (ks:=[h+1+m+y,h+1+m+T]) (c5b S D u o le w) (by decide) (by decide) (c7l 2) (λz hz=>?_) (λp E=>?_) λb3 C3 H3 b5 X3 I a7=>?_
  ·rcases c8z hz with rfl | hz
   ·exact b7d w a1
   ·rw[(c8x hz)];exact b7d w b1
  ·refine j5 (Y.find E) λj h1 _=>?_;have:=(Y.gl _ (c7e h1)).1;have:h+1+m+y < h+1:=this
   omega
  ·rw[w];have M:=V.ly I;refine g9 (X3.app2 (I.ow 2) (c5U S D u o nl) λX4=>?_);refine g8 (B4 (a1m X4 rfl rfl (n8 M.heap) (g9 (X4.settle (n:=n+3) λb4 C5 H5 a9 X5 a4 a8 w5=>?_))));have x:=M.ly a4;refine g8 (w6 (b04 (d8 (f6 x.heap (g9 (X5.gram (n:=n+7) λa d C6 H6 X6=>z0 ?_))))));refine q _ C6 H6 _ a9 Z R J _ (h+1+m+y) (h+1+m+T) _ X6 ⟨⟨⟨x.feed,x.heap,x.high,x.nums,x.pairs,x.begs⟩,x.wide⟩,rfl⟩ ⟨⟨?_,F.bl,F.b0,F.bt,Y.gl,D,⟨⟨y,a1,rfl⟩,T,b1,rfl⟩,F.tie⟩,⟨N,Y.at_,la,?_⟩,by rw[nn];rfl,Y.wt,by exact c5n o,by exact c2E u o,pt,le⟩ w5 (c2B u)
   ·rw[a8];rw[a7];rw[Y.nd];rfl
   ·refine b9 List.head?_eq_getElem? ?_;exact b2
 ·obtain ⟨O,C2,t,B,R,Z,J,f,V,Y,o⟩:=z;have M:LW O h (r2.set O8 (.int (i:Nat))):=⟨⟨V.feed,V.heap,V.high,V.nums,V.pairs,V.begs⟩,V.wide⟩;exact b5k (n:=n) cl f M Y S D (c3y hk u hi) (c3J u hi o) λU C' H' s p a0 j X' ly W'=>hW _ _ ⟨U,C',s,_,_,a0,_,X',M.ly ly,W',by rw[c7P];rw[o];rfl⟩
variable {Q:l7}
theorem b6f (q:Q (.int (max i j:Nat)) H):biW .max [.int (i:Nat),.int (j:Nat)] H Q :=
 .inr ⟨i,j,rfl,by rw[(show max (i:Int) (j:Int)=((max i j:Nat):Int) by exact b9y)];exact q⟩
theorem b6e {i j:Int} (q:Q (.int (max i j)) H):biW .max [.int i,.int j] H Q:=.inr ⟨i,j,rfl,q⟩
theorem b8x {v x y:Int} {Q:N4} (q:Q (decide (v=x\/v=y)) H):Y7 .isin (.int v) (.tup [.int x,.int y]) H Q:=.inr (.inl ⟨_,rfl,rfl,rfl,by
 have e:∀ {i:Decidable (f5.int v∈[f5.int x,f5.int y])},@decide _ i=decide (v=x\/v=y):=λ{i}=>decide_eq_decide.mpr ⟨λm=>by
  rcases c8z m with e | m
  ·exact .inl (f5.int.inj e)
  ·exact .inr (f5.int.inj (c8x m)),λz=>z.elim (λe=>e▸c7j) λe=>e▸c7i _ c7j⟩
 rw[e];exact q⟩)
theorem b7n {o:Nat×Int} (h:r x=some (A0 o)) (q:Q (.int (o.1:Nat)) H):k8 (d6 x) (h9 (.int 0)) K r H Q :=
 B2 (f6 h (m0 (a2g (i:=0) (by show 2<=1000000;decide) rfl q)))
theorem b0q {o:Nat×Int} (h:r x=some (A0 o)) (q:Q (.int o.2) H):k8 (d6 x) (h9 (.int 1)) K r H Q :=
 B2 (f6 h (m0 (a2g (i:=1) (by show 2<=1000000;decide) rfl q)))
theorem a5Z {x y:Nat×Int} (q:Q (A0 (ovO x y)) H):(j3 FT (n+1)).call 0 M4 [A0 x,A0 y] H Q:=by
 refine s9 rfl rfl (g8 (G4 (I4 (d8 (w9 (m0 (P0 (d8 (b7n (o:=x) rfl (d8 (b7n (o:=y) rfl (g9 (b6f (s6 (d8 (a3o (B9 (a36 (m0 ⟨1,rfl,I4 (d8 (b0q (o:=x) rfl (d8 (b0q (o:=y) rfl (g9 (b8x ⟨λt=>?_,λt=>?_⟩))))))⟩)))))))))))))))))))
 ·have t:=c7n t;have:a8x x.2 y.2=-1:=c7X (t.imp Eq.symm Eq.symm);have q:Q (.tup [.int ((1+max x.1 y.1:Nat):Int),.int (a8x x.2 y.2)]) H:=q;rw [this,show ((1+max x.1 y.1:Nat):Int)=1+((max x.1 y.1:Nat):Int) by exact c5i] at q
  exact a36 (m0 ⟨1,rfl,g9 q⟩)
 ·have t:=c78 t;have:a8x x.2 y.2=1+max x.2 y.2:=c7W λz=>t (z.imp Eq.symm Eq.symm);have q:Q (.tup [.int ((1+max x.1 y.1:Nat):Int),.int (a8x x.2 y.2)]) H:=q;rw [this,show ((1+max x.1 y.1:Nat):Int)=1+((max x.1 y.1:Nat):Int) by exact c5i] at q
  exact w9 (m0 (P0 (d8 (b0q (o:=x) rfl (d8 (b0q (o:=y) rfl (g9 (b6e (s6 (g9 q))))))))))
theorem b66 {α:Type} {l:List α} {f1 f2:α->f5} {g:α->List f5} {elt:Ev} {x y:Nm} {ifs:Cv} (W:(l.flatMap g).length<=o9) (J:a6e it K r H (l.map λa=>.tup [f1 a,f2 a]))
  (h:∀ a∈l,∀ B,m7 H B->∀ P:List f5->Hp->Prop,(∀ F,m7 B F->P (g a) F)->a2E elt ifs K ((r.set x (f1 a)).set y (f2 a)) B P)
  (q:∀ B a,m7 H B->B a=none->Q (.ref a) (B.set a (.list (l.flatMap g)))):A9 elt [x,y] false it ifs K r H Q :=
 J _ λsrc b R Y=>Z8 Y W (λv Z B O P U=>⟨_,a7w,h v Z B (R.trans O) P U⟩) λB O a V=>q B a (R.trans O) V
theorem b8z {x:f5} {l:List f5} (J:∀ Q:l7,Q (.ref a) H->e K r H Q) (h:H a=some (.list (x :: l))) (q:l.length+1<=o9):a6e (D8 (a0N e (h9 (.int 1)))) K r H l :=
 a4R λR B=>a5k (J _ (m0 ⟨x :: l,1,rfl,by exact Int.le_refl 1,by simp;exact Int.le_add_of_nonneg_left (c7C _),q,.inr ⟨a,rfl,h,by show l.length<=o9;exact Nat.le_of_succ_le q,λb F=>B b _ (.new F) l9⟩⟩))
theorem b8p {x y:Nm} (O:r y=some (.ref a)) (h:H a=some (.list (told.map A0))) (F:told.length<=17) (J:r x=some (.int (i:Nat))) (B:i < told.length) (q:Q (A0 (k9 told i)) H):k8 (d6 y) (d6 x) K r H Q :=
 B2 (f6 O (f6 J (D9 h (by rw[(c7f ..)];exact l5 F) (by rw[c7m];rw[(c7h B)];unfold k9;rw[c7w];rw[(c7h B)];rfl) q)))
theorem c56 {a ab i:Nat} {Q:v9} {b:Bv} (t:r x9=some (.ref a)) (ha:H a=some (.list (told.map A0))) (hb:r F7=some (.ref ab)) (L:H ab=some (.list (iL bs))) (hw:r D0=some (.ref i)) (j:H i=some (.list (ws.map K0))) (Z:told.length=h+1) (A:h<=6) (b0:bs[0]?=some 0) (bl:bs.length<=3) (bt:∀ x∈bs,x < h+1) (wt:∀ p∈ws,p.1 < h+1/\p.2 < h+1) (D:0 < ws.length) (E:ws.length<=2)
  (q:∀ c d d' x y,m7 H c->ws.getLast?=some x->ws.head?=some y->c d=some (.list ((b1o told bs ws++[ovO (ovO (k9 told x.1) (k9 told x.2)) (ovO (k9 told y.1) (k9 told y.2))]).map A0))->b (j3 FT (n+2)) ((r.set x8 (.ref d')).set x8 (.ref d)) c Q) :
  (d9 (p9 (m5 x8) (p7 .add (d6 x9) (A9 (k8 (d6 x9) (d6 V7)) [V7] true (D8 (a0N (d6 F7) (h9 (.int 1)))) J4)))
  (d9 (p9 (m5 x8) (p7 .add (d6 x8) (A9 (A4 M4 (d7 (k8 (d6 x9) (d6 N8)) (d7 (k8 (d6 x9) (d6 y7)) f4))) [N8,y7] false (D8 (d6 D0)) J4)))
  (d9 (r8 (i8 (d6 x8) m8 (d7 (A4 M4 (d7 (k8 (d6 x8) (K3 (h9 (.int 1)))) (d7 (k8 (d6 x8) (K3 (P9 .len (d7 (d6 D0) f4)))) f4))) f4))) b))) (j3 FT (n+2)) r H Q:=by
 obtain ⟨B,rfl⟩:∃ B,bs=0 :: B:=by
  cases bs with
  | nil=>cases b0
  | cons x B=>exact ⟨B,by rw[(c7p b0)];rfl⟩
 have F:B.length<=2:=Nat.le_of_succ_le_succ bl;have O:told.length<=17:=by exact c2i Z A
 have g1:(B.flatMap λx=>[A0 (k9 told x)])=(B.map (k9 told)).map A0:=by rw[(J5 ..)];rw[c7U];rfl
 have g2:(ws.flatMap λp=>[A0 (ovO (k9 told p.1) (k9 told p.2))])=(ws.map λp=>ovO (k9 told p.1) (k9 told p.2)).map A0:=by rw[(J5 ..)];rw[c7U];rfl
 refine g8 (w6 (w9 (f6 t (Y4 (l:=B) (f:=iV) (g:=λx=>[A0 (k9 told x)]) (by rw[g1];rw[(c7f ..)];rw[(c7f ..)];exact l5 (b5m F)) (b8z (x:=iV 0) (n8 hb) L (by show (B.map iV).length+1<=o9;rw[(c7f ..)];unfold o9;exact zo5 F)) (λx C c k P K=>?_) λH1 c1 k1 s=>?_))))
 ·have lx:=bt x (c7i _ C);exact O9 (b8p (y:=x9) t (k _ _ ha) O (show _=some (f5.int (x:Nat)) from rfl) (b7b Z lx) (K _ (.refl _)))
 ·rw[g1];refine add_list (m7.new s _ _ (k1 _ _ ha)) l9 (by rw[(c7f ..)];rw[(c7f ..)];rw[(c7f ..)];unfold o9;exact c3w Z A F) λU M=>z0 ?_
  refine w3 c7T ?_;have v:=k1.trans ((m7.new (o:=.list ((B.map (k9 told)).map A0)) s).trans (.new (o:=.list ((told++B.map (k9 told)).map A0)) M));have l1:((told++B.map (k9 told)).map A0).length<=16:=by rw[(c7f ..)];rw[c7P];rw[(c7f ..)];exact c3x Z A F
  have G:=v _ _ ha;have z:=v _ _ j;have d2:((H1.set c1 (.list ((B.map (k9 told)).map A0))).set U (.list ((told++B.map (k9 told)).map A0))) U=some (.list ((told++B.map (k9 told)).map A0)):=l9;generalize (H1.set c1 (.list ((B.map (k9 told)).map A0))).set U (.list ((told++B.map (k9 told)).map A0))=H2 at v G z d2 ⊢;have N:(r.set x8 (.ref U)) x9=some (.ref a):=t;refine g8 (w6 (w9 (f6 rfl (b66 (l:=ws) (f1:=λp=>iV p.1) (f2:=λp=>iV p.2) (g:=λp=>[A0 (ovO (k9 told p.1) (k9 told p.2))]) (by rw[g2];rw[(c7f ..)];rw[(c7f ..)];exact l5 (b5m E)) (a4R λR hR=>f6 (show (r.set x8 (.ref U)) D0=some (.ref i) from hw) (hR i H2 (.refl _) z)) (λp t c k P K=>?_) λH3 c3 T W=>?_))))
  ·refine eA (wt p t) λp1 p2=>?_;have u:(((r.set x8 (.ref U)).set N8 (iV p.1)).set y7 (iV p.2)) x9=some (.ref a):=N;exact O9 (P1 (d8 (b8p (y:=x9) u (k _ _ G) O (show _=some (f5.int (p.1:Nat)) from rfl) (b7b Z p1) (d8 (b8p (y:=x9) u (k _ _ G) O (show _=some (f5.int (p.2:Nat)) from rfl) (b7b Z p2) (g9 (a5Z (n:=n+1) (K _ (.refl _)))))))))
  ·rw[g2];refine add_list (m7.new W _ _ (T _ _ d2)) l9 (by rewrite [List.length_map (as:=ws.map λp=>ovO (k9 told p.1) (k9 told p.2)),List.length_map (as:=ws)];unfold o9;exact c2V E l1) λV Y=>z0 ?_
   refine w3 c7T ?_;have X:=v.trans (T.trans ((m7.new (o:=.list ((ws.map λp=>ovO (k9 told p.1) (k9 told p.2)).map A0)) W).trans (.new (o:=.list ((told++B.map (k9 told)++ws.map λp=>ovO (k9 told p.1) (k9 told p.2)).map A0)) Y)));have I:H V=none:=by
    cases e:H V with
    | none=>rfl
    | some o=>rw [m7.new W _ _ (T _ _ (v _ _ e))] at Y;cases Y
   have l4:((told++B.map (k9 told)++ws.map λp=>ovO (k9 told p.1) (k9 told p.2)).map A0).length<=17:=by
    rw [List.length_map] at l1 ⊢;rw[c7P];rewrite [List.length_map (as:=ws)];rw [List.length_append,List.length_map] at l1 ⊢;exact c4u Z A E F
   have w4:=X _ _ j;have J:((H3.set c3 (.list ((ws.map λp=>ovO (k9 told p.1) (k9 told p.2)).map A0))).set V (.list ((told++B.map (k9 told)++ws.map λp=>ovO (k9 told p.1) (k9 told p.2)).map A0))) V=some (.list ((told++B.map (k9 told)++ws.map λp=>ovO (k9 told p.1) (k9 told p.2)).map A0)):=l9;generalize (H3.set c3 (.list ((ws.map λp=>ovO (k9 told p.1) (k9 told p.2)).map A0))).set V (.list ((told++B.map (k9 told)++ws.map λp=>ovO (k9 told p.1) (k9 told p.2)).map A0))=H4 at X w4 J ⊢
   obtain ⟨x,C⟩:∃ x,ws.getLast?=some x:=by
    cases e:ws.getLast? with
    | some x=>exact ⟨x,rfl⟩
    | none=>rw [List.getLast?_eq_none_iff] at e;rw [e] at D;exact c7Y D (c7J _)
   obtain ⟨y,hy⟩:∃ y,ws.head?=some y:=by
    cases ws with
    | nil=>exact c7Y D (c7J _)
    | cons y _=>exact ⟨y,rfl⟩
   have w:((told++B.map (k9 told)++ws.map λp=>ovO (k9 told p.1) (k9 told p.2)).map A0).getLast?=some (A0 (ovO (k9 told x.1) (k9 told x.2))):=by
    refine b9 List.getLast?_map ?_;refine b9 List.getLast?_append ?_;refine b9 List.getLast?_map ?_;rw[C];rfl
   have first:((told++B.map (k9 told)++ws.map λp=>ovO (k9 told p.1) (k9 told p.2)).map A0)[((told++B.map (k9 told)++ws.map λp=>ovO (k9 told p.1) (k9 told p.2)).map A0).length - ws.length]?=some (A0 (ovO (k9 told y.1) (k9 told y.2))):=by
    rw[c7m];rw[(c7f ..)];rw[c7P];rewrite [List.length_map (as:=ws)];rw[(Nat.add_sub_cancel ..)];refine b9 (List.getElem?_append_right (c7l _)) ?_;rw[(Nat.sub_self ..)];rw[c7m];refine w3 List.head?_eq_getElem? ?_;rw[hy];rfl
   have S:((r.set x8 (.ref U)).set x8 (.ref V)) D0=some (.ref i):=hw;refine g8 (B4 (E9 (n8 rfl) J (d8 (P1 (d8 (a3z (n8 rfl) J (l5 l4) w (d8 (B2 (f6 rfl (a36 (P0 (d8 (f6 S (g9 (L9 w4 (by rw[(c7f ..)];exact l5 (b5m E)) ⟨_,rfl,?_⟩)))))))))))))))
   rw[(c7f ..)];refine a6H (m:=0) J (l5 l4) D (by rw[(c7f ..)];rw[c7P];rewrite [List.length_map (as:=ws)];exact c2s) first (g9 (a5Z (n:=n+1) (g9 (H9 J (l5 l4) ?_))))
   refine q _ V U x y (X.put I) C hy ?_;rw[l9];unfold b1o;rw[(c7T (l₂:=[_]))];rfl
theorem a52 (o:Nat×Int):a1A (A0 o)=true:=rfl
theorem b0G {Q:N4} (B:a1A v=true) (q:Q false H):Y7 .ne v v H Q:=⟨true,.inl (.inl ⟨B,B,by simp⟩),q⟩
variable {Q:v9}{st':St}{b':Nat}
theorem Bd.more (B:Bd h m bs ps gs ws lh a b' gn nums st) (q:p.1 < h+1) (F:p.2 < h+1) (e:st'.nd=st.nd):Bd h m bs (ps++[p]) gs ws (lh++[p]) a b' gn nums st':=by
 have S:=B.S;refine ⟨⟨e.trans S.nd,S.bl,S.b0,S.bt,S.gl,S.k2,S.ab,λt=>⟨λht=>?_,λht=>?_⟩⟩,B.N,B.nums,B.wt,B.w0,B.w2,λt ht=>?_,B.le⟩
 ·rcases c8w ht with ht | ht
  ·exact ((S.tie t).mp ht).imp (c7s _) id
  ·exact .inl (c7t _ ht)
 ·rcases ht with ht | ht
  ·rcases c8w ht with ht | ht
   ·exact c7s _ ((S.tie t).mpr (.inl ht))
   ·exact c7t _ ht
  ·exact c7s _ ((S.tie t).mpr (.inr ht))
 ·rcases c8w ht with ht | ht
  ·exact B.pt t ht
  ·rw[(c8x ht)];exact ⟨q,F⟩
theorem ask {s d:Nat} {due:List (Nat×Int)} (X:LA cells bl lay C H st lh k nums ps bs (some ws) true) (v:LG lay h r) (D:b7h st nums due) (e:nums.length<=17) (m:r x8=some (.ref d)) (l:H d=some (.list (due.map A0))) (a:r N3=some (.int (s:Nat))) (c:s < nums.length)
  (q:∀ B,m7 H B->Q .next r B) :
  (d9 (U9 (V0 (y8 .ne (i8 (d6 P4) P5 (d7 (k8 (d6 i9) (d6 N3)) f4)) (k8 (d6 x8) (d6 N3))) (V0 (y8 .ne (i8 (d6 P4) P5 (d7 (i8 (d6 u6) I3 (d7 (k8 (d6 i9) (d6 N3)) f4)) f4)) (k8 (d6 x8) (d6 N3))) a5x))
    (d9 (I9 (h9 (.bool false)))
    m6)
    m6)
   m6) (j3 FT (n+8+1)) r H Q:=by
 refine eA D λZ w=>?_;clear D;have p:s < due.length:=by refine w3 Z ?_;exact c
 have U:=c7h c;have V:=c7h p;refine eA (w s _ _ U V) λJ t=>?_;generalize nums[s]=x at U J t;generalize due[s]=o at V t;have S:Sy lay C H lh st:=⟨X.L,X.E,X.I⟩;refine eA (X.c6 rfl) λi j=>?_;have G:Gr lay H (lay (.ow 6)):=⟨⟨lay (.ow 7),X.L.at_ _ _ i,X.L.at_ _ _ j⟩⟩;have W:(iL nums).length<=o9:=by rw[(m9 ..)];exact l5 e
 have O:∀ {B:Hp} {Q:l7},m7 H B->Q (.int (x:Nat)) B->k8 (d6 i9) (d6 N3) (j3 FT (n+8+1)) r B Q:=λk q=>B2 (f6 v.nums (f6 a (D9 (k _ _ (X.L.at_ _ _ X.c2)) W (a4P U) q)));have due:∀ {B:Hp} {Q:l7},m7 H B->Q (A0 o) B->k8 (d6 x8) (d6 N3) (j3 FT (n+8+1)) r B Q:=λk q=>B2 (f6 m (f6 a (D9 (k _ _ l) (by rw[(c7f ..)];refine w3 Z ?_;exact l5 e) (by rw[c7m];rw[V];rfl) q)))
 refine g8 (W9 (a0K (B9 (a1P G rfl rfl (n8 v.gram) (d8 (O (.refl _) (g9 (a4N (n:=n+1) S G J t λy F=>due F (b0G (a52 o) ⟨(λz=>nomatch z),λ_=>?_⟩)))))))))
 have R:=S.keep F;have Y:=G.keep F;have g:=X.keep F;have u:=S.lt J;refine a0K (B9 (a1P Y rfl rfl (n8 v.gram) (d8 (a1m g rfl rfl (n8 v.heap) (d8 (O F (g9 (a4O (n:=n+7) R.L R.E R.I.toOk J (g9 (a4N (n:=n+1) R Y u (t.iff λd=>(S.trm J).symm) λf b=>due (F.trans b) (b0G (a52 o) ⟨(λz=>nomatch z),λ_=>a7h ⟨(λz=>nomatch z),λ_=>q f (F.trans b)⟩⟩)))))))))))
theorem LG.due {d q pl:Nat} (v:LG lay h r):LG lay h (((r.set x9 (.ref pl)).set x8 (.ref q)).set x8 (.ref d)):=⟨⟨⟨v.feed,v.heap,v.high,v.nums,v.pairs,v.begs⟩,v.wide⟩,v.gram⟩
theorem b2x (T:cells.length<=50) (X:LA cells bl lay C H st lh k nums ps bs (some ws) true) (v:LG lay h r) (B:Bd h m bs ps gs ws lh a b' gn nums st) (w:st.wt=[]) (Z:h<=6) (hk:k<=200) (pl:ps.length<=4) (tl:lh.length<=8)
  (q:∀ R C' H' r' U p,LA cells bl R C' H' U (lh++[p]) (k+4) nums (ps++[p]) bs (some ws) true->LG R h r'->Bd h m bs (ps++[p]) gs ws (lh++[p]) a b' gn nums U->U.wt=[]->Q .next r' H') :
  (d9 (p9 (m5 x9) (A4 Z0 (d7 (d6 t9) (d7 (d6 A8) (d7 (d6 F7) f4)))))
  (d9 (p9 (m5 x8) (p7 .add (d6 x9) (A9 (k8 (d6 x9) (d6 V7)) [V7] true (D8 (a0N (d6 F7) (h9 (.int 1)))) J4)))
  (d9 (p9 (m5 x8) (p7 .add (d6 x8) (A9 (A4 M4 (d7 (k8 (d6 x9) (d6 N8)) (d7 (k8 (d6 x9) (d6 y7)) f4))) [N8,y7] false (D8 (d6 D0)) J4)))
  (d9 (r8 (i8 (d6 x8) m8 (d7 (A4 M4 (d7 (k8 (d6 x8) (K3 (h9 (.int 1)))) (d7 (k8 (d6 x8) (K3 (P9 .len (d7 (d6 D0) f4)))) f4))) f4)))
  (d9 (S4 [N3] true (D8 (B6 (d7 (A4 l8 (d7 (d6 w8) (d7 (p7 .add (d6 t9) (h9 (.int 1))) f4))) (d7 (A4 l8 (d7 (d6 w8) (d7 (P9 .len (d7 (d6 i9) f4)) f4))) f4))))
   (d9 (U9 (V0 (y8 .ne (i8 (d6 P4) P5 (d7 (k8 (d6 i9) (d6 N3)) f4)) (k8 (d6 x8) (d6 N3))) (V0 (y8 .ne (i8 (d6 P4) P5 (d7 (i8 (d6 u6) I3 (d7 (k8 (d6 i9) (d6 N3)) f4)) f4)) (k8 (d6 x8) (d6 N3))) a5x))
    (d9 (I9 (h9 (.bool false)))
    m6)
    m6)
   m6))
  (d9 (r8 (i8 (d6 A8) m8 (d7 (B6 (d7 (A4 l8 (d7 (d6 w8) (d7 (p7 .add (d6 t9) (h9 (.int 1))) f4))) (d7 (A4 l8 (d7 (d6 w8) (d7 (p7 .add (d6 t9) (h9 (.int 1))) f4))) f4))) f4)))
  (d9 (r8 (i8 (d6 u6) N6 (d7 (k8 (d6 i9) (k8 (k8 (d6 A8) (K3 (h9 (.int 1)))) (h9 (.int 0)))) (d7 (k8 (d6 i9) (k8 (k8 (d6 A8) (K3 (h9 (.int 1)))) (h9 (.int 1)))) (d7 (B6 (d7 (h9 (.str "told")) (d7 (h9 (.str "more")) f4))) f4)))))
  (d9 (r8 (i8 (d6 u6) a0r f4))
  m6)))))))) (j3 FT (n+9)) r H Q:=by
 have S:=B.S;have P:bs.length<=3:=by rw[S.bl];have:=S.k2;exact c1o this
 have a0:=B.N.wl;have w0:=B.w0;have A:=B.w2;have le:=B.le;have k2:=S.k2;have b0:0∈bs:=c7e S.b0;have f:nums.length=h+1+m+ws.length+1:=by rw[B.nums];rw[c7P];rw[c7P];rw[c70];rw[a0];rfl
 have hn:∀ i,i < h+1->nums[i]?=some i:=λi b=>by
  rw[B.nums];refine b9 (c8h (by rw[c7P];rw[c70];exact c5J b)) ?_;refine b9 (c8h (by rw[c70];exact b5q b)) ?_;refine b9 (List.getElem?_range (b5q b)) ?_;rfl
 have a8:st.nd.length=h+1+m+gs.length+1:=S.len;refine g8 (w6 (P1 (d8 (f6 v.high (d8 (f6 v.pairs (d8 (f6 v.begs (g9 (b0c (n:=n+7) (X.L.at_ _ _ X.c3) (X.L.at_ _ _ X.c4) Z (c1u pl) B.pt b0 S.bt λH1 o told mk k1 ha M F j t=>z0 ?_))))))))));have Y:=X.keep k1;refine c56 (n:=n+7) (told:=told) (bs:=bs) (ws:=ws) (r:=r.set x9 (.ref o)) (h:=h) rfl ha v.begs (Y.L.at_ _ _ Y.c4) v.wide (Y.L.at_ _ _ (Y.c5 _ rfl)) j Z S.b0 P S.bt B.wt w0 A λH2 d d' x y k3 hx hy hd=>?_
 have Hx:Hm h m bs ps gs lh a b' mk st:=⟨S,X.I,X.D,w,M,F,B.pt⟩;have D:=b8m Hx (λb=>(⟨X.L,X.E,X.I⟩:Sy lay C H lh st).trm b) B.N j t hx hy;rw [<- B.nums] at D;have V:LG lay h (((r.set x9 (.ref o)).set x8 (.ref d')).set x8 (.ref d)):=v.due;have O:(((r.set x9 (.ref o)).set x8 (.ref d')).set x8 (.ref d)) x8=some (.ref d):=rfl;generalize ((r.set x9 (.ref o)).set x8 (.ref d')).set x8 (.ref d)=r2 at V O ⊢
 have X2:=Y.keep k3;generalize b1o told bs ws++[ovO (ovO (k9 told x.1) (k9 told x.2)) (ovO (k9 told y.1) (k9 told y.2))]=due at D hd;have a9:(iL nums).length<=o9:=by rw[(m9 ..)];exact l5 (b9I Z A k2 f)
 refine g8 (a3Q (I4 (d8 (P1 (d8 (f6 V.feed (d8 (w9 (f6 V.high (m0 (s6 (g9 (b29 (n:=n+8) (many:=h+1) X2 T (c1s hk) (c7S h) λC3 H3 s1 a2 K e3=>d8 (P1 (d8 (f6 V.feed (d8 (P0 (d8 (f6 V.nums (g9 (L9 (K.L.at_ _ _ K.c2) a9 ?_))))))))))))))))))))));rw[(m9 ..)];refine g9 (b29 (n:=n+8) (many:=nums.length) K T (c1r hk) (c4t f) λC4 H4 s2 a3 X4 e4=>g9 ?_);have a1:H4 d=some (.list (due.map A0)):=e4 _ _ (e3 _ _ hd)
 refine .inl ⟨_,rfl,_,a2H (src:=.seq [.int (s1:Nat),.int (s2:Nat)]) [.int (s1:Nat),.int (s2:Nat)] (λi g G=>m7 H4 G/\LG lay h g/\g x8=some (.ref d)) (λ_ _ _ _=>rfl) (λg G z=>?_) (λi u g G hu z W hW _=>?_) _ 0 _ _ (c7y _) (c7q _) ⟨.refl _,V,O⟩⟩
 ·refine eAA z λc J _=>?_;clear z;have X5:=X4.keep c;refine c0y (n:=n+1) X5 J.toLV hn (b9I Z A k2 f) (c4z a8) T (c1q hk) (c1A tl) (c1t pl) (λH Q q=>I4 (d8 (m0 (d8 (m0 (g9 (q _))))))) λb2 C6 H6 b3 p p1 p2 X6 a4 a6=>?_;have l:=J.ly a4;refine g8 (B4 (a1m X6 rfl rfl (n8 l.heap) (g9 (X6.settle (n:=n+4) λe C7 H7 b1 X7 a5 a7 w7=>?_))));exact q e C7 H7 _ b1 p X7 (l.ly a5) (B.more p1 p2 (a7.trans a6)) w7
 ·refine eAA z λc J d5=>?_;clear z;have l:∀ u,LG lay h (g.set N3 u):=λu=>⟨⟨⟨J.feed,J.heap,J.high,J.nums,J.pairs,J.begs⟩,J.wide⟩,J.gram⟩;obtain ⟨s,ls,rfl⟩:∃ s,s < nums.length/\u=.int (s:Nat):=by
   cases i with
   | zero=>exact ⟨s1,by exact c5R f a2,(c7p hu).symm⟩
   | succ i =>
   cases i with
   | zero=>exact ⟨s2,a3,(c7p hu).symm⟩
   | succ i=>cases hu
  exact ⟨_,N0,ask (n:=n) (X4.keep c) (l _) D (b9I Z A k2 f) d5 (c _ _ a1) rfl ls λH7 k7=>hW _ _ ⟨c.trans k7,l _,d5⟩⟩
end
noncomputable def I8 (sl:List Int):List Int:=(sl.take 40).map (· % 1000003)
noncomputable def a6k (cells:List Int):Int:=(cells.map (· % 997)).sum
theorem b1l {u v w:f5}:I0 (["cells","turn","blend"].map f5.str |>.zip [u,v,w])=[(.str "cells",u),(.str "turn",v),(.str "blend",w)]:=by
 show K2 (K2 (K2 [] (.str "cells") u) (.str "turn") v) (.str "blend") w=_;have e:K2 [] (.str "cells") u=[(.str "cells",u)]:=rfl;rw[e];have q:K2 [(.str "cells",u)] (.str "turn") v=[(.str "cells",u),(.str "turn",v)]:=by
  unfold K2;have n:C0 [(.str "cells",u)] (.str "turn")=none:=by unfold C0;simp
  rw[n];rw[(c7W (by simp))];rfl
 rw[q];unfold K2;have n:C0 [(.str "cells",u),(.str "turn",v)] (.str "blend")=none:=by unfold C0;simp
 rw[n];rw[(c7W (by simp))];rfl
theorem b9q {ks:List String} {es:Lv} (h:es K r H λvs q=>vs.length=ks.length/\b0H (I0 ((ks.map f5.str).zip vs)) q Q):a7O ks es K r H Q:=h
theorem b8y {i:Int} (q:Q (.int i) H):biW .int [.int i] H Q:=⟨i,rfl,q⟩
theorem b74 {i:Int} (h:0<=i) (q:Q (.int i) H):biW .abs [.int i] H Q:=⟨i,rfl,h,q⟩
section
variable {Q:v9}{pos:Pos}{n:Nat}{b:Bv}
theorem b3O {B:List Int} (hs:r a3c=some (.fz B)) (hl:B.length<=63) (q:∀ lay C W M st h,h<=6->LA (I8 B) (a6k (I8 B)) lay C W st [] 1 [0] [] [0] none false->LV lay h M->st.nd=tow 0->b (j3 FT (n+8)) M W Q) :
  (d9 (p9 (m5 a2l) (A9 (p7 .mod (P9 .int (d7 (d6 a1Y) f4)) (h9 (.int 1000003))) [a1Y] true (D8 (a9h (d6 a3c) (h9 (.int 40)))) J4))
 (d9 (p9 (m5 w8) (a7O ["cells","turn","blend"] (d7 (d6 a2l) (d7 (h9 (.int 0)) (d7 (P9 .sum (d7 (A9 (p7 .mod (P9 .abs (d7 (d6 a1Y) f4)) (h9 (.int 997))) [a1Y] true (D8 (d6 a2l)) J4) f4)) f4)))))
 (d9 (p9 (R4 [(m5 t9),(m5 u6)]) (B6 (d7 (p7 .add (h9 (.int 3)) (A4 l8 (d7 (d6 w8) (d7 (h9 (.int 4)) f4)))) (d7 (a6p t8 f4) f4))))
 (d9 (p9 (R4 [(m5 i9),(m5 A8),(m5 F7)]) (B6 (d7 (G0 (d7 (i8 (d6 u6) a32 (d7 (B6 (d7 (h9 (.str "x")) f4)) f4)) f4)) (d7 (G0 f4) (d7 (G0 (d7 (h9 (.int 0)) f4)) f4))))) b)))) (j3 FT (n+8)) r H Q:=by
 have G:(B.take 40).length<=40:=List.length_take_le _ _;have e:((B.take 40).flatMap λi=>[f5.int (i % 1000003)])=(I8 B).map f5.int:=by unfold I8;rw[(J5 ..)];rw[c7U];rfl
 have J:(I8 B).length<=40:=by unfold I8;rw[(c7f ..)];exact G
 have a:((I8 B).map f5.int).length<=o9:=by rw[(c7f ..)];unfold o9;exact c7g J (c7d rfl)
 have pos:∀ i∈I8 B,0<=i:=λi U=>by
  unfold I8 at U;refine j5 (c8s U) λx _ q1=>?_;subst q1;exact Int.emod_nonneg x (by decide)
 refine g8 (w6 (Y4 (l:=B.take 40) (f:=f5.int) (g:=λi=>[f5.int (i % 1000003)]) (by rw[e];exact a) (a4R λR u=>b7U (f6 hs (m0 ⟨B,40,rfl,by exact Int.zero_le_ofNat 40,by unfold o9;exact Rat.intCast_lt_intCast.mp rfl,by unfold o9;exact c7g hl (c7d rfl),.inl rfl,by rw[(c7f ..)];exact c7g G (by unfold o9;exact c6B),λx hx=>u x _ (.new hx) l9⟩))) (λi U W k P m=>O9 (w9 (P0 (d8 (f6 rfl (g9 (b8y (m0 (a28 (by exact c7C _) (m _ (.refl _))))))))))) λT E k1 v=>z0 ?_))
 rw[e];have L0:J1 (λ_=>0) (λ_=>none) T:=⟨λs o h=>(by cases h),λs t o p h=>(by cases h)⟩
 have L1:=L0.take (s:=.ow 1) (o:=.list ((I8 B).map f5.int)) v;have g:((I8 B).flatMap λi=>[f5.int (i % 997)])=((I8 B).map (· % 997)).map f5.int:=(J5 _ _).trans (c7U (f:=(· % 997)) (g:=f5.int)).symm;refine g8 (w6 (b9q (d8 (f6 rfl (d8 (m0 (d8 (P0 (d8 (Y4 (l:=I8 B) (f:=f5.int) (g:=λi=>[f5.int (i % 997)]) (by rw[g];rw[(c7f ..)];rw[(c7f ..)];unfold o9;exact c7g J (c7d rfl)) (a4R λR u=>f6 rfl (u E _ (.refl _) l9)) (λi U W k P m=>O9 (w9 (P0 (d8 (f6 rfl (g9 (b74 (pos i U) (m0 (a28 (c6u) (m _ (.refl _))))))))))) λH2 c2 k2 y=>g9 (a8M (l:=(I8 B).map (· % 997)) (by rw[g];exact l9) (g9 ⟨rfl,λep d hd=>z0 ?_⟩))))))))))))
 rw[b1l];have L2:=(L1.keep (k2.trans (.new (o:=.list ((I8 B).flatMap λi=>[f5.int (i % 997)])) y))).take (s:=.ow 0) (o:=.dict [(.str "cells",.ref E),(.str "turn",.int 0),(.str "blend",.int (a6k (I8 B)))] ep) hd;refine g8 (w6 (I4 (d8 (w9 (m0 (P1 (d8 (f6 rfl (d8 (m0 (g9 (b7m (n:=n+7) (many:=4) (k:=0) (bl:=a6k (I8 B)) (cells:=I8 B) L2 rfl rfl (c1x J) (c6w) (by exact Nat.zero_lt_succ 3) λO j hj L3=>s6 (d8 (b04 (g9 (b4h (n:=n+6) L3 λL C4 H4 Z Y K I=>g9 (a4W (.inl rfl) ?_)))))))))))))))))
 rw[(show (3:Int)+((j:Nat):Int)=((3+j:Nat):Int) by exact rfl)]
 refine g8 (w6 (I4 (d8 (V1 (d8 (F6 rfl (Z.at_ _ _ Y.c0) (Z.at_ _ _ Y.c1) rfl (n8 rfl) (d8 (I4 (d8 (m0 (g9 (g9 (b7B (n:=n+2) (c:='x') Z Y c6d b97 (by show 0 < 17;exact c6x) (by decide) (by decide) (λp e=>by cases e) λF D H5 A L5 S V X N z=>g9 λa2 h2=>d8 (V1 (g9 λa3 h3=>d8 (V1 (d8 (m0 (g9 λa4 h4=>g9 (b36 (.inl rfl) ?_))))))))))))))))))))
 have L6:=L5.take (s:=.ow 2) (o:=.list (iL [0])) h2;have L7:=L6.take (s:=.ow 3) (o:=.list (([]:List (Nat×Nat)).map K0)) h3;have L8:=L7.take (s:=.ow 4) (o:=.list (iL [0])) h4;refine q _ _ _ _ A (3+j) (c09 hj) ⟨L8,S.own.own.own,X,N,⟨O,?_⟩,?_,rfl,rfl,rfl,(λw e=>nomatch e),(λe=>nomatch e)⟩ ⟨?_,?_,rfl,rfl,rfl,rfl⟩ (by rw[z];rfl)
 ·show D (.ow 0)=some (.dict [(.str "cells",.ref (F (.ow 1))),_,_] O);rw[(V.con ..)];rw[(I ..)];rw[(V.lay ..)];rw[(K ..)];rfl
 ·show D (.ow 1)=_;rw[(V.con ..)];rw[(I ..)];rfl
 ·show _=some (f5.ref (F (.ow 0)));rw[(V.lay ..)];rw[(K ..)];rfl
 ·show _=some (f5.ref (F (.eg 0)));rw[(V.eg ..)];rfl
end
theorem b59 {n:Nat} {b:List Int} (hl:b.length<=63):(j3 FT (n+10)).call 0 3879159 [.fz b] (λ_=>none) λv _=>v=.bool true:=by
 have c:(I8 b).length<=50:=by unfold I8;rw[(c7f ..)];exact c7g (List.length_take_le _ _) (c6C)
 refine s9 rfl rfl (b3O (n:=n+1) rfl hl λlay C H r st h V X v k=>?_);refine b1K (n:=n+1) X v V k λD C1 H1 r1 a0 X1 v1 l=>b1J (n:=n+1) c X1 v1 V l (c6y) λE C2 H2 r2 a1 L k2 X2 v2 o M pl j=>a9y (n:=n+1) c X2 v2 V o (c1f j) M pl λG C3 H3 r3 a2 I m x k3 m2 X3 v3 s F tl A=>b3P (n:=n+1) c X3 v3 V m2 (c2P j A) s F M λY T H4 r4 t gs P gn nums a b' y X4 v4 B w4 l4=>?_
 refine g8 (a13 (d8 (m0 (g9 (a1k (m:=2) (by unfold o9;exact c75 _ _) (λi d e=>∃ J w R O q g,LA (I8 b) (a6k (I8 b)) J w e R q g nums O x (some P) true/\LG J h d/\Bd h m x O gs P q a b' gn nums R/\R.wt=[]/\g=y+4 * i/\O.length=L.length+i/\q.length=I.length+i)
  ⟨Y,T,t,L,I,y,X4,v4,B,w4,rfl,rfl,rfl⟩ (λd e z=>?_) λi d e f z W hW _=>?_)))))
 ·refine g8 (G4 (m0 ?_));rfl
 ·obtain ⟨J,w,R,O,q,g,X5,U,Q,w5,rfl,K,N⟩:=z;have v6:LG J h (d.set a1p (.int (i:Nat))):=⟨⟨⟨U.feed,U.heap,U.high,U.nums,U.pairs,U.begs⟩,U.wide⟩,U.gram⟩;exact b2x (n:=n) c X5 v6 Q w5 V (c4N j A l4 f) (c3U pl f K) (c3X tl f N) (λZ C7 H7 r7 u p X7 v7 S w7=>hW _ _ ⟨Z,C7,u,_,_,_,X7,v7,S,w7,by exact c1Y,by rw[c7P];rw[K];rfl,by rw[c7P];rw[N];rfl⟩)
end Mine.Internal
namespace Mine.Internal
set_option Elab.async false
open PySem PySem.W PyProof.Rows
theorem c6p:PySem.Challenge.rw_pq0065_01.wellSaid=true:=by
 have h:OpenLaw.wellSaid {prog:=a6f.1,name:=o5 "law",about:=[o5 "Grammar",o5 "heights"],foot:=5,most:=some 63,bound:=none,writes:=false}=true:=by
  (rewrite [PySem.W.Fast.te9446332074065402090];try rfl)
  kernel_rfl
 rw [a6f.2,<-a69] at h;exact h
theorem b89:∀ w,(λos=>(a7y boot_heap w).bind λb=>b6o boot_heap PySem.Challenge.pw_pq0065_01 (λs=>(openSeen (view PySem.Challenge.pw_pq0065_01 [20]) a2j (importedModules PySem.Challenge.pw_pq0065_01.main.body) (λ_=>true) true s,a3R T01 s)) 4000 b w os) =
  λ_=>some (openGood (view PySem.Challenge.pw_pq0065_01 [20]) a2j,(true,a94 T01 PySem.Challenge.pw_pq0065_01)):=λw=>by
 have h:=seen01 w;rw [<- PySem.W.Fast.te4264726734810522163,<-PySem.W.Fast.te4036098521264024637,<-PySem.W.Fast.te4065217944589469274,a6f.2,b7k.2] at h;exact h
theorem c0D:(a94 T01 PySem.Challenge.pw_pq0065_01).map (λo=>o.bind (a58 T01))=a71.map some:=by
 have h:=mini01;rw [a6f.2] at h;exact h
theorem b8B:LeftO PySem.Challenge.pw_pq0065_01 (view PySem.Challenge.pw_pq0065_01 [20]) a2j (λ_=>true) (a3R T01) (λ_=>(true,a94 T01 PySem.Challenge.pw_pq0065_01)) 4000 :=
 b1N (by rfl) rfl (λs=>by rfl) b89
theorem b6Y:b0X T01=true:=by kernel_rfl
theorem b9g:b4T (a4u T01) a71=FT:=c7o (b4T · a71) (show a4u T01=b3K by kernel_rfl)
theorem b56:T01.fns.contains PySem.Challenge.rw_pq0065_01.name=true:=by decide +kernel
theorem b6k:nm PySem.Challenge.rw_pq0065_01.name=3879159:=by decide +kernel
theorem b8Q (q:List Int) (h:q.length<=63):∃ n,n<=40/\(j3 FT n).call 0 3879159 [.fz q] (λ_=>none) λv _=>v=.bool true:=⟨10,by decide,b59 (n:=0) h⟩
end Mine.Internal
end
section
set_option Elab.async false
set_option maxHeartbeats 8000000 in
theorem PySem.Challenge.cw_pq0065_01_holds : PySem.Challenge.rw_pq0065_01.Holds := by
 refine PySem.W.holds_law Mine.Internal.c6p λ_=>PySem.W.holds_open (q:=PySem.W.view PySem.Challenge.pw_pq0065_01 [20]) (loose:=Mine.Internal.a2j) (Xt:=λ_=>true) (XP:=λ_ _=>True) (Yf:=Mine.Internal.a3R Mine.Internal.T01) (Ya:=λ_=>(true,Mine.Internal.a94 Mine.Internal.T01 PySem.Challenge.pw_pq0065_01))
  (YP:=λ_ h=>Mine.Internal.b2H Mine.Internal.T01 (Mine.Internal.a94 Mine.Internal.T01 PySem.Challenge.pw_pq0065_01) h) (N:=4000) Mine.Internal.b8B (λ_ _ e=>Mine.Internal.b6x e) (λ_ _ _ x k=>Mine.Internal.a9T x k) (λ_ _=>trivial) (λ_ _ _ _ _=>trivial) (by rfl) (by rfl) (by rfl) ?hR (by rfl) (by assumption) (by decide +kernel) ⟨rfl,rfl,rfl,rfl,rfl,by decide +kernel⟩ ?hw ?hc
 case hw=>w_witness2
 case hR=>exact λs _=>PySem.W.recFacts_of (s:=s) rfl
 case hc =>
  intro w s₀ s₁ mg mb G Y a o pm cd doc dV kV ho hd hcd hD hmg hg args vals as hpre hlay hrd hwl hlo;exact Mine.Internal.b3N (l:=PySem.Challenge.rw_pq0065_01) Mine.Internal.b6Y Y Mine.Internal.c0D Mine.Internal.b9g G.T.g hmg Mine.Internal.b56 hg hpre hrd rfl rfl λsl hsl=>by
   (rewrite [Mine.Internal.b6k];try rfl);exact Mine.Internal.b8Q sl hsl
end
end
