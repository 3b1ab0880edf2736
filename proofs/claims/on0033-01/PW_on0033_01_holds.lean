import PyProof.Rows.All
import KE.KDictSum
import KE.KSortTup
import Wide.FinOn
import PySem.Challenge.RW_on0033_01
open PySem PySem.W PyProof.Rows
set_option Elab.async false
set_option linter.all false
set_option maxHeartbeats 8000000
set_option maxRecDepth 100000
set_option tactic.hygienic false
namespace Mine
theorem ae{m n:Nat}(h:Nat.ble m n=true:=by rfl):m≤n:=Nat.le_of_ble_eq_true h
theorem af:type_of%@wpAny_bind:=@wpAny_bind
theorem ai:type_of%@List.mem_cons_self:=@List.mem_cons_self
theorem aj:type_of%@List.mem_cons_of_mem:=@List.mem_cons_of_mem
theorem ak:type_of%@wpAny_pure:=@wpAny_pure
theorem al:type_of%@Nat.lt_of_lt_of_le:=@Nat.lt_of_lt_of_le
theorem am:type_of%@Nat.le_trans:=@Nat.le_trans
theorem an:type_of%@List.not_mem_nil:=@List.not_mem_nil
theorem aq:type_of%@List.mem_singleton:=@List.mem_singleton
theorem au:type_of%@List.getElem?_append_left:=@List.getElem?_append_left
theorem ax:type_of%@Nat.le_refl:=@Nat.le_refl
theorem ay:type_of%@Nat.lt_of_le_of_lt:=@Nat.lt_of_le_of_lt
theorem aA:type_of%@Heap.get?_push_of_some:=@Heap.get?_push_of_some
theorem aB:type_of%@List.prefix_refl:=@List.prefix_refl
theorem aC:type_of%@List.getElem?_eq_getElem:=@List.getElem?_eq_getElem
theorem aE:type_of%@List.getElem?_eq_some_iff:=@List.getElem?_eq_some_iff
theorem aF:type_of%@of_decide_eq_true:=@of_decide_eq_true
theorem aH:type_of%@wpAny_mono:=@wpAny_mono
theorem aJ:type_of%@List.length_map:=@List.length_map
theorem aL:type_of%@List.getElem?_append_right:=@List.getElem?_append_right
theorem aN:type_of%@Nat.ne_of_lt:=@Nat.ne_of_lt
theorem aO:type_of%@List.length_append:=@List.length_append
theorem aP:type_of%@List.mem_cons:=@List.mem_cons
theorem aQ:type_of%@Heap.get?_push_size:=@Heap.get?_push_size
theorem aR:type_of%@List.append_assoc:=@List.append_assoc
theorem aS:type_of%@Nat.zero_le:=@Nat.zero_le
theorem aU:type_of%@Ne.symm:=@Ne.symm
theorem aW:type_of%@Nat.le_add_right:=@Nat.le_add_right
theorem aX:type_of%@Option.some.inj:=@Option.some.inj
theorem a8:type_of%@Bool.and_eq_true_iff:=@Bool.and_eq_true_iff
theorem a9:type_of%@wpAny_holding:=@wpAny_holding
theorem bf:type_of%@Nat.lt_trans:=@Nat.lt_trans
theorem bh:type_of%@decide_eq_true:=@decide_eq_true
theorem bi:type_of%@Heap.SameBut.update:=@Heap.SameBut.update
theorem bj:type_of%@List.mem_append:=@List.mem_append
theorem bn:type_of%@List.append_nil:=@List.append_nil
theorem bo:type_of%@Heap.lt_size:=@Heap.lt_size
theorem br:type_of%@Heap.size_push:=@Heap.size_push
theorem bu:type_of%@Array.length_toList:=@Array.length_toList
theorem bA:type_of%@List.mem_append:=@List.mem_append
theorem bD:type_of%@Nat.le_succ_of_le:=@Nat.le_succ_of_le
theorem bH:type_of%@List.mem_map:=@List.mem_map
theorem bK:type_of%@Nat.add_le_add_left:=@Nat.add_le_add_left
theorem bL:type_of%@Nat.add_le_add_right:=@Nat.add_le_add_right
theorem bN:type_of%@Nat.ne_of_gt:=@Nat.ne_of_gt
theorem bO:type_of%@List.length_set:=@List.length_set
theorem bR:type_of%@Option.map_eq_some_iff:=@Option.map_eq_some_iff
theorem bS:type_of%@Nat.not_lt:=@Nat.not_lt
theorem bW:type_of%@List.forall_mem_cons:=@List.forall_mem_cons
theorem bX:type_of%@Nat.lt_irrefl:=@Nat.lt_irrefl
theorem bY:type_of%@Nat.lt_succ_self:=@Nat.lt_succ_self
theorem b0:type_of%@Bool.false_ne_true:=@Bool.false_ne_true
theorem cf:type_of%@Bool.or_eq_true_iff:=@Bool.or_eq_true_iff
theorem cj:type_of%@List.prefix_append:=@List.prefix_append
theorem cu:type_of%@List.nodup_append:=@List.nodup_append
theorem cB:type_of%@List.all_eq_true:=@List.all_eq_true
theorem cC:type_of%@List.mem_filter:=@List.mem_filter
theorem cD:type_of%@Nat.lt_or_ge:=@Nat.lt_or_ge
theorem cT:type_of%@Nat.le_of_lt:=@Nat.le_of_lt
variable{p:Addr×Addr}{X:Addr→Prop}{A:Around}{items:Array Value}{env:Env}{M:Expr→Prop}{h h':Heap}{es:List DictEntry}{vs:List Value}{B i n:Nat}{pos:Pos}{P:Prop}{s s':Shared}{fa:String×String→Option Addr}{mb mg:Str→Option Value}{α:Type}{x y z:Value}{Er:Value→Shared→Prop}
theorem xa{p q:Prop}(h:p∧q)(k:p→q→P):P:=k h.1 h.2
theorem ni{p q r:Prop}(h:p∧q∧r)(k:p→q→r→P):P:=k h.1 h.2.1 h.2.2
theorem nU{p q r s:Prop}(h:p∧q∧r∧s)(k:p→q→r→s→P):P:=k h.1 h.2.1 h.2.2.1 h.2.2.2
theorem vB{p q r s t:Prop}(h:p∧q∧r∧s∧t)(k:p→q→r→s→t→P):P:=k h.1 h.2.1 h.2.2.1 h.2.2.2.1 h.2.2.2.2
theorem CS{p q r s t u:Prop}(h:p∧q∧r∧s∧t∧u)(k:p→q→r→s→t→u→P):P:=k h.1 h.2.1 h.2.2.1 h.2.2.2.1 h.2.2.2.2.1 h.2.2.2.2.2
theorem xp{A:Type}{p:Prop}{q:A→Prop}(h:p∧∃x,q x)(k:p→∀x,q x→P):P:=h.2.elim fun x f1=>k h.1 x f1
theorem CT{A:Type}{p:Prop}{q r:A→Prop}(h:p∧∃x,q x∧r x)(k:p→∀x,q x→r x→P):P:=h.2.elim fun x f1=>k h.1 x f1.1 f1.2
theorem vC{A B:Type}{p:Prop}{q r:A→B→Prop}(h:p∧∃x y,q x y∧r x y)(k:p→∀x y,q x y→r x y→P):P:=h.2.elim fun x f1=>f1.elim fun y f1=>k h.1 x y f1.1 f1.2
theorem xe{A:Type}{p:A→Prop}(h:∃x,p x)(k:∀x,p x→P):P:=h.elim fun x h=>k x h
theorem bG{A:Type}{p q:A→Prop}(h:∃x,p x∧q x)(k:∀x,p x→q x→P):P:=h.elim fun x h=>k x h.1 h.2
theorem f7{A:Type}{p q r:A→Prop}(h:∃x,p x∧q x∧r x)(k:∀x,p x→q x→r x→P):P:=h.elim fun x h=>k x h.1 h.2.1 h.2.2
theorem Fd{A:Type}{p q r s:A→Prop}(h:∃x,p x∧q x∧r x∧s x)(k:∀x,p x→q x→r x→s x→P):P:=h.elim fun x h=>k x h.1 h.2.1 h.2.2.1 h.2.2.2
theorem yr{A B:Type}{p q:A→Prop}{r:A→B→Prop}(h:∃x,p x∧q x∧∃y,r x y)(k:∀x,p x→q x→∀y,r x y→P):P:=h.elim fun x h=>h.2.2.elim fun y f1=>k x h.1 h.2.1 y f1
theorem lT{A B C D:Type}{p q:A→Prop}{r s t u:A→B→C→D→Prop}(h:∃x,p x∧q x∧∃y z a,r x y z a∧s x y z a∧t x y z a∧u x y z a)(k:∀x,p x→q x→∀y z a,r x y z a→s x y z a→t x y z a→u x y z a→P):P:=h.elim fun x h=>h.2.2.elim fun y f1=>f1.elim fun z f1=>f1.elim fun a f1=>k x h.1 h.2.1 y z a f1.1 f1.2.1 f1.2.2.1 f1.2.2.2
theorem ED{A B C D E:Type}{p:A→Prop}{q:A→B→C→D→E→Prop}(h:∃x,p x∧∃y z a b,q x y z a b)(k:∀x,p x→∀y z a b,q x y z a b→P):P:=h.elim fun x h=>h.2.elim fun y f1=>f1.elim fun z f1=>f1.elim fun a f1=>f1.elim fun b f1=>k x h.1 y z a b f1
theorem Ak{A B:Type}{p:A→B→Prop}(h:∃x y,p x y)(k:∀x y,p x y→P):P:=h.elim fun x h=>h.elim fun y h=>k x y h
theorem cY{A B:Type}{p q:A→B→Prop}(h:∃x y,p x y∧q x y)(k:∀x y,p x y→q x y→P):P:=h.elim fun x h=>h.elim fun y h=>k x y h.1 h.2
theorem cS{A B:Type}{p q r:A→B→Prop}(h:∃x y,p x y∧q x y∧r x y)(k:∀x y,p x y→q x y→r x y→P):P:=h.elim fun x h=>h.elim fun y h=>k x y h.1 h.2.1 h.2.2
theorem ik{A B:Type}{p q r s:A→B→Prop}(h:∃x y,p x y∧q x y∧r x y∧s x y)(k:∀x y,p x y→q x y→r x y→s x y→P):P:=h.elim fun x h=>h.elim fun y h=>k x y h.1 h.2.1 h.2.2.1 h.2.2.2
theorem iF{A B:Type}{p q r s t:A→B→Prop}(h:∃x y,p x y∧q x y∧r x y∧s x y∧t x y)(k:∀x y,p x y→q x y→r x y→s x y→t x y→P):P:=h.elim fun x h=>h.elim fun y h=>k x y h.1 h.2.1 h.2.2.1 h.2.2.2.1 h.2.2.2.2
theorem gw{A B:Type}{p q r s t u:A→B→Prop}(h:∃x y,p x y∧q x y∧r x y∧s x y∧t x y∧u x y)(k:∀x y,p x y→q x y→r x y→s x y→t x y→u x y→P):P:=h.elim fun x h=>h.elim fun y h=>k x y h.1 h.2.1 h.2.2.1 h.2.2.2.1 h.2.2.2.2.1 h.2.2.2.2.2
theorem Al{A B:Type}{p q r s t u v:A→B→Prop}(h:∃x y,p x y∧q x y∧r x y∧s x y∧t x y∧u x y∧v x y)(k:∀x y,p x y→q x y→r x y→s x y→t x y→u x y→v x y→P):P:=h.elim fun x h=>h.elim fun y h=>k x y h.1 h.2.1 h.2.2.1 h.2.2.2.1 h.2.2.2.2.1 h.2.2.2.2.2.1 h.2.2.2.2.2.2
theorem bC{A B C D:Type}{p q r s t:A→B→Prop}{u v w i:A→B→C→D→Prop}(h:∃x y,p x y∧q x y∧r x y∧s x y∧t x y∧∃z a,u x y z a∧v x y z a∧w x y z a∧i x y z a)(k:∀x y,p x y→q x y→r x y→s x y→t x y→∀z a,u x y z a→v x y z a→w x y z a→i x y z a→P):P:=h.elim fun x h=>h.elim fun y h=>h.2.2.2.2.2.elim fun z f1=>f1.elim fun a f1=>k x y h.1 h.2.1 h.2.2.1 h.2.2.2.1 h.2.2.2.2.1 z a f1.1 f1.2.1 f1.2.2.1 f1.2.2.2
theorem xq{A B C D:Type}{p q r s:A→B→Prop}{t u:A→B→C→D→Prop}(h:∃x y,p x y∧q x y∧r x y∧s x y∧∃z a,t x y z a∧u x y z a)(k:∀x y,p x y→q x y→r x y→s x y→∀z a,t x y z a→u x y z a→P):P:=h.elim fun x h=>h.elim fun y h=>h.2.2.2.2.elim fun z f1=>f1.elim fun a f1=>k x y h.1 h.2.1 h.2.2.1 h.2.2.2.1 z a f1.1 f1.2
theorem bt{A B C D:Type}{p q r s:A→B→Prop}{t u v:A→B→C→D→Prop}(h:∃x y,p x y∧q x y∧r x y∧s x y∧∃z a,t x y z a∧u x y z a∧v x y z a)(k:∀x y,p x y→q x y→r x y→s x y→∀z a,t x y z a→u x y z a→v x y z a→P):P:=h.elim fun x h=>h.elim fun y h=>h.2.2.2.2.elim fun z f1=>f1.elim fun a f1=>k x y h.1 h.2.1 h.2.2.1 h.2.2.2.1 z a f1.1 f1.2.1 f1.2.2
theorem xt{A B C:Type}{p:A→B→Prop}{q r:A→B→C→Prop}(h:∃x y,p x y∧∃z,q x y z∧r x y z)(k:∀x y,p x y→∀z,q x y z→r x y z→P):P:=h.elim fun x h=>h.elim fun y h=>h.2.elim fun z f1=>k x y h.1 z f1.1 f1.2
theorem Ho{A B C:Type}{p:A→B→C→Prop}(h:∃x y z,p x y z)(k:∀x y z,p x y z→P):P:=h.elim fun x h=>h.elim fun y h=>h.elim fun z h=>k x y z h
theorem tw{A B C:Type}{p q r:A→B→C→Prop}(h:∃x y z,p x y z∧q x y z∧r x y z)(k:∀x y z,p x y z→q x y z→r x y z→P):P:=h.elim fun x h=>h.elim fun y h=>h.elim fun z h=>k x y z h.1 h.2.1 h.2.2
theorem cK{A B C:Type}{p q r s:A→B→C→Prop}(h:∃x y z,p x y z∧q x y z∧r x y z∧s x y z)(k:∀x y z,p x y z→q x y z→r x y z→s x y z→P):P:=h.elim fun x h=>h.elim fun y h=>h.elim fun z h=>k x y z h.1 h.2.1 h.2.2.1 h.2.2.2
theorem eu{A B C:Type}{p q r s t:A→B→C→Prop}(h:∃x y z,p x y z∧q x y z∧r x y z∧s x y z∧t x y z)(k:∀x y z,p x y z→q x y z→r x y z→s x y z→t x y z→P):P:=h.elim fun x h=>h.elim fun y h=>h.elim fun z h=>k x y z h.1 h.2.1 h.2.2.1 h.2.2.2.1 h.2.2.2.2
theorem kO{A B C:Type}{p q r s t u:A→B→C→Prop}(h:∃x y z,p x y z∧q x y z∧r x y z∧s x y z∧t x y z∧u x y z)(k:∀x y z,p x y z→q x y z→r x y z→s x y z→t x y z→u x y z→P):P:=h.elim fun x h=>h.elim fun y h=>h.elim fun z h=>k x y z h.1 h.2.1 h.2.2.1 h.2.2.2.1 h.2.2.2.2.1 h.2.2.2.2.2
theorem lU{A B C:Type}{p q r s t u v:A→B→C→Prop}(h:∃x y z,p x y z∧q x y z∧r x y z∧s x y z∧t x y z∧u x y z∧v x y z)(k:∀x y z,p x y z→q x y z→r x y z→s x y z→t x y z→u x y z→v x y z→P):P:=h.elim fun x h=>h.elim fun y h=>h.elim fun z h=>k x y z h.1 h.2.1 h.2.2.1 h.2.2.2.1 h.2.2.2.2.1 h.2.2.2.2.2.1 h.2.2.2.2.2.2
theorem qt{A B C D:Type}{p q r s t:A→B→C→Prop}{u:A→B→C→D→Prop}(h:∃x y z,p x y z∧q x y z∧r x y z∧s x y z∧t x y z∧∃a,u x y z a)(k:∀x y z,p x y z→q x y z→r x y z→s x y z→t x y z→∀a,u x y z a→P):P:=h.elim fun x h=>h.elim fun y h=>h.elim fun z h=>h.2.2.2.2.2.elim fun a f1=>k x y z h.1 h.2.1 h.2.2.1 h.2.2.2.1 h.2.2.2.2.1 a f1
theorem Hq{A B C D:Type}{p:A→B→C→D→Prop}(h:∃x y z a,p x y z a)(k:∀x y z a,p x y z a→P):P:=h.elim fun x h=>h.elim fun y h=>h.elim fun z h=>h.elim fun a h=>k x y z a h
theorem xu{A B C D:Type}{p q:A→B→C→D→Prop}(h:∃x y z a,p x y z a∧q x y z a)(k:∀x y z a,p x y z a→q x y z a→P):P:=h.elim fun x h=>h.elim fun y h=>h.elim fun z h=>h.elim fun a h=>k x y z a h.1 h.2
theorem mZ{A B C D:Type}{p q r:A→B→C→D→Prop}(h:∃x y z a,p x y z a∧q x y z a∧r x y z a)(k:∀x y z a,p x y z a→q x y z a→r x y z a→P):P:=h.elim fun x h=>h.elim fun y h=>h.elim fun z h=>h.elim fun a h=>k x y z a h.1 h.2.1 h.2.2
theorem m9{A B C D:Type}{p q r s:A→B→C→D→Prop}(h:∃x y z a,p x y z a∧q x y z a∧r x y z a∧s x y z a)(k:∀x y z a,p x y z a→q x y z a→r x y z a→s x y z a→P):P:=h.elim fun x h=>h.elim fun y h=>h.elim fun z h=>h.elim fun a h=>k x y z a h.1 h.2.1 h.2.2.1 h.2.2.2
theorem dk{A B C D:Type}{p q r s t:A→B→C→D→Prop}(h:∃x y z a,p x y z a∧q x y z a∧r x y z a∧s x y z a∧t x y z a)(k:∀x y z a,p x y z a→q x y z a→r x y z a→s x y z a→t x y z a→P):P:=h.elim fun x h=>h.elim fun y h=>h.elim fun z h=>h.elim fun a h=>k x y z a h.1 h.2.1 h.2.2.1 h.2.2.2.1 h.2.2.2.2
theorem cp{A B C D:Type}{p q r s t u:A→B→C→D→Prop}(h:∃x y z a,p x y z a∧q x y z a∧r x y z a∧s x y z a∧t x y z a∧u x y z a)(k:∀x y z a,p x y z a→q x y z a→r x y z a→s x y z a→t x y z a→u x y z a→P):P:=h.elim fun x h=>h.elim fun y h=>h.elim fun z h=>h.elim fun a h=>k x y z a h.1 h.2.1 h.2.2.1 h.2.2.2.1 h.2.2.2.2.1 h.2.2.2.2.2
theorem ox{A B C D:Type}{p q r s t u v:A→B→C→D→Prop}(h:∃x y z a,p x y z a∧q x y z a∧r x y z a∧s x y z a∧t x y z a∧u x y z a∧v x y z a)(k:∀x y z a,p x y z a→q x y z a→r x y z a→s x y z a→t x y z a→u x y z a→v x y z a→P):P:=h.elim fun x h=>h.elim fun y h=>h.elim fun z h=>h.elim fun a h=>k x y z a h.1 h.2.1 h.2.2.1 h.2.2.2.1 h.2.2.2.2.1 h.2.2.2.2.2.1 h.2.2.2.2.2.2
theorem xw{A B C D E:Type}{p q r s t:A→B→C→D→E→Prop}(h:∃x y z a b,p x y z a b∧q x y z a b∧r x y z a b∧s x y z a b∧t x y z a b)(k:∀x y z a b,p x y z a b→q x y z a b→r x y z a b→s x y z a b→t x y z a b→P):P:=h.elim fun x h=>h.elim fun y h=>h.elim fun z h=>h.elim fun a h=>h.elim fun b h=>k x y z a b h.1 h.2.1 h.2.2.1 h.2.2.2.1 h.2.2.2.2
theorem gx{A B C D E:Type}{p q r s t u:A→B→C→D→E→Prop}(h:∃x y z a b,p x y z a b∧q x y z a b∧r x y z a b∧s x y z a b∧t x y z a b∧u x y z a b)(k:∀x y z a b,p x y z a b→q x y z a b→r x y z a b→s x y z a b→t x y z a b→u x y z a b→P):P:=h.elim fun x h=>h.elim fun y h=>h.elim fun z h=>h.elim fun a h=>h.elim fun b h=>k x y z a b h.1 h.2.1 h.2.2.1 h.2.2.2.1 h.2.2.2.2.1 h.2.2.2.2.2
theorem eR{A B C D E:Type}{p q r s t u v w:A→B→C→D→E→Prop}(h:∃x y z a b,p x y z a b∧q x y z a b∧r x y z a b∧s x y z a b∧t x y z a b∧u x y z a b∧v x y z a b∧w x y z a b)(k:∀x y z a b,p x y z a b→q x y z a b→r x y z a b→s x y z a b→t x y z a b→u x y z a b→v x y z a b→w x y z a b→P):P:=h.elim fun x h=>h.elim fun y h=>h.elim fun z h=>h.elim fun a h=>h.elim fun b h=>k x y z a b h.1 h.2.1 h.2.2.1 h.2.2.2.1 h.2.2.2.2.1 h.2.2.2.2.2.1 h.2.2.2.2.2.2.1 h.2.2.2.2.2.2.2
theorem Am{A B C D E F G H:Type}{p:A→B→C→D→E→F→G→H→Prop}(h:∃x y z a b c d e,p x y z a b c d e)(k:∀x y z a b c d e,p x y z a b c d e→P):P:=h.elim fun x h=>h.elim fun y h=>h.elim fun z h=>h.elim fun a h=>h.elim fun b h=>h.elim fun c h=>h.elim fun d h=>h.elim fun e h=>k x y z a b c d e h
theorem Bz{a b:Nat}(h:n=a-b)(k:b<a):a-(b+1)<n:=h▸Nat.sub_lt_sub_left k (bY b)
theorem By{a e:Nat}(h:e<a):a-e=a-(e+1)+1:=(Nat.succ_pred_eq_of_pos (Nat.sub_pos_of_lt h)).symm
theorem Hg{u c:Nat}(h:u+20<c):u+1+8<c:=ay (aW (u+9) 11) h
theorem IE{u c d:Nat}(h:u+20<c)(q:d≤6):u+1+d<c:=ay (am (bK q _) (aW (u+7) 13)) h
theorem DH{u c d e k:Nat}(h:u+n<c)(p:k≤d)(q:d≤n):u+min k e<c:=ay (bK (am (Nat.min_le_left _ _) (am p q)) _) h
theorem Il{x y l:Nat}(p:x+25≤y)(q:y≤2000)(f:l≤20):x+l≤1999:=Nat.le_of_succ_le_succ (am (bK (Nat.succ_le_succ (am f (by decide:20≤24))) x) (am p q))
theorem FQ{T f w u m:Nat}(h:(T-f)*24+(w+1)<m+1)(q:f+1≤T)(k:u≤23):(T-(f+1))*24+(w+u)<m:=by
 rw [By q,Nat.succ_mul] at h;exact ay (am (bK (am (bK k w) (Nat.add_comm 24 w▸Nat.le_succ (w+23))) _) (Nat.le_of_eq (Nat.add_assoc _ _ _).symm)) (Nat.lt_of_succ_lt_succ h)
theorem lz{z z' m:Nat}(hm:2*(1801-z)+1<m+1)(h:z≤z')(b:z'≤1800):2*(1801-z')+(if (z:Int)=z' then 0 else 1)<m:=by
 have k:=Nat.lt_of_succ_lt_succ hm;by_cases e:(z:Int)=z'
 ·rw [if_pos e];exact ay (Nat.mul_le_mul_left 2 (Nat.sub_le_sub_left h 1801)) k
 ·rw [if_neg e];have hl:z<z':=Nat.lt_of_le_of_ne h fun q=>e (congrArg Nat.cast q);exact al (bY (2*(1801-z')+1)) (am (Nat.mul_le_mul_left 2 (Nat.sub_lt_sub_left (al hl (bD b)) hl)) (cT k))
theorem Hh(e:(-1:Int)=n):False:=absurd (e▸Int.natCast_nonneg n:(0:Int)≤ -1) (by decide)
theorem HY{i n:Int}(h:¬0≤i):i+n<n:=by have:=Int.add_lt_add_right (Int.not_le.mp h) n;rwa [Int.zero_add] at this
theorem IF{w u u' v:Nat}(h:w+1+10*u≤n)(q:u'<u)(k:v≤6):w+v+10*u'≤n:=by
 refine am (bL (bK k _) _) (am ?_ (am (bK (Nat.mul_le_mul_left 10 q) (w+1)) h));rw [Nat.add_right_comm w 1,Nat.add_right_comm w 6];exact bK (by decide:6≤11) (w+10*u')
theorem HZ{a b m:Nat}(h:a=b)(q:m<a)(e:m=b+1):False:=by subst e;subst h;exact bX _ (Nat.lt_of_succ_lt q)
theorem Hc{a b m:Nat}(h:a=b)(q:m<a)(e:m=b):False:=by subst e;subst h;exact bX _ q
theorem FP{n:Int}(hn:0≤n∧n<1000000):((-9223372036854775808≤n∧n<9223372036854775808)∧ -9223372036854775808≤max n 0∧max n 0<9223372036854775808)∧(max n 0=0∨ -9223372036854775808≤n∧n<9223372036854775808):=by
 rw [Int.max_eq_left hn.1];have a: -9223372036854775808≤n∧n<9223372036854775808:=⟨Int.le_trans (by decide) hn.1,Int.lt_trans hn.2 (by decide)⟩
 exact ⟨⟨a,a⟩,.inr a⟩
inductive V where
 | none
 | bool (b:Bool)
 | int (i:Int)
 | str (s:String)
 | tup (l:List V)
 | obj (n:Nat)
 | ints (l:List Int)
 deriving Inhabited
variable{as:List (Nat×List V)}{fl:List (V×V)}{fs l ns ts xs:List V}{a b k v:V}
inductive Ob where
 | list (l:List V)
 | dict (l:List (V×V)) (e:Nat)
 | inst (c:String) (l:List (String×V))
 deriving Inhabited
variable{o:Ob}
noncomputable abbrev Hp:=List Ob
variable{σ σ' σ'' σ₀ σ₁:Hp}{gd:Hp→Prop}
noncomputable abbrev Rho:=List (Addr×Addr)
variable{Mid:Nat→Rho→Heap→Value→Prop}{ρ ρ':Rho}
mutual
noncomputable def V.dat:V→Bool
 | .none | .int _ | .str _=>true
 | .bool _ | .obj _ | .ints _=>false
 | .tup l=>V.dats l
noncomputable def V.dats:List V→Bool
 | []=>true
 | v::r=>v.dat&&V.dats r
end
mutual
noncomputable def V.key:V→Bool
 | .int _ | .str _=>true
 | .none | .bool _ | .obj _ | .ints _=>false
 | .tup l=>V.keys l
noncomputable def V.keys:List V→Bool
 | []=>true
 | v::r=>v.key&&V.keys r
end
mutual
noncomputable def V.dep:V→Nat
 | .tup l=>V.deps l+1
 | _=>0
noncomputable def V.deps:List V→Nat
 | []=>0
 | v::r=>max v.dep (V.deps r)
end
mutual
noncomputable def V.py:V→PyData
 | .none=>.none
 | .bool b=>.bool b
 | .int i=>.int i
 | .str s=>.str (Str.ofString s)
 | .tup l=>.tuple (V.pys l)
 | .obj _ | .ints _=>.none
noncomputable def V.pys:List V→List PyData
 | []=>[]
 | v::r=>v.py::V.pys r
end
theorem bF(h:false=true):P:=absurd h b0
theorem ca{p:α}(h:(none:Option α)=some p):P:=absurd h (Option.some_ne_none p).symm
theorem V.no(e:a=b)(h:Nat.beq a.ctorIdx b.ctorIdx=false):P:=absurd (congrArg V.ctorIdx e) (Nat.ne_of_beq_eq_false h)
theorem V.ff{x y:V}{b:Bool}(h:b=false)(k:Nat.beq x.ctorIdx y.ctorIdx=false):b=true↔x=y:=⟨fun e=>bF (h▸e),fun e=>V.no e k⟩
theorem V.ind{P:V→Prop}(h0:P .none)(h1:∀b,P (.bool b))(h2:∀i,P (.int i))(h3:∀s,P (.str s))(h4:∀n,P (.obj n))(h5:∀l,P (.ints l))(ht:∀l,(∀v∈l,P v)→P (.tup l))(v:V):P v :=
 V.rec (motive_1:=P) (motive_2:=fun l=>∀v∈l,P v) h0 h1 h2 h3 ht h4 h5 (fun z_ h=>absurd h an) (fun x r hx hr v h=>(aP.mp h).elim (fun e=>e▸hx) (hr v)) v
theorem V.dats_iff:∀{l:List V},V.dats l=true↔∀v∈l,v.dat=true
 | []=>⟨fun z_ z_ h=>absurd h an,fun z_=>rfl⟩
 | v::r=>Bool.and_eq_true_iff.trans ((and_congr_right fun z_=>V.dats_iff).trans (List.forall_mem_cons (p:=fun v:V=>v.dat=true)).symm)
theorem V.keys_iff:∀{l:List V},V.keys l=true↔∀v∈l,v.key=true
 | []=>⟨fun z_ z_ h=>absurd h an,fun z_=>rfl⟩
 | v::r=>Bool.and_eq_true_iff.trans ((and_congr_right fun z_=>V.keys_iff).trans (List.forall_mem_cons (p:=fun v:V=>v.key=true)).symm)
theorem V.dat_of_key:v.key=true→v.dat=true :=
 V.rec (motive_1:=fun v=>v.key=true→v.dat=true) (motive_2:=fun l=>V.keys l=true→V.dats l=true) (fun h=>bF h) (fun z_ h=>bF h) (fun z_ z_=>rfl) (fun z_ z_=>rfl) (fun z_ m=>m) (fun z_ h=>bF h) (fun z_ h=>bF h) (fun z_=>rfl)
  (fun z_ z_ a b h=>have h:=a8.1 h;Bool.and_eq_true_iff.2 ⟨a h.1,b h.2⟩) v
structure Wd where
 prog:Program
 w:World
 K:Frag
 h₀:Heap
 cls:String→Option Addr
 /-- tuples that the machine writes into -/
 priv:Addr→Prop
variable{W:Wd}
mutual
inductive aK(W:Wd)(h:Heap)(ρ:Rho):V→Value→Prop
 | none:aK W h ρ .none .none
 | bool (b:Bool):aK W h ρ (.bool b) (.bool b)
 | int (i:Int) (t:Tok):aK W h ρ (.int i) (.int i t)
 | str {s:String} {x:Str} (t:Tok):x=Str.ofString s→aK W h ρ (.str s) (.str x t)
 | tup {l:List V} {a:Addr} {o:Obj} {items:Array Value} {ep:Nat}:h.get? a=some o→o.cls=.type "tuple"→o.data=.seq items ep→(o.dict=none∧o.slots=#[]∧¬W.priv a)→aZ W h ρ l items.toList→aK W h ρ (.tup l) (.ref a)
 | obj {n:Nat} {a d:Addr}:ρ[n]?=some (a,d)→aK W h ρ (.obj n) (.ref a)
 | ints {l:List Int} {a:Addr} {o:Obj} {items:Array Value} {ep:Nat}:W.h₀.get? a=some o→o.cls=.type "list"→o.data=.seq items ep→IntsAre items.toList l→aK W h ρ (.ints l) (.ref a)
inductive aZ(W:Wd)(h:Heap)(ρ:Rho):List V→List Value→Prop
 | nil:aZ W h ρ [] []
 | cons {v:V} {a:Value} {l:List V} {as:List Value}:aK W h ρ v a→aZ W h ρ l as→aZ W h ρ (v::l) (a::as)
end
noncomputable def kb(o:Obj):Prop:=o.cls=.type "tuple"∧∃items ep,o.data=.seq items ep
noncomputable def bg(W:Wd)(h h':Heap):Prop:=∀a o,h.get? a=some o→kb o→¬W.priv a→h'.get? a=some o
theorem bg.refl(W:Wd)(h:Heap):bg W h h:=fun z_ z_ e z_ z_=>e
theorem bg.trans{h'':Heap}(x:bg W h h')(y:bg W h' h''):bg W h h'':=fun a o e c p=>y a o (x a o e c p) c p
theorem gM{l l':List α}(h:l <+:l'){x:α}(e:l[n]?=some x):l'[n]?=some x:=by
 refine xe h fun t q=>?_;subst q;have:n<l.length:=(aE.mp e).1;rw [au this];exact e
section
variable{a:Value}{as:List Value}
theorem aK.mono(k:bg W h h')(p:ρ <+:ρ')(r:aK W h ρ v a):aK W h' ρ' v a :=
 aK.rec (motive_1:=fun v a z_=>aK W h' ρ' v a) (motive_2:=fun l as z_=>aZ W h' ρ' l as) .none .bool .int (fun t e=>.str t e) (fun ho hc hd hx z_ r=>.tup (k _ _ ho ⟨hc,_,_,hd⟩ hx.2.2) hc hd hx r) (fun e=>.obj (gM p e)) .ints .nil (fun z_ z_ a b=>.cons a b) r
theorem aZ.ind{M:List V→List Value→Prop}(r:aZ W h ρ l as)(n:M [] [])(c:∀{v a l as},aK W h ρ v a→aZ W h ρ l as→M l as→M (v::l) (a::as)):M l as :=
 aZ.rec (motive_1:=fun z_ z_ z_=>True) (motive_2:=fun l as z_=>M l as) trivial (fun z_=>trivial) (fun z_ z_=>trivial) (fun z_ z_=>trivial) (fun z_ z_ z_ z_ z_ z_=>trivial) (fun z_=>trivial) (fun z_ z_ z_ z_=>trivial) n (fun x r z_ m=>c x r m) r
theorem aZ.mono(k:bg W h h')(p:ρ <+:ρ')(r:aZ W h ρ l as):aZ W h' ρ' l as:=r.ind .nil fun x z_ m=>.cons (x.mono k p) m
theorem aZ.length(r:aZ W h ρ l as):as.length=l.length:=r.ind (M:=fun l as=>as.length=l.length) rfl fun z_ z_ m=>congrArg Nat.succ m
theorem aZ.get(r:aZ W h ρ l as)(e:l[n]?=some v):∃a,as[n]?=some a∧aK W h ρ v a :=
 r.ind (M:=fun l as=>∀n:Nat,l[n]?=some v→∃a,as[n]?=some a∧aK W h ρ v a) (fun z_ e=>ca e) (fun x z_ m n e=>by
  cases n with
  | zero=>cases e;exact ⟨_,rfl,x⟩
  | succ n=>exact m n e) n e
theorem aZ.append{l':List V}{as':List Value}(r:aZ W h ρ l as)(y:aZ W h ρ l' as'):aZ W h ρ (l++l') (as++as') :=
 r.ind (M:=fun l as=>aZ W h ρ (l++l') (as++as')) y fun x z_ m=>.cons x m
theorem aZ.take(n:Nat)(r:aZ W h ρ l as):aZ W h ρ (l.take n) (as.take n) :=
 r.ind (M:=fun l as=>∀n:Nat,aZ W h ρ (l.take n) (as.take n)) (fun n=>by rw [List.take_nil,List.take_nil];exact .nil) (fun x z_ m n=>by
  cases n with
  | zero=>exact .nil
  | succ n=>exact .cons x (m n)) n
theorem aZ.drop(n:Nat)(r:aZ W h ρ l as):aZ W h ρ (l.drop n) (as.drop n) :=
 r.ind (M:=fun l as=>∀n:Nat,aZ W h ρ (l.drop n) (as.drop n)) (fun n=>by rw [List.drop_nil,List.drop_nil];exact .nil) (fun x r m n=>by
  cases n with
  | zero=>exact .cons x r
  | succ n=>exact m n) n
theorem aZ.set(n:Nat)(r:aZ W h ρ l as)(y:aK W h ρ v a):aZ W h ρ (l.set n v) (as.set n a) :=
 r.ind (M:=fun l as=>∀n:Nat,aZ W h ρ (l.set n v) (as.set n a)) (fun n=>.nil) (fun x r m n=>by
  cases n with
  | zero=>exact .cons y r
  | succ n=>exact .cons x (m n)) n
theorem aK.reads(r:aK W h ρ v a):v.dat=true→Reads h a v.py [] :=
 aK.rec (motive_1:=fun v a z_=>v.dat=true→Reads h a v.py []) (motive_2:=fun l as z_=>V.dats l=true→ReadsAll h as (V.pys l) []) (fun z_=>.none) (fun z_ d=>bF d) (fun i t z_=>.int i t) (fun t e z_=>e▸.str _ t) (fun ho hc hd z_ z_ m d=>.tuple ho hc hd (m d)) (fun z_ d=>bF d) (fun z_ z_ z_ z_ d=>bF d) (fun z_=>.nil)
  (fun z_ z_ a b d=>have d:=a8.1 d;.cons (a d.1) (b d.2)) r
theorem aZ.reads(r:aZ W h ρ l as):V.dats l=true→ReadsAll h as (V.pys l) [] :=
 r.ind (M:=fun l as=>V.dats l=true→ReadsAll h as (V.pys l) []) (fun z_=>.nil) fun x z_ m d=>have d:=a8.1 d;.cons (x.reads d.1) (m d.2)
theorem aK.ind{M:V→Value→Prop}(r:aK W h ρ v a)(n:M .none .none)(b:∀b,M (.bool b) (.bool b))(i:∀i t,M (.int i) (.int i t))(s:∀s t,M (.str s) (.str (Str.ofString s) t))
  (t:∀{l a o items ep},h.get? a=some o→o.cls=.type "tuple"→o.data=.seq items ep→(o.dict=Option.none∧o.slots=#[]∧¬W.priv a)→aZ W h ρ l items.toList→M (.tup l) (.ref a)) (ob:∀{n a d},ρ[n]?=some (a,d)→M (.obj n) (.ref a))
  (is:∀{l a o items ep},W.h₀.get? a=some o→o.cls=.type "list"→o.data=.seq items ep→IntsAre items.toList l→M (.ints l) (.ref a)):M v a :=
 aK.rec (motive_1:=fun v a z_=>M v a) (motive_2:=fun z_ z_ z_=>True) n b i (fun k e=>by rw [e];exact s _ k) (fun p q r s l z_=>t p q r s l) (fun e=>ob e) (fun a b c d=>is a b c d) trivial (fun z_ z_ z_ z_=>trivial) r
noncomputable def aZ.shape(W:Wd)(h:Heap)(ρ:Rho)(l:List V)(as:List Value):Prop:=match l with
 | []=>as=[]
 | v::l=>∃a as',as=a::as'∧aK W h ρ v a∧aZ W h ρ l as'
theorem aZ.E(r:aZ W h ρ l as):aZ.shape W h ρ l as:=r.ind rfl fun x r z_=>⟨_,_,rfl,x,r⟩
noncomputable def aK.shape(W:Wd)(h:Heap)(ρ:Rho)(v:V)(x:Value):Prop:=match v with
 | .none=>x=.none
 | .bool b=>x=.bool b
 | .int i=>∃t,x=.int i t
 | .str s=>∃t,x=.str (Str.ofString s) t
 | .tup l=>∃a o items ep,x=.ref a∧h.get? a=some o∧o.cls=.type "tuple"∧o.data=.seq items ep∧(o.dict=Option.none∧o.slots=#[]∧¬W.priv a)∧aZ W h ρ l items.toList
 | .obj n=>∃a d,x=.ref a∧ρ[n]?=some (a,d)
 | .ints l=>∃a o items ep,x=.ref a∧W.h₀.get? a=some o∧o.cls=.type "list"∧o.data=.seq items ep∧IntsAre items.toList l
theorem aK.E(r:aK W h ρ v a):aK.shape W h ρ v a:=r.ind rfl (fun z_=>rfl) (fun z_ t=>⟨t,rfl⟩) (fun z_ t=>⟨t,rfl⟩) (fun p q r s t=>⟨_,_,_,_,rfl,p,q,r,s,t⟩) (fun p=>⟨_,_,rfl,p⟩) (fun p q r s=>⟨_,_,_,_,rfl,p,q,r,s⟩)
theorem aZ.nilU{M:List Value→Prop}(r:aZ W h ρ [] as)(k:M []):M as:=(show as=[] from r.E)▸k
theorem aZ.consU{M:List Value→Prop}(r:aZ W h ρ (v::l) as)(k:∀a as,aK W h ρ v a→aZ W h ρ l as→M (a::as)):M as:=by
 refine cS r.E fun a as' q x y=>?_;subst q;exact k a as' x y
theorem aK.noneU{M:Value→Prop}(r:aK W h ρ .none a)(k:M .none):M a:=(show a=.none from r.E)▸k
theorem aK.intU{i:Int}{M:Value→Prop}(r:aK W h ρ (.int i) a)(k:∀t,M (.int i t)):M a:=by
 refine xe r.E fun t q=>?_;subst q;exact k t
theorem aK.boolU{i:Bool}{M:Value→Prop}(r:aK W h ρ (.bool i) a)(k:M (.bool i)):M a:=(show a=.bool i from r.E)▸k
theorem aK.strU{i:String}{M:Value→Prop}(r:aK W h ρ (.str i) a)(k:∀t,M (.str (Str.ofString i) t)):M a:=by
 refine xe r.E fun t q=>?_;subst q;exact k t
theorem aK.tupU{M:Value→Prop}(r:aK W h ρ (.tup l) a)(k:∀a o items ep,h.get? a=some o→o.cls=.type "tuple"→o.data=.seq items ep→(o.dict=Option.none∧o.slots=#[]∧¬W.priv a)→aZ W h ρ l items.toList→M (.ref a)):M a:=by
 obtain ⟨a,o,items,ep,rfl,p,q,r,s,t⟩:=r.E;exact k a o items ep p q r s t
end
theorem Cr(s:String):PyData.strOk (Str.ofString s)=true:=by
 rw [Str.ofString_eq_toList];unfold PyData.strOk;rw [Array.all_eq_true'];intro x hx;simp only [List.mem_toArray,List.mem_map] at hx;refine bG hx fun c z_ q=>?_;subst q;have:=c.valid;simp only [decide_eq_true_eq];rcases this with h | h
 ·exact bf h (by decide)
 ·exact h.2
theorem V.py_lay(v:V):v.dat=true→v.py.canLay0=true :=
 V.rec (motive_1:=fun v=>v.dat=true→v.py.canLay0=true) (motive_2:=fun l=>V.dats l=true→PyData.canLayAll0 (V.pys l)=true) (fun z_=>rfl) (fun z_ h=>bF h) (fun z_ z_=>rfl) (fun s z_=>Cr s) (fun z_ m=>m) (fun z_ h=>bF h) (fun z_ h=>bF h) (fun z_=>rfl)
  (fun z_ z_ a b h=>have h:=a8.1 h;Bool.and_eq_true_iff.2 ⟨a h.1,b h.2⟩) v
theorem V.pys_lay(l:List V)(h:V.dats l=true):PyData.canLayAll0 (V.pys l)=true:=V.py_lay (.tup l) h
theorem V.py_dep(v:V):v.py.depth≤v.dep :=
 V.rec (motive_1:=fun v=>v.py.depth≤v.dep) (motive_2:=fun l=>PyData.depthAll (V.pys l)≤V.deps l) (ax 0) (fun z_=>ax 0) (fun z_=>ax 0) (fun z_=>ax 0) (fun z_ m=>Nat.succ_le_succ m) (fun z_=>ax 0) (fun z_=>ax 0) (ax 0)
  (fun z_ z_ a b=>Nat.max_le.mpr ⟨am a (Nat.le_max_left ..),am b (Nat.le_max_right ..)⟩) v
theorem V.pys_dep(l:List V):PyData.depthAll (V.pys l)≤V.deps l:=Nat.le_of_succ_le_succ (V.py_dep (.tup l))
theorem cO{a b:String}(h:Str.ofString a=Str.ofString b):a=b:=by
 rw [Str.ofString_eq_toList,Str.ofString_eq_toList] at h;have e:=congrArg (fun x=>x.cps.toList) h;simp only at e;apply String.toList_inj.mp;exact (List.map_inj_right (fun x y h=>by
  apply Char.ext;exact UInt32.toNat_inj.mp h)).mp e
theorem V.eqv_iff(x:V):∀y:V,x.dat=true→y.dat=true→(PyData.eqv x.py y.py=true↔x=y) :=
 V.rec (motive_1:=fun x=>∀y:V,x.dat=true→y.dat=true→(PyData.eqv x.py y.py=true↔x=y)) (motive_2:=fun l=>∀m:List V,V.dats l=true→V.dats m=true→(PyData.eqvAll (V.pys l) (V.pys m)=true↔l=m))
  (fun y z_ d=>by
   induction y using V.ind with
   | h0=>exact ⟨fun z_=>rfl,fun z_=>rfl⟩
   | _=>first | exact bF d | exact V.ff rfl rfl) (fun z_ z_ h=>bF h)
  (fun i y z_ d=>by
   induction y using V.ind with
   | h2 j=>exact ⟨fun q=>congrArg V.int (eq_of_beq q),fun q=>by rw [V.int.inj q];exact beq_self_eq_true j⟩
   | _=>first | exact bF d | exact V.ff rfl rfl)
  (fun i y z_ d=>by
   induction y using V.ind with
   | h3 j=>exact ⟨fun q=>congrArg V.str (cO (eq_of_beq q)),fun q=>by rw [V.str.inj q];exact beq_self_eq_true (Str.ofString j)⟩
   | _=>first | exact bF d | exact V.ff rfl rfl)
  (fun l m y h d=>by
   induction y using V.ind with
   | ht l'=>exact (m l' h d).trans ⟨congrArg V.tup,V.tup.inj⟩
   | _=>first | exact bF d | exact V.ff rfl rfl)
  (fun z_ z_ h=>bF h) (fun z_ z_ h=>bF h)
  (fun m z_ z_=>by
   cases m with
   | nil=>exact ⟨fun z_=>rfl,fun z_=>rfl⟩
   | cons=>exact ⟨fun q=>bF q,fun q=>absurd q.symm (List.cons_ne_nil _ _)⟩)
  (fun x l a b m h d=>by
   cases m with
   | nil=>exact ⟨fun q=>bF q,fun q=>absurd q (List.cons_ne_nil _ _)⟩
   | cons y m =>
    have h:=a8.1 h;have d:=a8.1 d;exact Bool.and_eq_true_iff.trans ((and_congr (a y h.1 d.1) (b m h.2 d.2)).trans ⟨fun q=>by rw [q.1,q.2],List.cons.inj⟩)) x
theorem V.eqvs_iff(l m:List V)(h:V.dats l=true)(d:V.dats m=true):PyData.eqvAll (V.pys l) (V.pys m)=true↔l=m :=
 (V.eqv_iff (.tup l) (.tup m) h d).trans ⟨V.tup.inj,congrArg V.tup⟩
mutual
noncomputable def eF(w:World):V→Int
 | .int i=>hashInt i
 | .str s=>hashStr w (Str.ofString s)
 | .tup l=>reduceHash (Builtin.Tuple.tupleHashOf (nD w l))
 | _=>0
noncomputable def nD(w:World):List V→List Int
 | []=>[]
 | v::r=>eF w v::nD w r
end
theorem pG(w:World):∀l:List V,nD w l=l.map (eF w)
 | []=>rfl
 | v::r=>congrArg _ (pG w r)
theorem V.dep_le_deps:∀{l:List V} {v:V},v∈l→v.dep≤V.deps l
 | x::r,v,h=>(aP.mp h).elim (fun e=>e▸Nat.le_max_left _ _) fun h=>am (V.dep_le_deps h) (Nat.le_max_right _ _)
theorem mY{p:Program}{w:World}{E:Value→Shared→Prop}{items:List Value}{β:Type}(r:aZ W h ρ l items)(f:Value→β→Sem (ForInStep β))(I:List V→β→Shared→Prop)(Q:β→Shared→Prop)
  (turn:∀v a l' b s,v∈l→aK W h ρ v a→I (v::l') b s→wpAny (model p w) A (f a b) (fun r s'=>match r with | .yield b'=>I l' b' s' | .done b'=>Q b' s') E s) (fin:∀b s,I [] b s→Q b s) (b:β) (s:Shared) (h0:I l b s):wpAny (model p w) A (forIn items b f) Q E s:=by
 refine r.ind (M:=fun l' items=>(∀v∈l',v∈l)→∀b s,I l' b s→wpAny (model p w) A (forIn items b f) Q E s) (fun z_ b s h0=>?_) (fun {v a l' as} rv _ ih hl b s h0=>?_) (fun z_ q=>q) b s h0
 ·rw [List.forIn_nil];exact ak (fin b s h0)
 ·rw [List.forIn_cons];refine af (aH (turn v a l' b s (hl v ai) rv h0) (fun r s' hr=>?_) fun z_ z_ h'=>h')
  cases r with
  | done b'=>exact ak hr
  | yield b'=>exact ih (fun u q=>hl u (aj _ q)) b' s' hr
theorem Gs{u:Nat}(h:u+V.dep (.tup l)<n)(hv:v∈l):u+1+v.dep<n:=ay (by rw [Nat.add_right_comm];exact bK (Nat.succ_le_succ (V.dep_le_deps hv)) u) h
theorem mw(v:V):v.key=true→∀{A:Around} {E:Value→Shared→Prop} {s:Shared} {a:Value} {Q:Int→Shared→Prop},A.units+v.dep<cLine→aK W s.heap ρ v a→
  (∀t,Q (eF W.w v) {s with toks:=t})→wpAny (model W.prog W.w) A (pyHash a) Q E s:=by
 induction v using V.ind with
 | h2 i=>exact fun _ {A E s a Q} hu r h=>r.intU (M:=fun a=>wpAny _ _ (pyHash a) _ _ _) fun t=>wpAny_pyHash_int (h _)
 | h3 x=>exact fun _ {A E s a Q} hu r h=>r.strU (M:=fun a=>wpAny _ _ (pyHash a) _ _ _) fun t=>wpAny_pyHash_str (h _)
 | ht l ih =>
  intro hk A E s a Q hu r h;refine r.tupU (M:=fun a=>wpAny _ _ (pyHash a) _ _ _) fun a o items ep ho hc hd hx rs=>?_;have hT:s.TypeIs (.ref a) "tuple":=⟨o,ho,hc⟩
  delta pyHash;refine af (wpAny_cRoomFor_or (.inr (ay (aW _ _) hu)) ?_);refine af (wpAny_specialOf hT F.slot_tuple_hash.lookup ?_);rw [if_neg (by rw [beq_builtin_none];exact b0)];refine af (wpAny_specialOf hT F.slot_tuple_hash.lookup ?_);refine af (wpAny_callSpecialIfBoundUnlessNone?_slot hT F.slot_tuple_hash (wpAny_call_entry F.slot_tuple_hash hT F.entry_tuple_hash ?_ (F.args_tuple_hash_1 _)));show wpAny _ _ (Builtin.Tuple.tupleItemsOf (.ref a) >>=_) _ _ s;refine af (wpAny_tupleItemsOf ho hd (af ?_));rw [←Array.forIn_toList];refine mY rs _ (fun rem (b:Array Int) s'=>b.toList++rem.map (eF W.w)=nD W.w l∧∃t,s'={s with toks:=t}) _ ?_ ?_ _ _ ⟨(pG W.w l).symm,_,rfl⟩
  ·intro v x l' b s' hv rv hI;refine xe hI.2 fun t e=>?_;subst e;exact af (ih v hv (V.keys_iff.mp hk v hv) (s:={s with toks:=t}) (Gs hu hv) rv fun t'=>ak ⟨by rw [Array.toList_push,aR];exact hI.1,t',rfl⟩)
  ·intro b s' hI;refine xe hI.2 fun t e=>?_;subst e;have hb:=hI.1;rw [List.map_nil,bn] at hb;show wpAny _ _ (retInt (Builtin.Tuple.tupleHashOf b.toList)) _ _ _;rw [hb];refine wpAny_ret_mkInt ?_;have h:∀t,Q (reduceHash (Builtin.Tuple.tupleHashOf (nD W.w l))) {s with toks:=t}:=h;generalize Builtin.Tuple.tupleHashOf (nD W.w l)=z at h;show wpAny _ _ (if (decide (-(2:Int)^63≤z)&&decide (z<2^63))=true then _ else _) Q E _;unfold reduceHash at h;rcases Classical.em ((decide (-(2:Int)^63≤z)&&decide (z<2^63))=true) with hr | hr
   ·rw [if_pos hr];rw [if_pos hr] at h;exact ak (h _)
   ·rw [if_neg hr];rw [if_neg hr] at h;exact af (wpAny_rule (ak (h _)))
 | _=>exact bF
open Classical in
theorem pw{x y:V}{E:Value→Shared→Prop}{a b:Value}{Q:Bool→Shared→Prop}(dx:x.dat=true)(dy:y.dat=true)(hu:A.units+x.dep<cLine)
  (rx:aK W s.heap ρ x a) (ry:aK W s.heap ρ y b) (h:Q (decide (x=y)) s):wpAny (model W.prog W.w) A (eqBool a b) Q E s:=by
 refine SeqAt.eqBoolOverData W.prog W.w A E s a b x.py y.py [] [] Q (rx.reads dx) (ry.reads dy) (V.py_lay x dx) (V.py_lay y dy) ?_ ?_
 ·exact DH hu (V.py_dep x) (ax _)
 ·have:PyData.eqv x.py y.py=decide (x=y):=by
   rw [Bool.eq_iff_iff,decide_eq_true_eq];exact V.eqv_iff x y dx dy
  rw [this];exact h
theorem rF(v:V):v.key=true→∀{n:Nat} {A:Around} {E:Value→Shared→Prop} {s:Shared} {a:Value} {Q:Bool→Shared→Prop},v.dep≤n→aK W s.heap ρ v a→Q true s→
  wpAny (model W.prog W.w) A (eqIsQuiet n a) Q E s:=by
 induction v using V.ind with
 | h2 i=>exact fun _ {n A E s a Q} hu r h=>r.intU (M:=fun a=>wpAny _ _ (eqIsQuiet _ a) _ _ _) fun t=>by rw [eqIsQuiet_byValue _ rfl];exact ak h
 | h3 x=>exact fun _ {n A E s a Q} hu r h=>r.strU (M:=fun a=>wpAny _ _ (eqIsQuiet _ a) _ _ _) fun t=>by rw [eqIsQuiet_byValue _ rfl];exact ak h
 | ht l ih =>
  intro hk n A E s a Q hn r h
  cases n with
  | zero=>cases hn
  | succ n =>
  refine r.tupU (M:=fun a=>wpAny _ _ (eqIsQuiet _ a) _ _ _) fun a o items ep ho hc hd hx rs=>?_;have hT:s.TypeIs (.ref a) "tuple":=⟨o,ho,hc⟩
  unfold eqIsQuiet;refine af (wpAny_specialOf hT F.slot_tuple_eq.lookup ?_);refine af (wpAny_isInstance hT isSubtype_tuple_tuple ?_);dsimp only [Bool.not_true,Bool.false_eq_true,if_false];refine af (wpAny_seqItems ho hd (af ?_));rw [←Array.forIn_toList];refine mY rs _ (fun z_ r s'=>r.1=none∧s'=s) _ ?_ ?_ _ _ ⟨rfl,rfl⟩
  ·intro v x l' b s' hv rv hI;cases hI.2;refine af (ih v hv (V.keys_iff.mp hk v hv) (am (V.dep_le_deps hv) (Nat.le_of_succ_le_succ hn)) rv ?_);skip;exact ak ⟨rfl,rfl⟩
  ·intro b s' hI;obtain ⟨r1,r2⟩:=b;cases hI.2;cases hI.1;exact ak h
 | _=>exact bF
inductive cr(W:Wd)(h:Heap)(ρ:Rho):List (V×V)→List DictEntry→Prop
 | nil:cr W h ρ [] []
 | cons {k v:V} {a b:Value} {l:List (V×V)} {es:List DictEntry}:k.key=true→k.dep≤6→aK W h ρ k a→aK W h ρ v b→cr W h ρ l es→cr W h ρ ((k,v)::l) (⟨eF W.w k,a,b⟩::es)
inductive eC(W:Wd)(h:Heap)(ρ:Rho):List (String×V)→List DictEntry→Prop
 | nil:eC W h ρ [] []
 | cons {x:String} {t:Tok} {i:Int} {v:V} {b:Value} {l:List (String×V)} {es:List DictEntry}:aK W h ρ v b→eC W h ρ l es→eC W h ρ ((x,v)::l) (⟨i,.str (Str.ofString x) t,b⟩::es)
noncomputable def il(W:Wd)(h:Heap)(ρ:Rho)(p:Addr×Addr):Ob→Prop
 | .list l=>p.2=p.1∧∃items ep,h.get? p.1=some ⟨.type "list",none,.seq items ep,#[]⟩∧aZ W h ρ l items.toList
 | .dict l ep=>p.2=p.1∧(∃es,h.get? p.1=some ⟨.type "dict",none,.dict es ep,#[]⟩∧cr W h ρ l es.toList)∧(l.map (·.1)).Nodup
 | .inst c l=>∃C es n,W.cls c=some C∧h.get? p.1=some (instObj C p.2)∧h.get? p.2=some (dictOf es n)∧eC W h ρ l es∧(l.map (·.1)).Nodup
theorem cr.mono{W:Wd}{h h':Heap}{ρ ρ':Rho}(k:bg W h h')(p:ρ <+:ρ'){l:List (V×V)}{es:List DictEntry}(r:cr W h ρ l es):cr W h' ρ' l es:=by
 induction r with
 | nil=>exact .nil
 | cons a b c d _ ih=>exact .cons a b (c.mono k p) (d.mono k p) ih
theorem eC.mono{W:Wd}{h h':Heap}{ρ ρ':Rho}(k:bg W h h')(p:ρ <+:ρ'){l:List (String×V)}{es:List DictEntry}(r:eC W h ρ l es):eC W h' ρ' l es:=by
 induction r with
 | nil=>exact .nil
 | cons a _ ih=>exact .cons (a.mono k p) ih
theorem il.mono{W:Wd}{h h':Heap}{ρ ρ':Rho}{p:Addr×Addr}{o:Ob}(k:bg W h h')(hp:ρ <+:ρ')(h1:∀ob,h.get? p.1=some ob→h'.get? p.1=some ob)(h2:∀ob,h.get? p.2=some ob→h'.get? p.2=some ob)
  (r:il W h ρ p o):il W h' ρ' p o:=by
 cases o with
 | list l=>refine vC r fun e items ep a b=>?_;exact ⟨e,items,ep,h1 _ a,b.mono k hp⟩
 | dict l ep=>refine ni r fun e q c=>?_;refine bG q fun es a b=>?_;exact ⟨e,⟨es,h1 _ a,b.mono k hp⟩,c⟩
 | inst c l=>refine eu r fun C es n e a b d f=>?_;exact ⟨C,es,n,e,h1 _ a,h2 _ b,d.mono k hp,f⟩
structure bJ(W:Wd)(h:Heap)(ρ:Rho)(σ:Hp):Prop where
 len:ρ.length=σ.length
 ob:∀(n:Nat) (o:Ob) (p:Addr×Addr),σ[n]?=some o→ρ[n]?=some p→il W h ρ p o
 apart:∀(m n:Nat) (p q:Addr×Addr),m≠n→ρ[m]?=some p→ρ[n]?=some q→p.1≠q.1∧p.1≠q.2∧p.2≠q.1∧p.2≠q.2
 new:∀(n:Nat) (p:Addr×Addr),ρ[n]?=some p→W.h₀.objs.size≤p.1∧W.h₀.objs.size≤p.2
 size:W.h₀.objs.size≤h.objs.size
 top:∀a o,W.h₀.get? a=some o→h.get? a=some o
 priv:∀a,W.priv a→∃o,h.get? a=some o∧kb o
theorem bJ.at(R:bJ W h ρ σ)(e:σ[n]?=some o):∃p,ρ[n]?=some p∧il W h ρ p o:=by
 have:n<ρ.length:=by rw [R.len];exact (aE.mp e).1
 exact ⟨ρ[n],aC this,R.ob n o _ e (aC this)⟩
theorem bJ.alive(R:bJ W h ρ σ)(e:ρ[n]?=some p):∃o,σ[n]?=some o∧il W h ρ p o:=by
 have:n<σ.length:=by rw [←R.len];exact (aE.mp e).1
 exact ⟨σ[n],aC this,R.ob n _ p (aC this) e⟩
theorem il.live(r:il W h ρ p o):(∃ob,h.get? p.1=some ob∧ob.cls≠.type "tuple")∧(∃ob,h.get? p.2=some ob∧ob.cls≠.type "tuple"):=by
 cases o with
 | list l=>refine vC r fun e items ep a b=>?_;rw [e];exact ⟨⟨_,a,by simp⟩,⟨_,a,by simp⟩⟩
 | dict l ep=>refine ni r fun e q c=>?_;refine bG q fun es a b=>?_;rw [e];exact ⟨⟨_,a,by simp⟩,⟨_,a,by simp⟩⟩
 | inst c l=>refine cK r fun C es n e a b d=>?_;exact ⟨⟨_,a,by simp⟩,⟨_,b,by simp⟩⟩
structure bp(X:Addr→Prop)(ρ:Rho)(s:Shared)(ρ':Rho)(s':Shared):Prop where
 pre:ρ <+:ρ'
 fresh:∀(n:Nat) (p:Addr×Addr),ρ.length≤n→ρ'[n]?=some p→s.heap.objs.size≤p.1∧s.heap.objs.size≤p.2
 keep:∀a o,s.heap.get? a=some o→¬X a→(∀(n:Nat) (p:Addr×Addr),ρ[n]?=some p→p.1≠a∧p.2≠a)→s'.heap.get? a=some o
 same:∃h t,s'={s with heap:=h,toks:=t}
 size:s.heap.objs.size≤s'.heap.objs.size
noncomputable abbrev gF:Addr→Prop:=fun z_=>False
theorem bp.refl(X:Addr→Prop)(ρ:Rho)(s:Shared):bp X ρ s ρ s:=⟨aB _,fun n p h e=>by rw [List.getElem?_eq_none h] at e;simp at e,fun z_ z_ e z_ z_=>e,⟨_,_,rfl⟩,ax _⟩
theorem bp.toks(X:Addr→Prop)(ρ:Rho)(s:Shared)(t:Nat):bp X ρ s ρ {s with toks:=t}:=⟨aB _,fun n p h e=>by rw [List.getElem?_eq_none h] at e;simp at e,fun z_ z_ e z_ z_=>e,⟨_,_,rfl⟩,ax _⟩
theorem bp.trans{X:Addr→Prop}{ρ ρ' ρ'':Rho}{s s' s'':Shared}(x:bp X ρ s ρ' s')(y:bp X ρ' s' ρ'' s''):bp X ρ s ρ'' s'' where
 pre:=x.pre.trans y.pre
 fresh n p h e:=by
  rcases cD n ρ'.length with hn | hn
  ·have e':ρ'[n]?=some ρ'[n]:=aC hn;have:=gM y.pre e';rw [e] at this;cases this;exact x.fresh n _ h e'
  ·have:=y.fresh n p hn e;have:=x.size;omega
 keep a o e hX hp:=y.keep a o (x.keep a o e hX hp) hX fun n p en=>by
  rcases cD n ρ.length with hn | hn
  ·have e':ρ[n]?=some ρ[n]:=aC hn;have:=gM x.pre e';rw [en] at this;cases this;exact hp n _ e'
  ·have:=x.fresh n p hn en;have l:=bo e;exact ⟨bN (al l this.1),bN (al l this.2)⟩
 same:=by
  refine Ak x.same fun h t q=>?_;subst q;refine Ak y.same fun h' t' w=>?_;subst w;exact ⟨h',t',rfl⟩
 size:=am x.size y.size
theorem bp.weaken{Y:Addr→Prop}(x:bp X ρ s ρ' s')(h:∀a,X a→Y a):bp Y ρ s ρ' s':=⟨x.pre,x.fresh,fun a o e hY hp=>x.keep a o e (fun q=>hY (h a q)) hp,x.same,x.size⟩
theorem bp.any{Y:Addr→Prop}(x:bp gF ρ s ρ' s'):bp Y ρ s ρ' s':=x.weaken fun z_ h=>h.elim
theorem bp.drop{Y:Addr→Prop}(x:bp X ρ s ρ' s')(h:∀a,X a→Y a∨s.heap.objs.size≤a):bp Y ρ s ρ' s':=⟨x.pre,x.fresh,fun a o e hY hp=>x.keep a o e (fun q=>by
  rcases h a q with q | q
  ·exact hY q
  ·exact absurd (bo e) (bS.mpr q)) hp,x.same,x.size⟩
theorem bp.priv{t:Nat}(k:∀b o,¬X b→s.heap.get? b=some o→h'.get? b=some o)(hz:s.heap.objs.size≤h'.objs.size):bp X ρ s ρ {s with heap:=h',toks:=t} :=
 ⟨aB _,fun n p h e=>by rw [List.getElem?_eq_none h] at e;simp at e,fun a o e hX z_=>k a o hX e,⟨_,_,rfl⟩,hz⟩
theorem bp.tup(x:bp X ρ s ρ' s')(R:bJ W s.heap ρ σ)(hX:∀a o,X a→s.heap.get? a=some o→¬kb o):bg W s.heap s'.heap:=fun a o e c z_ =>
 x.keep a o e (fun q=>hX a o q e c) fun n p en=>by
 refine bG (R.alive en) fun ob z_ r=>?_;refine CT r.live fun w o2 h2 c2=>?_;refine bG w fun o1 h1 c1=>?_;constructor
 ·rintro rfl;rw [e] at h1;cases h1;exact c1 c.1
 ·rintro rfl;rw [e] at h2;cases h2;exact c2 c.1
theorem bp.tup0(x:bp gF ρ s ρ' s')(R:bJ W s.heap ρ σ):bg W s.heap s'.heap:=x.tup R fun z_ z_ h=>h.elim
noncomputable def ci(W:Wd)(ρ:Rho)(s:Shared)(Q:V→Hp→Prop)(v:Value)(s':Shared):Prop :=
 ∃ρ' σ' a,bp gF ρ s ρ' s'∧bJ W s'.heap ρ' σ'∧aK W s'.heap ρ' a v∧Q a σ'
theorem ci.trans{W:Wd}{ρ ρ₁:Rho}{s s₁:Shared}{Q:V→Hp→Prop}{v:Value}{s':Shared}(x:bp gF ρ s ρ₁ s₁)(y:ci W ρ₁ s₁ Q v s'):ci W ρ s Q v s':=by
 refine cK y fun ρ' σ' a b c d e=>?_;exact ⟨ρ',σ',a,x.trans b,c,d,e⟩
theorem BK{a:Addr}{o:Obj}(e:h.get? a=some o)(l:h.objs.size≤n):a≠n:=aN (al (bo e) l)
theorem bJ.keep(R:bJ W h ρ σ)(k:∀a o,h.get? a=some o→h'.get? a=some o)(hz:h.objs.size≤h'.objs.size):bJ W h' ρ σ where
 len:=R.len
 priv a p:=let ⟨o,h1,h2⟩:=R.priv a p;⟨o,k _ _ h1,h2⟩
 ob n o p e ep:=(R.ob n o p e ep).mono (fun a o e z_ z_=>k a o e) (aB _) (fun z_=>k _ _) (fun z_=>k _ _)
 apart:=R.apart
 new:=R.new
 size:=am R.size hz
 top a o e:=k a o (R.top a o e)
theorem bJ.notup(R:bJ W h ρ σ){a:Addr}(ep:ρ[n]?=some p)(ha:a=p.1∨a=p.2){o:Obj}(e:h.get? a=some o):o.cls≠.type "tuple":=by
 refine bG (R.alive ep) fun ob z_ r=>?_;refine CT r.live fun q o2 h2 c2=>?_;refine bG q fun o1 h1 c1=>?_;rcases ha with rfl | rfl
 ·rw [h1] at e;cases e;exact c1
 ·rw [h2] at e;cases e;exact c2
theorem bJ.tupkeep(R:bJ W h ρ σ){a:Addr}(ep:ρ[n]?=some p)(ha:a=p.1∨a=p.2)(hs:Heap.SameBut a h h'):bg W h h':=fun b o e c z_=>by
 have:b≠a:=fun q=>R.notup ep ha (q▸e) c.1;rw [hs.2 b this];exact e
theorem bJ.upd(R:bJ W h ρ σ){o':Ob}{a:Addr}(ep:ρ[n]?=some p)(ha:a=p.1∨a=p.2)(hs:Heap.SameBut a h h')
  (r:il W h' ρ p o'):bJ W h' ρ (σ.set n o') where
 len:=by rw [bO];exact R.len
 ob m o q e eq:=by
  refine Or.elim (Classical.em (m=n)) (fun hm=>?_) (fun hm=>?_)
  ·subst hm;rw [ep] at eq;cases eq;have:m<σ.length:=by rw [←R.len];exact (aE.mp ep).1
   rw [List.getElem?_set_self this] at e;cases e;exact r
  ·rw [List.getElem?_set_ne (aU hm)] at e;have:=R.apart m n q p hm eq ep;refine (R.ob m o q e eq).mono (R.tupkeep ep ha hs) (aB _) (fun ob h1=>?_) (fun ob h1=>?_)
   ·rw [hs.2 _ (by rcases ha with rfl | rfl;exact this.1;exact this.2.1)];exact h1
   ·rw [hs.2 _ (by rcases ha with rfl | rfl;exact this.2.2.1;exact this.2.2.2)];exact h1
 apart:=R.apart
 new:=R.new
 size:=by rw [hs.1];exact R.size
 priv b p:=by
  refine bG (R.priv b p) fun o h1 h2=>?_;have:b≠a:=fun q=>R.notup ep ha (q▸h1) h2.1;exact ⟨o,(hs.2 b this).trans h1,h2⟩
 top b o e:=by
  have:=R.new n p ep;rw [hs.2 b (by rcases ha with rfl | rfl;exact BK e this.1;exact BK e this.2)];exact R.top b o e
theorem kA{t:Nat}{a:Addr}(ep:ρ[n]?=some p)(ha:a=p.1∨a=p.2)(hs:Heap.SameBut a s.heap h'):bp gF ρ s ρ {s with heap:=h',toks:=t} where
 pre:=aB _
 fresh m q hm e:=by rw [List.getElem?_eq_none hm] at e;exact ca e
 keep b o e _ hb:=by
  have:=hb n p ep;rw [hs.2 b (by rintro rfl;rcases ha with rfl | rfl;exact this.1 rfl;exact this.2 rfl)];exact e
 same:=⟨_,_,rfl⟩
 size:=by show _≤h'.objs.size;rw [hs.1];exact ax _
theorem bJ.push(R:bJ W h ρ σ){o:Ob}{ob:Obj}(r:il W (h.push ob) (ρ++[(h.objs.size,h.objs.size)]) (h.objs.size,h.objs.size) o) :
  bJ W (h.push ob) (ρ++[(h.objs.size,h.objs.size)]) (σ++[o]) where
 len:=by simp [R.len]
 ob n o' p e ep:=by
  refine Or.elim (cD n σ.length) (fun hn=>?_) (fun hn=>?_)
  ·rw [au hn] at e;rw [au (by rw [R.len];exact hn)] at ep;exact (R.ob n o' p e ep).mono (fun a o e z_ z_=>aA _ e) (cj ..) (fun z_ e=>aA _ e) (fun z_ e=>aA _ e)
  ·have:n=σ.length:=by
    have:=(aE.mp e).1;simp at this;omega
   subst this;rw [aL (ax _)] at e;rw [aL (by rw [R.len];exact ax _),R.len] at ep;simp at e ep;subst e ep;exact r
 apart m n p q hmn ep eq:=by
  have old:∀(m:Nat) (p:Addr×Addr),m<ρ.length→(ρ++[(h.objs.size,h.objs.size)])[m]?=some p→p.1<h.objs.size∧p.2<h.objs.size:=fun m p hm e=>by
   rw [au hm] at e;refine bG (R.alive e) fun ob z_ r=>?_;refine CT r.live fun w o2 h2 z_=>?_;refine bG w fun o1 h1 z_=>?_;exact ⟨bo h1,bo h2⟩
  have newp:∀(m:Nat) (p:Addr×Addr),¬m<ρ.length→(ρ++[(h.objs.size,h.objs.size)])[m]?=some p→m=ρ.length∧p=(h.objs.size,h.objs.size):=fun m p hm e=>by
   have l:=(aE.mp e).1;simp at l;have:m=ρ.length:=by omega
   subst this;rw [aL (ax _)] at e;simp at e;exact ⟨rfl,e.symm⟩
  by_cases hm:m<ρ.length<;>rcases Classical.em (n<ρ.length) with hn | hn
  ·rw [au hm] at ep;rw [au hn] at eq;exact R.apart m n p q hmn ep eq
  ·refine xa (newp n q hn eq) fun z_ x=>?_;subst x;have:=old m p hm ep;exact ⟨aN this.1,aN this.1,aN this.2,aN this.2⟩
  ·refine xa (newp m p hm ep) fun z_ y=>?_;subst y;have:=old n q hn eq;exact ⟨bN this.1,bN this.2,bN this.1,bN this.2⟩
  ·exact absurd ((newp m p hm ep).1.trans (newp n q hn eq).1.symm) hmn
 new n p ep:=by
  refine Or.elim (cD n ρ.length) (fun hn=>?_) (fun hn=>?_)
  ·rw [au hn] at ep;exact R.new n p ep
  ·have l:=(aE.mp ep).1;simp at l;have:n=ρ.length:=by omega
   subst this;rw [aL (ax _)] at ep;simp at ep;subst ep;exact ⟨R.size,R.size⟩
 size:=by rw [br];exact bD R.size
 priv a p:=let ⟨o,h1,h2⟩:=R.priv a p;⟨o,aA _ h1,h2⟩
 top a o e:=aA _ (R.top a o e)
theorem Ab{t:Nat}{ob:Obj}:bp gF ρ s (ρ++[(s.heap.objs.size,s.heap.objs.size)]) {s with heap:=s.heap.push ob,toks:=t} where
 pre:=cj ..
 fresh n p hn e:=by
  rw [aL hn] at e;have:n-ρ.length=0:=by
   have:=(aE.mp e).1;simp at this;omega
  rw [this] at e;simp at e;subst e;exact ⟨ax _,ax _⟩
 keep a o e _ _:=aA _ e
 same:=⟨_,_,rfl⟩
 size:=by show _≤(s.heap.push ob).objs.size;rw [br];exact Nat.le_succ _
theorem cR{t:Nat}(k:∀a o,s.heap.get? a=some o→h'.get? a=some o)(hz:s.heap.objs.size≤h'.objs.size):bp gF ρ s ρ {s with heap:=h',toks:=t} where
 pre:=aB _
 fresh m q hm e:=by rw [List.getElem?_eq_none hm] at e;exact ca e
 keep b o e _ _:=k b o e
 same:=⟨_,_,rfl⟩
 size:=hz
mutual
noncomputable def V.deq:V→V→Bool
 | .none,y=>match y with | .none=>true | _=>false
 | .bool a,y=>match y with | .bool b=>a==b | _=>false
 | .int a,y=>match y with | .int b=>decide (a=b) | _=>false
 | .str a,y=>match y with | .str b=>decide (a=b) | _=>false
 | .tup l,y=>match y with | .tup m=>V.deqs l m | _=>false
 | .obj a,y=>match y with | .obj b=>decide (a=b) | _=>false
 | .ints a,y=>match y with | .ints b=>decide (a=b) | _=>false
noncomputable def V.deqs:List V→List V→Bool
 | [],m=>match m with | []=>true | _=>false
 | x::l,m=>match m with | []=>false | y::m=>match V.deq x y with | true=>V.deqs l m | false=>false
end
theorem V.deqs_cons(x y:V)(l m:List V):V.deqs (x::l) (y::m)=(V.deq x y&&V.deqs l m):=by
 show (match V.deq x y with | true=>V.deqs l m | false=>false)=_;cases V.deq x y<;>rfl
theorem V.deq_self(x:V):V.deq x x=true :=
 V.rec (motive_1:=fun x=>V.deq x x=true) (motive_2:=fun l=>V.deqs l l=true) rfl (fun a=>beq_self_eq_true a) (fun z_=>bh rfl) (fun z_=>bh rfl) (fun z_ m=>m) (fun z_=>bh rfl) (fun z_=>bh rfl) rfl
  (fun x l a b=>(V.deqs_cons x x l l).trans (Bool.and_eq_true_iff.2 ⟨a,b⟩)) x
theorem V.deq_eq(x:V):∀y:V,V.deq x y=true→x=y :=
 V.rec (motive_1:=fun x=>∀y:V,V.deq x y=true→x=y) (motive_2:=fun l=>∀m,V.deqs l m=true→l=m)
  (fun y h=>by induction y using V.ind with | h0=>rfl | _=>exact bF h)
  (fun a y h=>by induction y using V.ind with | h1=>exact congrArg V.bool (eq_of_beq h) | _=>exact bF h)
  (fun a y h=>by induction y using V.ind with | h2=>exact congrArg V.int (aF h) | _=>exact bF h)
  (fun a y h=>by induction y using V.ind with | h3=>exact congrArg V.str (aF h) | _=>exact bF h)
  (fun a m y h=>by induction y using V.ind with | ht l=>exact congrArg V.tup (m l h) | _=>exact bF h)
  (fun a y h=>by induction y using V.ind with | h4=>exact congrArg V.obj (aF h) | _=>exact bF h)
  (fun a y h=>by induction y using V.ind with | h5=>exact congrArg V.ints (aF h) | _=>exact bF h)
  (fun m h=>by cases m with | nil=>rfl | cons=>exact bF h)
  (fun x l a b m h=>by
   cases m with
   | nil=>exact bF h
   | cons y m =>
    have h:=a8.1 ((V.deqs_cons x y l m).symm.trans h);rw [a y h.1,b m h.2]) x
theorem V.deqs_eq(l m:List V)(h:V.deqs l m=true):l=m:=V.tup.inj (V.deq_eq (.tup l) (.tup m) h)
theorem V.deq_iff{x y:V}:V.deq x y=true↔x=y:=⟨V.deq_eq x y,fun e=>e▸V.deq_self x⟩
theorem V.deq_ne{x y:V}(h:x≠y):V.deq x y=false:=by
 cases e:V.deq x y with
 | false=>rfl
 | true=>exact absurd (V.deq_iff.mp e) h
noncomputable def fW(l:List (V×V))(k:V):Option Nat:=l.findIdx? fun p=>V.deq p.1 k
noncomputable def getD(l:List (V×V))(k:V):Option V:=(l.find? fun p=>V.deq p.1 k).map (·.2)
noncomputable def dw(l:List (V×V))(k v:V):List (V×V) :=
 match fW l k with
 | some i=>l.modify i fun p=>(p.1,v)
 | none=>l++[(k,v)]
noncomputable def fK(l:List (V×V))(e:Nat)(k v:V):Ob:=.dict (dw l k v) (if (getD l k).isSome then e else e+1)
noncomputable def oA(l:List (V×V))(k:V):List (V×V) :=
 match fW l k with
 | some i=>l.eraseIdx i
 | none=>l
noncomputable def pq(l:List (V×V))(e:Nat)(k:V):Ob:=.dict (oA l k) (e+1)
theorem fX{l:List (V×V)}(h:fW l k=some i):∃v,l[i]?=some (k,v):=by
 unfold fW at h;obtain ⟨hl,hp,_⟩:=List.findIdx?_eq_some_iff_getElem.mp h;refine ⟨(l[i]).2,?_⟩;rw [aC hl,←V.deq_iff.mp hp]
theorem kG{l:List (V×V)}(h:fW l k=none):∀p∈l,p.1≠k:=fun p hp e=>by
 unfold fW at h;have:=List.findIdx?_eq_none_iff.mp h p hp;rw [e,V.deq_self] at this;cases this
theorem kH{l:List (V×V)}(hn:(l.map (·.1)).Nodup)(h:l[i]?=some (k,v)):fW l k=some i:=by
 obtain ⟨hl,e⟩:=aE.mp h;refine List.findIdx?_eq_some_iff_getElem.mpr ⟨hl,by rw [e];exact V.deq_self _,fun j hj q=>?_⟩;have q:=V.deq_iff.mp q;have h1:(l.map (·.1))[j]?=some k:=by rw [List.getElem?_map,aC (by omega),Option.map_some,q]
 have h2:(l.map (·.1))[i]?=some k:=by rw [List.getElem?_map,h];rfl
 have:=(List.getElem?_inj (by simp;omega) hn).mp (h1.trans h2.symm);omega
theorem sj{l:List (V×V)}(h:∀(j:Nat) (v:V),l[j]?≠some (k,v)):fW l k=none:=by
 cases e:fW l k with
 | none=>rfl
 | some i=>refine xe (fX e) fun v hv=>?_;exact absurd hv (h i v)
section
variable{E:Value→Shared→Prop}
theorem cr.length{h:Heap}{l:List (V×V)}{es:List DictEntry}(r:cr W h ρ l es):es.length=l.length:=by
 induction r with
 | nil=>rfl
 | cons _ _ _ _ _ ih=>exact congrArg Nat.succ ih
theorem cr.get{l:List (V×V)}(r:cr W h ρ l es):∀{n:Nat} {e:DictEntry},es[n]?=some e→
  ∃k v,l[n]?=some (k,v)∧k.key=true∧k.dep≤6∧e.hash=eF W.w k∧aK W h ρ k e.key∧aK W h ρ v e.val:=by
 induction r with
 | nil=>exact fun e=>ca e
 | cons a b c d _ ih =>
  intro n e q;rcases n with _ | n
  ·cases q;exact ⟨_,_,rfl,a,b,rfl,c,d⟩
  ·exact ih (n:=n) q
theorem gn{M:Model}{c:Prop} [Decidable c]{a b:Sem α}{Q:α→Shared→Prop}(h1:c→wpAny M A a Q E s)(h2:¬c→wpAny M A b Q E s):wpAny M A (if c then a else b) Q E s:=by
 refine Or.elim (Classical.em (c)) (fun h=>?_) (fun h=>?_)
 ·rw [if_pos h];exact h1 h
 ·rw [if_neg h];exact h2 h
noncomputable def vk:V→Nat | .none=>Value.none.ctorIdx | .bool b=>(Value.bool b).ctorIdx | .int i=>(Value.int i 0).ctorIdx | .str s=>(Value.str (Str.ofString s) 0).ctorIdx | .tup _ | .obj _ | .ints _=>(Value.ref 0).ctorIdx
theorem Hy{a:Value}(r:aK W h ρ v a)(k:Nat.beq a.ctorIdx (vk v)=false):P :=
 absurd (r.ind (M:=fun v a=>a.ctorIdx=vk v) rfl (fun z_=>rfl) (fun z_ z_=>rfl) (fun z_ z_=>rfl) (fun z_ z_ z_ z_ z_=>rfl) (fun z_=>rfl) fun z_ z_ z_ z_=>rfl) (Nat.ne_of_beq_eq_false k)
theorem B2{x y:V}{a:Value}(hx:x.key=true)(hy:y.key=true)(r:aK W h ρ x a)(q:aK W h ρ y a):x=y :=
 V.rec (motive_1:=fun x=>∀y a,x.key=true→y.key=true→aK W h ρ x a→aK W h ρ y a→x=y) (motive_2:=fun l=>∀m as,V.keys l=true→V.keys m=true→aZ W h ρ l as→aZ W h ρ m as→l=m)
  (fun z_ z_ e=>bF e) (fun z_ z_ z_ e=>bF e)
  (fun i y a z_ hy r q=>by
   refine xe r.E fun t w=>?_;subst w
   induction y using V.ind with
   | h2 j=>refine xe q.E fun u e=>?_;rw [(Value.int.inj e).1]
   | _=>first | exact bF hy | exact Hy q rfl)
  (fun i y a z_ hy r q=>by
   refine xe r.E fun t z=>?_;subst z
   induction y using V.ind with
   | h3 j=>refine xe q.E fun u e=>?_;exact congrArg V.str (cO (Value.str.inj e).1)
   | _=>first | exact bF hy | exact Hy q rfl)
  (fun l ih y a hx hy r q=>by
   refine cp r.E fun b o items ep s p1 p2 p3 p4 p5=>?_;subst s
   induction y using V.ind with
   | ht m =>
    refine cp q.E fun b' o' items' ep' e q1 q2 q3 q4 q5=>?_;cases e;cases p1.symm.trans q1;cases p3.symm.trans q3;exact congrArg V.tup (ih m _ hx hy p5 q5)
   | _=>first | exact bF hy | exact Hy q rfl)
  (fun z_ z_ z_ e=>bF e) (fun z_ z_ z_ e=>bF e)
  (fun m as z_ z_ r q=>by
   cases (show as=[] from r.E)
   cases m with
   | nil=>rfl
   | cons=>refine cY q.E fun z_ z_ e z_=>?_;cases e)
  (fun v l a b m as hk hm r q=>by
   refine cS r.E fun x as p r1 r2=>?_;subst p
   cases m with
   | nil=>exact absurd (show x::as=[] from q.E) (List.cons_ne_nil _ _)
   | cons y m =>
    refine cS q.E fun x' as' e q1 q2=>?_;cases e;have hk:=a8.1 hk;have hm:=a8.1 hm;rw [a y x hk.1 hm.1 r1 q1,b m as hk.2 hm.2 r2 q2]) x y a hx hy r q
theorem CA{key:Value}{stored:List Value}{Q:Bool→Shared→Prop}(hk:k.key=true)(hdep:k.dep≤8)(hr:aK W s.heap ρ k key)
  (hst:∀v∈stored,∃k',k'.key=true∧k'.dep≤6∧aK W s.heap ρ k' v) (h:Q false s):wpAny (model W.prog W.w) A (tableMayTell key stored) Q E s:=by
 delta tableMayTell
 split
 ·exact ak h
 ·refine af (rF k hk hdep hr ?_);dsimp only [Bool.not_true,Bool.false_eq_true,if_false];refine af ?_;refine wpAny_forIn_list _ (fun rest r s'=>s'=s∧r=(none,())∧∀v∈rest,∃k',k'.key=true∧k'.dep≤6∧aK W s.heap ρ k' v) _ ?_ ?_ _ _ ⟨rfl,rfl,hst⟩
  ·intro x rest r s' q;refine ni q fun y z hr=>?_;clear q;subst y;subst z;refine f7 (hr x ai) fun k' a b c=>?_;refine af (rF k' a (by omega) c ?_);skip;exact ak ⟨rfl,rfl,fun v hv=>hr v (aj _ hv)⟩
  ·intro r s' u;refine ni u fun t p z_=>?_;clear u;subst t;subst p;exact ak h
noncomputable def An(l:List (V×V))(k:V)(rest:List Nat)(hit:Option Nat):Prop:=match hit with
 | none=>∀j v,l[j]?=some (k,v)→j∈rest
 | some j=>j∉rest∧∃v,l[j]?=some (k,v)
noncomputable def EF(es:Array DictEntry)(l:List (V×V))(k:V)(h:Int)(s:Shared)(rest:List Nat)(b:Option (Option Nat)×Option Nat)(s':Shared):Prop :=
 s'=s∧b.1=none∧rest.Nodup∧(∀x∈rest,x<es.size∧(es[x]?.map (·.hash))=some h)∧An l k rest b.2
section
variable{d:Addr}{o:Obj}{es:Array DictEntry}{ep:Nat}{key:Value}{l:List (V×V)}{Q:Option Nat→Shared→Prop}
theorem cr.at'(he:cr W h ρ l es.toList){e:DictEntry}(q:es[i]?=some e):∃k v,l[i]?=some (k,v)∧k.key=true∧k.dep≤6∧e.hash=eF W.w k∧aK W h ρ k e.key∧aK W h ρ v e.val :=
 he.get (by rw [Array.getElem?_toList];exact q)
theorem xG(he:cr W h ρ l es.toList):es.size=l.length:=by rw [←bu,he.length]
theorem rm(he:cr W h ρ l es.toList){j:Nat}(q:l[j]?=some (k,v)):j∈(placesWithHash es.size (fun i=>es[i]?.map (·.hash)) (eF W.w k)):=by
 have hj:j<es.size:=by rw [xG he];exact (aE.mp q).1
 have ge:=Array.getElem?_eq_getElem hj;refine iF (he.at' ge) fun k' v' e1 z_ z_ e2 z_=>?_;refine List.mem_filter.mpr ⟨List.mem_range.mpr hj,?_⟩;show (es[j]?.map (·.hash)==some (eF W.w k))=true;cases q.symm.trans e1;rw [ge,Option.map_some,e2];exact beq_self_eq_true _
theorem uT{H:Int}{j:Nat}(q:j∈placesWithHash es.size (fun i=>es[i]?.map (·.hash)) H):j<es.size∧(es[j]?.map (·.hash))=some H :=
 ⟨List.mem_range.mp (cC.mp q).1,eq_of_beq (cC.mp q).2⟩
theorem Hn(hn:(l.map (·.1)).Nodup){j:Nat}{v':V}(a:l[i]?=some (k,v))(b:l[j]?=some (k,v')):i=j:=aX ((kH hn a).symm.trans (kH hn b))
theorem lG(he:cr W s.heap ρ l es.toList)(hk:k.key=true)(hr:aK W s.heap ρ k key)(hu:A.units+8<cLine){e:DictEntry}{Q':Bool→Shared→Prop}(q:es[i]?=some e)(hQ:∀k' v,l[i]?=some (k',v)→∀b:Bool,(b=true↔k'=k)→Q' b s) :
  wpAny (model W.prog W.w) A (eqBool e.key key) Q' E s:=by
 refine gw (he.at' q) fun k' v e1 e2 e3 e4 e5 z_=>?_;exact pw (V.dat_of_key e2) (V.dat_of_key hk) (ay (bK (am e3 (by decide)) _) hu) e5 hr (hQ k' v e1 _ (@decide_eq_true_iff _ (Classical.propDecidable _)))
theorem yR(he:cr W s.heap ρ l es.toList)(hk:k.key=true)(hr:aK W s.heap ρ k key)(hu:A.units+8<cLine)(ho:s.heap.get? d=some o)(hd:o.data=.dict es ep)(hn:(l.map (·.1)).Nodup)(h:Q (fW l k) s) :
  wpAny (model W.prog W.w) A (dictWalkPlain d key (eF W.w k) es (placesWithHash es.size (fun i=>es[i]?.map (·.hash)) (eF W.w k))) Q E s:=by
 refine af ?_;refine wpAny_forIn_list _ (fun rest b s'=>s'=s∧b=(none,())∧(∀x∈rest,x<es.size∧(es[x]?.map (·.hash))=some (eF W.w k))∧An l k rest none) _ ?_ ?_ _ _
  ⟨rfl,rfl,fun x hx=>uT hx,fun j v q=>rm he q⟩
 ·intro x rest b s' hI;refine nU hI fun e1 e2 hall hH=>?_;subst e1;subst e2;have hx:=hall x ai;have ge:=Array.getElem?_eq_getElem hx.1;have hh:(es[x].hash==eF W.w k)=true:=beq_iff_eq.2 (aX (by have:=hx.2;rw [ge] at this;exact this));rw [ge];refine gn (fun z_=>?_) fun q=>absurd hh q;refine af (wpAny_dictEpoch ho hd (af (lG he hk hr hu ge fun k' v hkv b hb=>af (wpAny_dictEpoch ho hd ?_))));refine gn (fun q=>absurd q (by rw [bne_self_eq_false];decide)) fun z_=>?_;refine gn (fun hb'=>?_) fun hb'=>?_
  ·cases hb.mp hb';rw [kH hn hkv] at h;exact af (wpAny_rule (ak (ak h)))
  ·exact af (wpAny_rule (ak ⟨rfl,rfl,fun x q=>hall x (aj _ q),fun j w q=>(List.mem_cons.1 (hH j w q)).resolve_left fun e=>hb' (hb.mpr (Prod.mk.inj (aX (hkv.symm.trans (e▸q)))).1)⟩))
 ·intro b s' hI;refine nU hI fun e1 e2 z_ hH=>?_;subst e1;subst e2;rw [sj fun j v q=>nomatch hH j v q] at h;exact ak h
theorem AW{x:Str}{t:Tok}(he:cr W s.heap ρ l es.toList)(hk:k.key=true)(hr:aK W s.heap ρ k (.str x t))(hu:A.units+8<cLine)(ho:s.heap.get? d=some o)(hd:o.data=.dict es ep)(hn:(l.map (·.1)).Nodup)(h:Q (fW l k) s) :
  wpAny (model W.prog W.w) A (foundByValue d (.str x t) es x) Q E s:=by
 have hkx:∃z,k=.str z∧x=Str.ofString z:=by
  induction k using V.ind with
  | h3 z=>refine xe hr.E fun u e=>?_;exact ⟨z,rfl,(Value.str.inj e).1⟩
  | _=>exact Hy hr rfl
 refine bG hkx fun z hkz hxz=>?_;subst hkz hxz;have isk:∀{i:Nat} {e:DictEntry},es[i]?=some e→(e.key.isStr (Str.ofString z)=true↔∃v,l[i]?=some (.str z,v)):=fun {i e} q=>by
  have ⟨k',v,e1,e2,e3,e4,e5,_⟩:=he.at' q;have hz:e.key.isStr (Str.ofString z)=true↔k'=.str z:=by
   clear q e1 e3 e4
   induction k' using V.ind with
   | h2 i=>refine xe e5.E fun u e=>?_;rw [e];exact V.ff rfl rfl
   | h3 y=>refine xe e5.E fun u e=>?_;rw [e];exact ⟨fun q=>congrArg V.str (cO (eq_of_beq q)),fun q=>by cases q;exact beq_self_eq_true _⟩
   | ht l=>refine xu e5.E fun b o items ep e z_=>?_;rw [e];exact V.ff rfl rfl
   | _=>exact bF e2
  exact hz.trans ⟨fun q=>⟨v,q▸e1⟩,fun p=>xe p fun v' q=>(Prod.mk.inj (aX (e1.symm.trans q))).1⟩
 delta foundByValue;generalize hf:es.findIdx? (·.key.isStr (Str.ofString z))=r;rcases r with _ | i
 ·rw [sj fun j v q=>?_] at h
  ·exact ak h
  ·have hj:j<es.size:=by rw [xG he];exact (aE.mp q).1
   have:=Array.findIdx?_eq_none_iff.mp hf es[j] (Array.getElem_mem hj);rw [(isk (Array.getElem?_eq_getElem hj)).mpr ⟨v,q⟩] at this;cases this
 ·have ⟨hi,hp,_⟩:=Array.findIdx?_eq_some_iff_getElem.mp hf;have ge:=Array.getElem?_eq_getElem hi;refine xe ((isk ge).mp hp) fun v hv=>?_;rw [kH hn hv] at h;dsimp only;rw [ge];refine af (wpAny_dictEpoch ho hd (af (lG he hk hr hu ge fun k' v' hkv b hb=>af (wpAny_dictEpoch ho hd ?_))));refine gn (fun q=>absurd q (by rw [bne_self_eq_false];decide)) fun z_=>?_;have hb':b=true:=hb.mpr (Prod.mk.inj (aX (hkv.symm.trans hv))).1;subst hb';exact af (wpAny_rule (ak h))
theorem AV(he:cr W s.heap ρ l es.toList)(hk:k.key=true)(hr:aK W s.heap ρ k key):¬(es.any fun e=>e.key==key&&e.hash !=eF W.w k)=true:=by
 rw [←Array.any_toList,List.any_eq_true];intro q;refine bG q fun e hin hc=>?_;clear q;refine xe (List.mem_iff_getElem?.mp hin) fun i hi=>?_;refine gw (he.at' (i:=i) (e:=e) (by rw [←Array.getElem?_toList];exact hi)) fun k' v e1 e2 e3 e4 e5 z_=>?_;have hc:=a8.1 hc;rw [eq_of_beq hc.1] at e5;exact bne_iff_ne.1 hc.2 (B2 e2 hk e5 hr▸e4)
theorem iW(hu:A.units+8<cLine)(hk:k.key=true)(hdep:k.dep≤6)(hr:aK W s.heap ρ k key)(ho:s.heap.get? d=some o)(hd:o.data=.dict es ep)(he:cr W s.heap ρ l es.toList)(hn:(l.map (·.1)).Nodup)
  (h:Q (fW l k) s):wpAny (model W.prog W.w) A (dictFind d key (eF W.w k)) Q E s:=by
 have hst:∀v∈(placesWithHash es.size (fun i=>es[i]?.map (·.hash)) (eF W.w k)).filterMap (fun i=>es[i]?.map (·.key)),∃k',k'.key=true∧k'.dep≤6∧aK W s.heap ρ k' v:=fun v hv=>by
  refine bG (List.mem_filterMap.mp hv) fun i z_ hi=>?_;refine bG (Option.map_eq_some_iff.1 hi) fun e he' hi=>?_;refine gw (he.at' he') fun k' v' z_ a b z_ c z_=>?_;exact ⟨k',a,b,hi▸c⟩
 delta dictFind
 try with_reducible refine a9 ?_
 refine af (wpAny_dictEntries ho hd ?_);extract_lets -underBinder jp;have hjp:∀r,wpAny (model W.prog W.w) A (jp r) Q E s:=fun r=>by
  skip;dsimp -zeta only [jp];extract_lets -underBinder places stored jp2;refine gn (fun z_=>yR he hk hr hu ho hd hn h) fun z_=>?_;have hjp2:∀r,wpAny (model W.prog W.w) A (jp2 r) Q E s:=fun r=>by
   skip;dsimp -zeta only [jp2];extract_lets -underBinder jp3;have hjp3:wpAny (model W.prog W.w) A (jp3 false) Q E s:=by
    dsimp -zeta only [jp3];extract_lets -underBinder jp4;refine gn (fun q=>absurd q (by rw [Bool.false_and];decide)) fun z_=>?_;dsimp -zeta only [jp4];refine af ?_;refine wpAny_forIn_list _ (EF es l k (eF W.w k) s) _ ?_ ?_ _ _ ⟨rfl,rfl,List.Pairwise.filter _ List.nodup_range,fun x hx=>uT hx,fun j v q=>rm he q⟩
    ·intro x rest b s' hI;obtain ⟨b1,hit⟩:=b;refine vB hI fun e1 e2 hnd hall hH=>?_;cases e1;subst e2;have hx:=hall x ai;have nd:=List.nodup_cons.1 hnd;have keep:∀hit':Option Nat,An l k rest hit'→EF es l k (eF W.w k) s rest (none,hit') s:=fun hit' h=>⟨rfl,rfl,nd.2,fun x q=>hall x (aj _ q),h⟩
     have ge:=Array.getElem?_eq_getElem hx.1;dsimp -zeta only;rw [ge];have hh:(es[x].hash==eF W.w k)=true:=beq_iff_eq.2 (aX (by have:=hx.2;rw [ge] at this;exact this));refine gn (fun z_=>?_) fun q=>absurd hh q;refine af (wpAny_dictEpoch ho hd (af (lG he hk hr hu ge fun k' v hkv b hb=>af (wpAny_dictEpoch ho hd ?_))));extract_lets -underBinder jp5;refine gn (fun q=>absurd q (by rw [bne_self_eq_false];decide)) fun z_=>?_;dsimp -zeta only [jp5];clear jp5;refine gn (fun hb'=>?_) fun hb'=>?_
     ·cases hb.mp hb';rcases hit with _ | j
      ·refine gn (fun q=>absurd q (by decide)) fun z_=>af (wpAny_rule (gn (fun z_=>?_) fun z_=>ak (keep (some x) ⟨nd.1,v,hkv⟩)));rw [kH hn hkv] at h;exact ak (ak h)
      ·exact hH.2.elim fun v' q=>absurd (Hn hn q hkv▸ai) hH.1
     ·refine af (wpAny_rule (gn (fun q=>absurd q (by rw [Bool.false_and];decide)) fun z_=>ak (keep hit ?_)));rcases hit with _ | j
      ·exact fun j w q=>(List.mem_cons.1 (hH j w q)).resolve_left fun e=>hb' (hb.mpr (Prod.mk.inj (aX (hkv.symm.trans (e▸q)))).1)
      ·exact ⟨fun m=>hH.1 (aj _ m),hH.2⟩
    ·intro b s' hI;obtain ⟨b1,hit⟩:=b;refine vB hI fun e1 e2 z_ z_ hH=>?_;subst e1;subst e2;rcases hit with _ | j
     ·rw [sj fun j v q=>nomatch hH j v q] at h;exact ak h
     ·have ⟨v,q⟩:=hH.2;rw [kH hn q] at h;exact ak h
   clear_value jp3;exact gn (fun z_=>af (ak hjp3)) fun z_=>af (CA hk (am hdep (by decide)) hr hst hjp3)
  clear_value jp2;rcases key with _ | _ | _ | _ | _ | _ | _<;>first | exact hjp2 _ | exact gn (fun hh=>absurd hh (AV he hk hr)) fun z_=>hjp2 _
 clear_value jp;rcases key with _ | _ | _ | _ | _ | _ | _<;>first | exact hjp _ | exact gn (fun hstrs=>AW he hk hr hu ho hd hn h) fun z_=>hjp _
end
theorem ez{l:List (V×V)}(h:getD l k=some v):∃i,fW l k=some i∧l[i]?=some (k,v):=by
 unfold getD at h;refine bG (bR.mp h) fun p hp q=>?_;subst q
 cases e:fW l k with
 | none =>
  have:=kG e p (List.mem_of_find?_eq_some hp);exact absurd (V.deq_iff.mp (List.find?_some (p:=fun p:V×V=>V.deq p.1 k) hp)) this
 | some i =>
  refine ⟨i,rfl,?_⟩;unfold fW at e;rw [List.find?_eq_bind_findIdx?_getElem?,e] at hp;have hk:p.1=k:=by
   obtain ⟨hl,hp',_⟩:=List.findIdx?_eq_some_iff_getElem.mp e;have:l[i]?=some p:=hp;rw [aC hl] at this;cases this;exact V.deq_iff.mp hp'
  have:l[i]?=some p:=hp;rw [this,←hk]
theorem nC{l:List (V×V)}(h:getD l k=none):fW l k=none:=by
 unfold getD at h
 cases e:fW l k with
 | none=>rfl
 | some i =>
  refine xe (fX e) fun v hv=>?_;have:=List.find?_eq_none.mp (Option.map_eq_none_iff.mp h) _ (List.mem_of_getElem? hv);rw [V.deq_self] at this;exact absurd rfl this
theorem iy{l:List (V×V)}(e:fW l k=some i)(h:l[i]?=some (k,v)):getD l k=some v:=by
 cases g:getD l k with
 | none=>rw [nC g] at e;exact ca e
 | some w =>
  refine bG (ez g) fun j hj hw=>?_;rw [e] at hj;cases hj;rw [h] at hw;cases hw;rfl
end
section
variable{E:Value→Shared→Prop}
theorem cr.at{h:Heap}{l:List (V×V)}{es:List DictEntry}(r:cr W h ρ l es){n:Nat}{k v:V}(e:l[n]?=some (k,v)):∃a b,es[n]?=some ⟨eF W.w k,a,b⟩∧k.key=true∧k.dep≤6∧aK W h ρ k a∧aK W h ρ v b:=by
 have hn:n<es.length:=by rw [r.length];exact (aE.mp e).1
 refine gw (r.get (aC hn)) fun k' v' h1 h2 h3 h4 h5 h6=>?_;rw [e] at h1;cases h1;refine ⟨es[n].key,es[n].val,?_,h2,h3,h5,h6⟩;rw [aC hn,←h4]
theorem cr.push{a b:Value}(hk:k.key=true)(hd:k.dep≤6)(ra:aK W h ρ k a)(rb:aK W h ρ v b){l:List (V×V)}(r:cr W h ρ l es):cr W h ρ (l++[(k,v)]) (es++[⟨eF W.w k,a,b⟩]):=by
 induction r with
 | nil=>exact .cons hk hd ra rb .nil
 | cons x y z u _ ih=>exact .cons x y z u ih
theorem cr.modify{h:Heap}{v:V}{b:Value}(rb:aK W h ρ v b){l:List (V×V)}{es:List DictEntry}(i:Nat)(r:cr W h ρ l es):cr W h ρ (l.modify i fun p=>(p.1,v)) (es.modify i fun e=>{e with val:=b}):=by
 induction r generalizing i with
 | nil=>cases i<;>exact .nil
 | cons x y z u r ih =>
  cases i with
  | zero=>exact .cons x y z rb r
  | succ i=>exact .cons x y z u (ih i)
theorem cr.erase{l:List (V×V)}(i:Nat)(r:cr W h ρ l es):cr W h ρ (l.eraseIdx i) (es.eraseIdx i):=by
 induction r generalizing i with
 | nil=>cases i<;>exact .nil
 | cons x y z u r ih =>
  cases i with
  | zero=>exact r
  | succ i=>exact .cons x y z u (ih i)
theorem uB{l:List (V×V)}(k v:V)(hn:(l.map (·.1)).Nodup):((dw l k v).map (·.1)).Nodup:=by
 unfold dw
 cases e:fW l k with
 | some i =>
  have:(l.modify i fun p=>(p.1,v)).map (·.1)=l.map (·.1):=by
   clear e hn
   induction l generalizing i with
   | nil=>cases i<;>rfl
   | cons p r ih=>cases i with
    | zero=>simp
    | succ i=>simp [ih]
  rw [this];exact hn
 | none =>
  rw [List.map_append,List.map_cons,List.map_nil];rw [List.nodup_append];refine ⟨hn,by simp,fun a ha b hb=>?_⟩;simp at hb;subst hb;refine bG (List.mem_map.mp ha) fun p hp q=>?_;subst q;exact kG e p hp
theorem uz{l:List (V×V)}(k:V)(hn:(l.map (·.1)).Nodup):((oA l k).map (·.1)).Nodup:=by
 unfold oA
 cases e:fW l k with
 | some i =>
  exact ((List.eraseIdx_sublist l i).map _).nodup hn
 | none=>exact hn
theorem jq{l:List (V×V)}{epo:Nat}{key:Value}{Q:Option Value→Shared→Prop}(hu:A.units+8<cLine)(R:bJ W s.heap ρ σ)(ep:ρ[n]?=some p)(e:σ[n]?=some (.dict l epo))
  (hk:k.key=true) (hd:k.dep≤6) (rk:aK W s.heap ρ k key)
  (h1:∀v b t,getD l k=some v→aK W s.heap ρ v b→Q (some b) {s with toks:=t}) (h2:∀t,getD l k=none→Q none {s with toks:=t}) :
  wpAny (model W.prog W.w) A (dictGet p.1 key) Q E s:=by
 refine ni (R.ob n _ p e ep) fun z_ q hn=>?_;refine bG q fun es ho he=>?_;unfold dictGet
 try with_reducible refine a9 ?_
 refine af (mw k hk (by omega) rk fun t=>af (iW (s:={s with toks:=t}) hu hk hd rk ho rfl he hn ?_))
 cases hi:fW l k with
 | none =>
  refine ak (h2 _ ?_)
  cases g:getD l k with
  | none=>rfl
  | some v=>refine bG (ez g) fun i h z_=>?_;rw [hi] at h;exact ca h
 | some i =>
  refine xe (fX hi) fun v hv=>?_;refine iF (he.at hv) fun a b hb z_ z_ z_ rb=>?_;refine af (wpAny_dictEntries (s:={s with toks:=t}) ho rfl ?_);rw [←Array.getElem?_toList,hb];exact ak (h1 v b _ (iy hi hv) rb)
theorem po{l:List (V×V)}{epo:Nat}{key val:Value}{Q:Unit→Shared→Prop}(hu:A.units+8<cLine)(R:bJ W s.heap ρ σ)(ep:ρ[n]?=some p)(e:σ[n]?=some (.dict l epo))
  (hk:k.key=true) (hd:k.dep≤6) (rk:aK W s.heap ρ k key) (rv:aK W s.heap ρ v val) (hz:l.length<2^20)
  (h:∀h' t,bJ W h' ρ (σ.set n (fK l epo k v))→bp gF ρ s ρ {s with heap:=h',toks:=t}→Q () {s with heap:=h',toks:=t}) :
  wpAny (model W.prog W.w) A (dictSet p.1 key val) Q E s:=by
 refine ni (R.ob n _ p e ep) fun e12 q hn=>?_;refine bG q fun es ho he=>?_;have hlen:es.size=l.length:=by rw [←bu,he.length]
 have eK:es.size≤sizeLine:=by rw [hlen,sizeLine_eq];omega
 unfold dictSet
 try with_reducible refine a9 ?_
 refine af (mw k hk (by omega) rk fun t=>?_);unfold dictSetHashed
 try with_reducible refine a9 ?_
 refine af (iW (s:={s with toks:=t}) hu hk hd rk ho rfl he hn ?_);have fin:∀(h':Heap) (es':Array DictEntry),Heap.SameBut p.1 s.heap h'→h'.get? p.1=some ⟨.type "dict",none,.dict es' (if (getD l k).isSome then epo else epo+1),#[]⟩→
   (bg W s.heap h'→cr W h' ρ (dw l k v) es'.toList)→Q () {s with heap:=h',toks:=t}:=fun h' es' hs hg hr =>
  h h' t (R.upd (o':=fK l epo k v) ep (.inl rfl) hs ⟨e12,⟨es',hg,hr (R.tupkeep ep (.inl rfl) hs)⟩,uB k v hn⟩) (kA ep (.inl rfl) hs)
 cases hi:fW l k with
 | none =>
  have hg:getD l k=none:=by
   cases g:getD l k with
   | none=>rfl
   | some v=>refine bG (ez g) fun i h z_=>?_;rw [hi] at h;exact ca h
  rw [hg] at fin;refine af (wpAny_rule (wpAny_updateDictKeys (hz:=eK) (s:={s with toks:=t}) ho rfl ?_));refine fin _ _ (bi ..) (Heap.get?_update_self _ ho rfl) fun k'=>?_;unfold dw;rw [hi,Array.toList_push];exact (he.mono k' (aB _)).push hk hd (rk.mono k' (aB _)) (rv.mono k' (aB _))
 | some i =>
  refine xe (fX hi) fun v' hv'=>?_;rw [iy hi hv'] at fin;refine af (wpAny_rule (af (wpAny_updateDict (s:={s with toks:=t}) ho rfl (wpAny_point ?_))));refine fin _ _ (bi ..) (Heap.get?_update_self _ ho rfl) fun k'=>?_;unfold dw;rw [hi,Array.toList_modify];exact (he.mono k' (aB _)).modify (rv.mono k' (aB _)) i
theorem mn{l:List (V×V)}{epo:Nat}{key val:Value}{Q:Value→Shared→Prop}(hu:A.units+8<cLine)(R:bJ W s.heap ρ σ)(ep:ρ[n]?=some p)(e:σ[n]?=some (.dict l epo))
  (hk:k.key=true) (hd:k.dep≤6) (rk:aK W s.heap ρ k key) (rv:aK W s.heap ρ v val) (hz:l.length<2^20)
  (h1:∀u b t,getD l k=some u→aK W s.heap ρ u b→Q b {s with toks:=t})
  (h2:getD l k=none→∀h' t,bJ W h' ρ (σ.set n (fK l epo k v))→bp gF ρ s ρ {s with heap:=h',toks:=t}→aK W h' ρ v val→Q val {s with heap:=h',toks:=t}) :
  wpAny (model W.prog W.w) A (dictSetDefault p.1 key val) Q E s:=by
 refine ni (R.ob n _ p e ep) fun e12 q hn=>?_;refine bG q fun es ho he=>?_;have hlen:es.size=l.length:=by rw [←bu,he.length]
 have eK:es.size≤sizeLine:=by rw [hlen,sizeLine_eq];omega
 unfold dictSetDefault
 try with_reducible refine a9 ?_
 refine af (mw k hk (by omega) rk fun t=>?_);refine af (iW (s:={s with toks:=t}) hu hk hd rk ho rfl he hn ?_)
 cases hi:fW l k with
 | none =>
  refine af (wpAny_rule (af (wpAny_updateDictKeys (hz:=eK) (s:={s with toks:=t}) ho rfl (ak ?_))));have hg:getD l k=none:=by
   cases g:getD l k with
   | none=>rfl
   | some v=>refine bG (ez g) fun i h z_=>?_;rw [hi] at h;exact ca h
  have k':bg W s.heap (s.heap.update p.1 (Obj.mapDictKeys fun es=>es.push ⟨eF W.w k,key,val⟩)):=R.tupkeep ep (.inl rfl) (bi ..);refine h2 hg _ t (R.upd (o':=fK l epo k v) ep (.inl rfl) (bi ..) ⟨e12,⟨_,by rw [hg];exact Heap.get?_update_self _ ho rfl,?_⟩,uB k v hn⟩) (kA ep (.inl rfl) (bi ..)) (rv.mono k' (aB _));unfold dw;rw [hi,Array.toList_push];exact (he.mono k' (aB _)).push hk hd (rk.mono k' (aB _)) (rv.mono k' (aB _))
 | some i =>
  refine xe (fX hi) fun v hv=>?_;refine iF (he.at hv) fun a b hb z_ z_ z_ rb=>?_;refine af (wpAny_dictEntries (s:={s with toks:=t}) ho rfl ?_);rw [←Array.getElem?_toList,hb];exact af (wpAny_rule (ak (h1 v b _ (iy hi hv) rb)))
theorem xg{l:List (V×V)}{epo:Nat}{key:Value}{Q:Option DictEntry→Shared→Prop}(hu:A.units+8<cLine)(R:bJ W s.heap ρ σ)(ep:ρ[n]?=some p)(e:σ[n]?=some (.dict l epo))
  (hk:k.key=true) (hd:k.dep≤6) (rk:aK W s.heap ρ k key) (hz:l.length<2^20) (hg:getD l k=some v)
  (h:∀en h' t,aK W h' ρ v en.val→bJ W h' ρ (σ.set n (pq l epo k))→bp gF ρ s ρ {s with heap:=h',toks:=t}→Q (some en) {s with heap:=h',toks:=t}) :
  wpAny (model W.prog W.w) A (Builtin.Dict.takeOut p.1 key) Q E s:=by
 refine ni (R.ob n _ p e ep) fun e12 q hn=>?_;refine bG q fun es ho he=>?_;have hlen:es.size=l.length:=by rw [←bu,he.length]
 have eK:es.size≤sizeLine:=by rw [hlen,sizeLine_eq];omega
 refine bG (ez hg) fun i hi hv=>?_;refine iF (he.at hv) fun a b hb z_ z_ z_ rb=>?_;unfold Builtin.Dict.takeOut
 try with_reducible refine a9 ?_
 refine af (mw k hk (by omega) rk fun t=>?_);refine af (iW (s:={s with toks:=t}) hu hk hd rk ho rfl he hn ?_);rw [hi];refine af (wpAny_dictEntries (s:={s with toks:=t}) ho rfl ?_);rw [←Array.getElem?_toList,hb];have hlt:i<es.size:=by rw [hlen];exact (aE.mp hv).1
 have k':bg W s.heap (s.heap.update p.1 (Obj.mapDictKeys fun es=>es.eraseIdxIfInBounds i)):=R.tupkeep ep (.inl rfl) (bi ..);refine af (wpAny_updateDictKeys (hz:=eK) (hf:=?_) (s:={s with toks:=t}) ho rfl (ak (h _ _ t ?_ (R.upd (o':=pq l epo k) ep (.inl rfl) (bi ..) ⟨e12,⟨_,Heap.get?_update_self _ ho rfl,?_⟩,uz k hn⟩) (kA ep (.inl rfl) (bi ..)))))
 ·exact rb.mono k' (aB _)
 ·unfold oA;rw [hi];have:(es.eraseIdxIfInBounds i).toList=es.toList.eraseIdx i:=by simp [Array.eraseIdxIfInBounds,hlt]
  rw [this];exact (he.mono k' (aB _)).erase i
 ·simp [Array.eraseIdxIfInBounds,hlt];omega
end
set_option genSizeOf false
set_option genInjectivity false
inductive EE where | add | sub | mul | div | mod
 deriving DecidableEq
inductive CU where | eq | ne | lt | le | gt | ge | isIn | notIn | isNone | notNone
 deriving DecidableEq
inductive iM where | len | list | tuple | sorted | max | int | isTuple | isInt | sum
 deriving DecidableEq
inductive BM where | append | extend | lpop | get | setdefault | dpop
 deriving DecidableEq
inductive nc where | over | enum | zip | range | values
 deriving DecidableEq
inductive Tn where
 | name (x:String)
 | pair (x y:String)
inductive E where
 | const (v:V)
 | var (x:String)
 | glob (x:String) (v:V)
 | attr (e:E) (a:String)
 | sub (e i:E)
 | cut (e:E) (lo hi:Option Int)
 | bin (op:EE) (a b:E)
 | not (e:E)
 | and (l:List E)
 | or (l:List E)
 | cmp (op:CU) (a b:E)
 | chain (a b c:E)
 | ite (c a b:E)
 | tup (l:List E)
 | list (l:List E)
 | dict (l:List (E×E))
 | call (f:String) (l:List E)
 | new (c:String) (l:List E)
 | meth (c:String) (e:E) (m:String) (l:List E)
 | prim (p:iM) (l:List E)
 | bm (b:BM) (e:E) (l:List E)
 | comp (elt:E) (t:Tn) (k:nc) (l:List E) (ifs:List E)
 | comp2 (elt:E) (t:Tn) (k:nc) (l:List E) (t':Tn) (k':nc) (l':List E) (ifs:List E)
variable{e:Mine.E}
inductive T where
 | name (x:String)
 | attr (e:E) (a:String)
 | sub (e i:E)
 | cut (e:E) (hi:Int)
 | names (l:List String)
 | subs (e i e' i':E)
inductive S where
 | expr (e:E)
 | assign (t:T) (e:E)
 | ite (c:E) (a b:List S)
 | whil (c:E) (b:List S)
 | forr (t:Tn) (k:nc) (l:List E) (b:List S)
 | ret (e:E)
 | cont
 | stuck
inductive Fl where
 | next
 | cont
 | ret (v:V)
noncomputable abbrev Loc:=String→Option V
variable{QQ:Fl→Loc→Hp→Prop}{loc loc':Loc}
noncomputable abbrev K1:=V→Hp→Prop
variable{Q:K1}
noncomputable abbrev Hd:=(String×String)→List V→Hp→K1→Prop
variable{C:Hd}
noncomputable def setL(loc:Loc)(x:String)(v:V):Loc:=fun y=>if y=x then some v else loc y
noncomputable def big:Nat:=2^20
noncomputable def EU(o:Option Ob)(f:List V→Prop)(g:List (V×V)→Nat→Prop):Prop:=match o with
 | some (.list l)=>f l
 | some (.dict l e)=>g l e
 | _=>False
noncomputable def pK{α:Type}(o:Option Ob)(f:List V→Option α)(g:List (V×V)→Nat→Option α):Option α:=match o with
 | some (.list l)=>f l
 | some (.dict l e)=>g l e
 | _=>none
section
variable{o:Option Ob}{r:α}{m:List (V×V)}{e:Nat}
theorem sw{f:List V→Prop}{g:List (V×V)→Nat→Prop}(h:EU o f g)(k1:∀l,o=some (.list l)→f l→P)(k2:∀l e,o=some (.dict l e)→g l e→P):P:=by
 rcases o with _ | ⟨l | ⟨l,e⟩ | ⟨c,l⟩⟩<;>first | exact k1 l rfl h | exact k2 l e rfl h | exact h.elim
theorem de{f:List V→Option α}{g:List (V×V)→Nat→Option α}(h:pK o f g=some r)(k1:∀l,o=some (.list l)→f l=some r→P)(k2:∀l e,o=some (.dict l e)→g l e=some r→P):P:=by
 rcases o with _ | ⟨l | ⟨l,e⟩ | ⟨c,l⟩⟩<;>first | exact k1 l rfl h | exact k2 l e rfl h | exact ca h
theorem eM{f:List V→Prop}{g:List (V×V)→Nat→Prop}(h:o=some (.list l))(q:f l):EU o f g:=h▸q
theorem i6{f:List V→Prop}{g:List (V×V)→Nat→Prop}(h:o=some (.dict m e))(q:g m e):EU o f g:=h▸q
theorem cZ{f:List V→Option α}{g:List (V×V)→Nat→Option α}(h:o=some (.list l)):pK o f g=f l:=h▸rfl
theorem eO{f:List V→Option α}{g:List (V×V)→Nat→Option α}(h:o=some (.dict m e)):pK o f g=g m e:=h▸rfl
end
noncomputable def vr(σ:Hp):V→Option Bool
 | .none=>some false
 | .bool b=>some b
 | .obj n=>pK σ[n]? (fun l=>if l.length<big then some (!l.isEmpty) else none) fun z_ z_=>none
 | _=>none
noncomputable def V.isObj:V→Bool
 | .obj _=>true
 | _=>false
noncomputable def V.isNone:V→Bool
 | .none=>true
 | _=>false
noncomputable def pF(m:List (V×V))(p:V×V):Bool:=match getD m p.1 with
 | some v=>V.deq p.2 v
 | none=>false
noncomputable def qi(l m:List (V×V)):Bool:=l.length==m.length&&l.all (pF m)
noncomputable def mt(l:List (V×V)):Bool:=l.all fun p=>p.1.key&&p.2.dat&&decide (p.1.dep≤6)&&decide (p.2.dep≤6)
noncomputable def Hv(σ:Hp)(a b:V):Option Bool:=match a with
 | .obj m=>(match b with
  | .obj n=>pK σ[m]? (fun x=>pK σ[n]? (fun y=>if V.dats x&&V.dats y&&decide (V.deps x≤6) then some (V.deq (.tup x) (.tup y)) else none) fun z_ z_=>none)
   fun x z_=>pK σ[n]? (fun z_=>none) fun y z_=>if mt x&&mt y then some (qi x y) else none
  | _=>none)
 | _=>none
noncomputable def FE(σ:Hp)(a b:V):Option Bool:=if a.dat&&b.dat&&decide (a.dep≤6) then some (V.deq a b) else Hv σ a b
noncomputable def Gw(σ:Hp)(a b:V):Option Bool:=match a with
 | .obj m=>(match b with
  | .obj n=>pK σ[m]? (fun x=>pK σ[n]? (fun y=>if V.dats x&&V.dats y&&decide (V.deps x≤6) then some (V.deq (.tup x) (.tup y)) else none) fun z_ z_=>none) fun z_ z_=>none
  | _=>none)
 | _=>none
noncomputable def FX(σ:Hp)(a b:V):Option Bool:=if a.dat&&b.dat&&decide (a.dep≤6) then some (V.deq a b) else Gw σ a b
noncomputable def wQ(σ:Hp)(y:V):Bool:=match y with
 | .none=>true
 | .obj m=>(pK σ[m]? (fun z_=>some ()) fun z_ z_=>none).isSome
 | _=>false
noncomputable def Ba(σ:Hp)(x c:V):Option Bool :=
 match c with
 | .tup l=>if x.dat&&V.dats l&&decide (x.dep≤6)&&decide (V.deps l≤6) then some (l.any fun y=>V.deq y x) else none
 | .obj n=>pK σ[n]? (fun l=>if x.dat&&V.dats l&&decide (x.dep≤6)&&decide (V.deps l≤6) then some (l.any fun y=>V.deq y x) else if x.isNone&&l.all (wQ σ) then some (l.any V.isNone) else none)
   fun l z_=>if x.key&&decide (x.dep≤6) then some (getD l x).isSome else none
 | _=>none
noncomputable def FJ(f:Int→Int→Bool)(a b:V):Option Bool:=match a with
 | .int x=>(match b with
  | .int y=>some (f x y)
  | _=>none)
 | _=>none
noncomputable def BJ(f:Bool)(b:V):Option Bool:=match b with
 | .none=>some f
 | _=>none
noncomputable def ml(op:CU)(σ:Hp)(a b:V):Option Bool :=
 match op with
 | .eq=>FE σ a b
 | .ne=>(FX σ a b).map (!·)
 | .isIn=>Ba σ a b
 | .notIn=>(Ba σ a b).map (!·)
 | .isNone=>BJ a.isNone b
 | .notNone=>BJ (!a.isNone) b
 | .lt=>match a with
  | .int x=>(match b with
   | .int y=>some (decide (x<y))
   | _=>none)
  | _=>none
 | .le=>match a with
  | .int x=>(match b with
   | .int y=>some (decide (x≤y))
   | _=>none)
  | _=>none
 | .gt=>match a with
  | .int x=>(match b with
   | .int y=>some (decide (y<x))
   | _=>none)
  | _=>none
 | .ge=>match a with
  | .int x=>(match b with
   | .int y=>some (decide (y≤x))
   | _=>none)
  | _=>none
noncomputable def zw(v:V)(f:Int→Prop):Prop:=match v with | .int i=>f i | _=>False
noncomputable def Ia(v:V)(f:Nat→Prop):Prop:=match v with | .obj i=>f i | _=>False
noncomputable def atL(o:Option Ob)(f:List V→Prop):Prop:=EU o f fun z_ z_=>False
noncomputable def yw(op:EE)(a b:V)(σ:Hp)(Q:K1):Prop :=
 match op with
 | .add=>match a with
  | .int x=>zw b fun y=>Q (.int (x+y)) σ
  | .obj m=>Ia b fun n=>atL σ[m]? fun x=>atL σ[n]? fun y=>x.length+y.length<big∧Q (.obj σ.length) (σ++[.list (x++y)])
  | _=>False
 | .sub=>zw a fun x=>zw b fun y=>Q (.int (x-y)) σ
 | .mul=>match a with
  | .int x=>zw b fun y=>(x.natAbs<2^60∨y.natAbs<2^60)∧Q (.int (x*y)) σ
  | .obj m=>zw b fun y=>atL σ[m]? fun x=>0≤y∧y<100∧x.length<100∧Q (.obj σ.length) (σ++[.list (List.replicate y.toNat x).flatten])
  | _=>False
 | .mod=>zw a fun x=>zw b fun y=>(0<y∧y<2^62)∧Q (.int (x%y)) σ
 | .div=>zw a fun x=>zw b fun y=>(0<y∧y<2^30)∧Q (.int (x/y)) σ
noncomputable def mu(l:List (String×V))(a:String):Option V:=(l.find? fun p=>p.1==a).map (·.2)
noncomputable def jV:List (String×V)→String→V→List (String×V)
 | [],a,v=>[(a,v)]
 | (x,w)::r,a,v=>if x==a then (x,v)::r else (x,w)::jV r a v
noncomputable def qP(σ:Hp)(v:V)(a:String):Option V :=
 match v with
 | .obj n=>match σ[n]? with
  | some (.inst _ l)=>mu l a
  | _=>none
 | _=>none
noncomputable def DT(l:List V)(i:Int):Option V:=if 0≤i then l[i.toNat]? else if 0≤i+l.length then l[(i+l.length).toNat]? else none
noncomputable def BL(v:V)(f:Int→Option V):Option V:=match v with | .int i=>f i | _=>none
noncomputable def kc(σ:Hp)(v i:V):Option V :=
 match v with
 | .tup l=>BL i fun i=>if l.length<big then DT l i else none
 | .ints l=>BL i fun i=>if 0≤i∧i<2^60 then l[i.toNat]?.map .int else none
 | .obj n=>pK σ[n]? (fun l=>BL i fun i=>if l.length<big then DT l i else none) fun l z_=>if i.key&&decide (i.dep≤6) then getD l i else none
 | _=>none
noncomputable def GQ(l:List V)(lo hi:Option Int):List V :=
 let a:=match lo with | some x=>x.toNat | none=>0
 match hi with
 | some y=>(l.take y.toNat).drop a
 | none=>l.drop a
noncomputable def EI(o:Option Int):Bool:=match o with | some x=>decide (0≤x∧x<100) | none=>true
noncomputable def HM(v:V)(lo hi:Option Int)(σ:Hp)(Q:K1):Prop :=
 EI lo=true∧EI hi=true∧match v with
 | .tup l=>l.length<big∧Q (.tup (GQ l lo hi)) σ
 | .obj n=>match σ[n]? with
  | some (.list l)=>l.length<big∧Q (.obj σ.length) (σ++[.list (GQ l lo hi)])
  | _=>False
 | _=>False
noncomputable def fP(σ:Hp)(v:V):Option (List V) :=
 match v with
 | .tup l=>some l
 | .obj n=>pK σ[n]? some fun z_ z_=>none
 | _=>none
noncomputable def gK(σ:Hp)(v:V):Option (List V) :=
 match v with
 | .tup l=>some l
 | .obj n=>pK σ[n]? some fun l z_=>some (l.map (·.1))
 | _=>none
noncomputable def uJ(σ:Hp)(v:V):Option (List V) :=
 match v with
 | .obj n=>pK σ[n]? some fun l z_=>some (l.map (·.1))
 | _=>none
noncomputable def zf(σ:Hp)(v:V):Option Nat :=
 match v with
 | .ints l=>some l.length
 | v=>(gK σ v).map List.length
noncomputable def xR:V→V→Bool
 | .int a,.int b=>decide (a<b)
 | .str a,.str b=>decide ((Str.ofString a).cps.toList<(Str.ofString b).cps.toList)
 | .tup [.int a,.int b],.tup [.int c,.int d]=>decide (a<c∨(a=c∧b<d))
 | .tup [.str a,.int b],.tup [.str c,.int d]=>decide ((Str.ofString a).cps.toList<(Str.ofString c).cps.toList∨(a=c∧b<d))
 | _,_=>false
noncomputable def D5{α:Type}(c:Nat→Nat→Bool):KasT α→α
 | .ret a=>a
 | .ask i j k=>D5 c (k (c i j))
noncomputable def cz(l:List V):List V :=
 if l.length<2 then l else (D5 (fun i j=>xR (l.getD i .none) (l.getD j .none)) (kas_sort l.length)).toList.map fun i=>l.getD i .none
noncomputable def GW:V→Bool | .int _=>true | _=>false
noncomputable def Hw:V→Bool | .str _=>true | _=>false
noncomputable def v8:V→Bool | .tup [.int _,.int _]=>true | _=>false
noncomputable def yZ:V→Bool | .tup [.str _,.int _]=>true | _=>false
noncomputable def cF(l:List V):Bool:=decide (l.length<64)&&(l.all GW ||l.all Hw ||l.all v8 ||l.all yZ)
noncomputable def V.toInt:V→Int
 | .int i=>i
 | _=>0
noncomputable def nK(l:List V)(f:V→Prop):Prop:=match l with | [w]=>f w | _=>False
noncomputable def Im(l:List V)(p:Prop):Prop:=match l with | []=>p | _=>False
noncomputable def EA(l:List V)(f:V→Prop)(g:V→V→Prop):Prop:=match l with | [v]=>f v | [v,w]=>g v w | _=>False
theorem mK{f:V→Prop}{M:List V→Prop}(h:nK l f)(k:∀w,f w→M [w]):M l:=by
 rcases l with _ | ⟨w,_ | _⟩<;>first | exact k _ h | exact h.elim
theorem DP{p:Prop}{M:List V→Prop}(h:Im l p)(k:p→M []):M l:=by
 rcases l with _ | _<;>first | exact k h | exact h.elim
theorem qr{f:V→Prop}{g:V→V→Prop}{M:List V→Prop}(h:EA l f g)(k:∀w,f w→M [w])(k2:∀v w,g v w→M [v,w]):M l:=by
 rcases l with _ | ⟨w,_ | ⟨_,_ | _⟩⟩<;>first | exact k _ h | exact k2 _ _ h | exact h.elim
noncomputable def V.isInt(v:V):Bool:=v.ctorIdx==2
noncomputable def dh{α:Type}(o:Option α)(Q:α→Prop):Prop:=match o with
 | some a=>Q a
 | none=>False
noncomputable def ic(p:iM)(l:List V)(σ:Hp)(Q:K1):Prop :=
 match p with
 | .len=>nK l fun v=>dh (zf σ v) fun n=>n<big∧Q (.int n) σ
 | .list=>nK l fun v=>dh (gK σ v) fun l=>l.length<big∧Q (.obj σ.length) (σ++[.list l])
 | .tuple=>nK l fun v=>dh (fP σ v) fun l=>l.length<big∧Q (.tup l) σ
 | .sorted=>nK l fun v=>dh (uJ σ v) fun l=>cF l=true∧Q (.obj σ.length) (σ++[.list (cz l)])
 | .max=>EA l (fun z_=>False) fun v w=>match v with
  | .int a=>(match w with
   | .int b=>Q (.int (max a b)) σ
   | _=>False)
  | _=>False
 | .int=>nK l fun v=>match v with
  | .int a=>Q (.int a) σ
  | .bool b=>Q (.int (if b then 1 else 0)) σ
  | _=>False
 | .isTuple=>nK l fun v=>match v with
  | .tup _=>Q (.bool true) σ
  | .none | .int _ | .str _=>Q (.bool false) σ
  | .obj n=>EU σ[n]? (fun z_=>Q (.bool false) σ) fun z_ z_=>False
  | _=>False
 | .isInt=>nK l fun v=>match v with
  | .int _=>Q (.bool true) σ
  | .none | .tup _ | .str _=>Q (.bool false) σ
  | _=>False
 | .sum=>nK l fun v=>match v with
  | .obj n=>EU σ[n]? (fun l=>l.length<1000∧(∀v∈l,∃i:Int,v=.int i∧0≤i∧i<2^40)∧Q (.int (l.map V.toInt).sum) σ) fun z_ z_=>False
  | _=>False
noncomputable def F2(b:BM)(σ:Hp)(v:V):Bool :=
 match v with
 | .obj n=>match b with
  | .append | .extend | .lpop=>(pK σ[n]? (fun z_=>some ()) fun z_ z_=>none).isSome
  | .get | .setdefault | .dpop=>(pK σ[n]? (fun z_=>none) fun z_ z_=>some ()).isSome
 | _=>false
noncomputable def HJ(b:BM)(l:List V)(x:List V)(n:Nat)(σ:Hp)(Q:K1):Prop :=
 match b with
 | .append=>nK l fun w=>x.length<big∧Q .none (σ.set n (.list (x++[w])))
 | .extend=>nK l fun w=>dh (fP σ w) fun y=>x.length+y.length<big∧Q .none (σ.set n (.list (x++y)))
 | .lpop=>Im l (x.length<big∧dh x.getLast? fun w=>Q w (σ.set n (.list x.dropLast)))
 | _=>False
noncomputable def HI(b:BM)(l:List V)(x:List (V×V))(e n:Nat)(σ:Hp)(Q:K1):Prop :=
 match b with
 | .get=>EA l (fun k=>(k.key=true∧k.dep≤6)∧Q ((getD x k).getD .none) σ) fun k w=>(k.key=true∧k.dep≤6)∧Q ((getD x k).getD w) σ
 | .setdefault=>EA l (fun z_=>False) fun k w=>(k.key=true∧k.dep≤6)∧x.length<big∧(match getD x k with
  | some u=>Q u σ
  | none=>Q w (σ.set n (fK x e k w)))
 | .dpop=>nK l fun k=>k.isInt=true∧x.length<big∧dh (getD x k) fun u=>Q u (σ.set n (pq x e k))
 | _=>False
noncomputable def vF(b:BM)(v:V)(l:List V)(σ:Hp)(Q:K1):Prop :=
 match v with
 | .obj n=>EU σ[n]? (fun x=>HJ b l x n σ Q) fun x e=>HI b l x e n σ Q
 | _=>False
noncomputable def fD:List (V×V)→List (V×V)→Nat→Ob
 | [],l,e=>.dict l e
 | p::r,l,e=>fD r (dw l p.1 p.2) (if (getD l p.1).isSome then e else e+1)
noncomputable def dm(k:nc)(l:List V)(σ:Hp):Option (List V×List Nat) :=
 match k,l with
 | .over,[.tup l]=>some (l,[])
 | .over,[.obj n]=>pK σ[n]? (fun l=>some (l,[n])) fun l z_=>some (l.map (·.1),[n])
 | .enum,[.tup l]=>some (l.zipIdx.map fun p=>.tup [.int p.2,p.1],[])
 | .enum,[.obj n]=>pK σ[n]? (fun l=>some (l.zipIdx.map fun p=>.tup [.int p.2,p.1],[n])) fun z_ z_=>none
 | .zip,[.tup l,.tup m]=>some ((l.zip m).map fun p=>.tup [p.1,p.2],[])
 | .range,[.int n]=>if 0≤n∧n<1000000 then some ((List.range n.toNat).map fun (i:Nat)=>V.int (i:Int),[]) else none
 | .values,[.obj n]=>pK σ[n]? (fun z_=>none) fun l z_=>some (l.map (·.2),[n])
 | _,_=>none
theorem aw{o:Option α}{a:α}{Q:α→Prop}(h:o=some a)(q:Q a):dh o Q:=by rw [h];exact q
theorem um{o:Option α}{Q:α→Prop}(h:dh o Q):∃a,o=some a∧Q a:=match o,h with
 | some a,h=>⟨a,rfl,h⟩
theorem bZ{o:Option α}{Q:α→Prop}{G:Prop}(h:dh o Q)(k:∀a,o=some a→Q a→G):G:=match o,h,k with
 | some a,h,k=>k a rfl h
theorem V.objU{M:V→Prop}{f:V→Prop}(h:f v)(k1:∀n,f (.obj n)→M (.obj n))(n0:¬f .none)(n1:∀b,¬f (.bool b))(n2:∀i,¬f (.int i))(n3:∀i,¬f (.str i))(n4:∀l,¬f (.tup l))(n5:∀l,¬f (.ints l)):M v:=by
 induction v using V.ind with
 | h0=>exact absurd h n0
 | h1 b=>exact absurd h (n1 b)
 | h2 b=>exact absurd h (n2 b)
 | h3 b=>exact absurd h (n3 b)
 | h4 n=>exact k1 n h
 | h5 b=>exact absurd h (n5 b)
 | ht b=>exact absurd h (n4 b)
theorem V.tobU{M:V→Prop}{f:V→Prop}(h:f v)(k0:∀l,f (.tup l)→M (.tup l))(k1:∀n,f (.obj n)→M (.obj n))(n0:¬f .none)(n1:∀b,¬f (.bool b))(n2:∀i,¬f (.int i))(n3:∀i,¬f (.str i))(n5:∀l,¬f (.ints l)):M v:=by
 induction v using V.ind with
 | h0=>exact absurd h n0
 | h1 b=>exact absurd h (n1 b)
 | h2 b=>exact absurd h (n2 b)
 | h3 b=>exact absurd h (n3 b)
 | h4 n=>exact k1 n h
 | h5 b=>exact absurd h (n5 b)
 | ht b=>exact k0 b h
theorem V.intU{M:V→Prop}{f:V→Prop}(h:f v)(k1:∀n,f (.int n)→M (.int n))(n0:¬f .none)(n1:∀b,¬f (.bool b))(n2:∀i,¬f (.obj i))(n3:∀i,¬f (.str i))(n4:∀l,¬f (.tup l))(n5:∀l,¬f (.ints l)):M v:=by
 induction v using V.ind with
 | h0=>exact absurd h n0
 | h1 b=>exact absurd h (n1 b)
 | h2 b=>exact k1 b h
 | h3 b=>exact absurd h (n3 b)
 | h4 n=>exact absurd h (n2 n)
 | h5 b=>exact absurd h (n5 b)
 | ht b=>exact absurd h (n4 b)
theorem V.tupU{M:V→Prop}{f:V→Prop}(h:f v)(k0:∀l,f (.tup l)→M (.tup l))(n0:¬f .none)(n1:∀b,¬f (.bool b))(n2:∀i,¬f (.int i))(n3:∀i,¬f (.str i))(n4:∀n,¬f (.obj n))(n5:∀l,¬f (.ints l)):M v :=
 V.tobU h k0 (fun n q=>absurd q (n4 n)) n0 n1 n2 n3 n5
theorem eT{f:Int→Prop}{M:V→Prop}(h:zw v f)(k:∀i,f i→M (.int i)):M v:=V.intU (f:=fun v=>zw v f) h k id (fun z_=>id) (fun z_=>id) (fun z_=>id) (fun z_=>id) (fun z_=>id)
theorem xX{f:Nat→Prop}{M:V→Prop}(h:Ia v f)(k:∀i,f i→M (.obj i)):M v:=V.objU (f:=fun v=>Ia v f) h k id (fun z_=>id) (fun z_=>id) (fun z_=>id) (fun z_=>id) (fun z_=>id)
theorem mi{o:Option Ob}{f:List V→Prop}(h:atL o f)(k:∀l,o=some (.list l)→f l→P):P:=sw h k fun z_ z_ z_ h=>h.elim
theorem AC{op:EE}{M:EE→V→V→Prop}(h:yw op a b σ Q)(k1:∀x y,Q (.int (x+y)) σ→M .add (.int x) (.int y))
  (k2:∀m n x y,σ[m]?=some (.list x)→σ[n]?=some (.list y)→x.length+y.length<big→Q (.obj σ.length) (σ++[.list (x++y)])→M .add (.obj m) (.obj n))
  (k3:∀x y,Q (.int (x-y)) σ→M .sub (.int x) (.int y)) (k4:∀x y:Int,(x.natAbs<2^60∨y.natAbs<2^60)→Q (.int (x*y)) σ→M .mul (.int x) (.int y))
  (k5:∀m x (y:Int),σ[m]?=some (.list x)→0≤y→y<100→x.length<100→Q (.obj σ.length) (σ++[.list (List.replicate y.toNat x).flatten])→M .mul (.obj m) (.int y))
  (k6:∀x y:Int,0<y→y<2^62→Q (.int (x%y)) σ→M .mod (.int x) (.int y)) (k7:∀x y:Int,0<y→y<2^30→Q (.int (x/y)) σ→M .div (.int x) (.int y)):M op a b:=by
 rcases op with _ | _ | _ | _ | _
 ·rcases a with _ | _ | x | _ | _ | m | _<;>first | exact h.elim | skip
  ·exact eT h fun y h=>k1 x y h
  ·exact xX h fun n h=>mi h fun x e h=>mi h fun y e' h=>k2 m n x y e e' h.1 h.2
 ·exact eT (M:=fun a=>M .sub a b) h fun x h=>eT (M:=M .sub (.int x)) h fun y h=>k3 x y h
 ·rcases a with _ | _ | x | _ | _ | m | _<;>first | exact h.elim | skip
  ·exact eT h fun y h=>k4 x y h.1 h.2
  ·exact eT h fun y h=>mi h fun x e h=>k5 m x y e h.1 h.2.1 h.2.2.1 h.2.2.2
 ·exact eT (M:=fun a=>M .div a b) h fun x h=>eT (M:=M .div (.int x)) h fun y h=>k7 x y h.1.1 h.1.2 h.2
 ·exact eT (M:=fun a=>M .mod a b) h fun x h=>eT (M:=M .mod (.int x)) h fun y h=>k6 x y h.1.1 h.1.2 h.2
theorem Bh{c:Prop} [Decidable c]{r:α}{o:Option α}(h:(if c then o else none)=some r)(k:c→o=some r→P):P:=by
 refine Or.elim (Classical.em (c)) (fun q=>?_) (fun q=>?_)
 ·rw [if_pos q] at h;exact k q h
 ·rw [if_neg q] at h;exact ca h
theorem Gv{c:Bool}{a r:α}{M:α→Prop}(h:(if c=true then some a else none)=some r)(k:c=true→M a):M r:=by
 refine Or.elim (Classical.em (c=true)) (fun q=>?_) (fun q=>?_)
 ·rw [if_pos q] at h;cases h;exact k q
 ·rw [if_neg q] at h;exact ca h
theorem HN{c:Bool}{a r:α}{o:Option α}{M:α→Prop}(h:(if c=true then some a else o)=some r)(k:c=true→M a)(k2:o=some r→M r):M r:=by
 refine Or.elim (Classical.em (c=true)) (fun q=>?_) (fun q=>?_)
 ·rw [if_pos q] at h;cases h;exact k q
 ·rw [if_neg q] at h;exact k2 h
theorem DU{r:α}{M:V→Prop}{f:V→Option α}(h:f v=some r)(k1:∀n,f (.obj n)=some r→M (.obj n))(n0:f .none=none)(n1:∀b,f (.bool b)=none)(n2:∀i,f (.int i)=none)(n3:∀i,f (.str i)=none)(n4:∀l,f (.tup l)=none)(n5:∀l,f (.ints l)=none):M v :=
 V.objU (f:=fun v=>f v=some r) h k1 (fun q=>ca (n0▸q)) (fun b q=>ca (n1 b▸q)) (fun b q=>ca (n2 b▸q)) (fun b q=>ca (n3 b▸q)) (fun b q=>ca (n4 b▸q)) (fun b q=>ca (n5 b▸q))
theorem Dm{r:Bool}{M:V→V→Bool→Prop}(h:Hv σ a b=some r)(k1:∀m n x y,σ[m]?=some (.list x)→σ[n]?=some (.list y)→(V.dats x&&V.dats y&&decide (V.deps x≤6))=true→M (.obj m) (.obj n) (V.deq (.tup x) (.tup y)))
  (k2:∀m n x e y e',σ[m]?=some (.dict x e)→σ[n]?=some (.dict y e')→(mt x&&mt y)=true→M (.obj m) (.obj n) (qi x y)):M a b r :=
 DU (M:=fun a=>M a b r) (f:=fun a=>Hv σ a b) h (fun m h=>DU (M:=fun b=>M (.obj m) b r) (f:=fun b=>Hv σ (.obj m) b) h (fun n h =>
  de h (fun x e h=>de h (fun y e' h=>Gv h fun c=>k1 m n x y e e' c) fun z_ z_ z_ h=>ca h) fun x i e h=>de h (fun z_ z_ h=>ca h) fun y j e' h=>Gv h fun c=>k2 m n x i y j e e' c)
  rfl (fun z_=>rfl) (fun z_=>rfl) (fun z_=>rfl) (fun z_=>rfl) (fun z_=>rfl)) rfl (fun z_=>rfl) (fun z_=>rfl) (fun z_=>rfl) (fun z_=>rfl) (fun z_=>rfl)
theorem DN{r:Bool}{M:V→V→Bool→Prop}(h:Gw σ a b=some r)(k1:∀m n x y,σ[m]?=some (.list x)→σ[n]?=some (.list y)→(V.dats x&&V.dats y&&decide (V.deps x≤6))=true→M (.obj m) (.obj n) (V.deq (.tup x) (.tup y))):M a b r :=
 DU (M:=fun a=>M a b r) (f:=fun a=>Gw σ a b) h (fun m h=>DU (M:=fun b=>M (.obj m) b r) (f:=fun b=>Gw σ (.obj m) b) h (fun n h =>
  de h (fun x e h=>de h (fun y e' h=>Gv h fun c=>k1 m n x y e e' c) fun z_ z_ z_ h=>ca h) fun z_ z_ z_ h=>ca h)
  rfl (fun z_=>rfl) (fun z_=>rfl) (fun z_=>rfl) (fun z_=>rfl) (fun z_=>rfl)) rfl (fun z_=>rfl) (fun z_=>rfl) (fun z_=>rfl) (fun z_=>rfl) (fun z_=>rfl)
theorem CF{r:Bool}{M:V→Bool→Prop}(h:vr σ a=some r)(k0:M .none false)(k1:∀b,M (.bool b) b)(k2:∀n l,σ[n]?=some (.list l)→l.length<big→M (.obj n) (!l.isEmpty)):M a r:=by
 induction a using V.ind with
 | h0=>cases h;exact k0
 | h1 b=>cases h;exact k1 _
 | h4 n=>exact de h (fun l e h=>Bh h fun q h=>aX h▸k2 n l e q) fun z_ z_ z_ h=>ca h
 | _=>exact ca h
theorem Dw{c:V}{r:Bool}{M:V→Bool→Prop}(h:Ba σ a c=some r)(k0:∀l,(a.dat&&V.dats l&&decide (a.dep≤6)&&decide (V.deps l≤6))=true→M (.tup l) (l.any fun y=>V.deq y a))
  (k1:∀n l,σ[n]?=some (.list l)→(a.dat&&V.dats l&&decide (a.dep≤6)&&decide (V.deps l≤6))=true→M (.obj n) (l.any fun y=>V.deq y a))
  (k2:∀n l,σ[n]?=some (.list l)→(a.isNone&&l.all (wQ σ))=true→M (.obj n) (l.any V.isNone))
  (k3:∀n l e,σ[n]?=some (.dict l e)→(a.key&&decide (a.dep≤6))=true→M (.obj n) (getD l a).isSome):M c r :=
 V.tobU (M:=fun c=>M c r) (f:=fun c=>Ba σ a c=some r) h (fun l h=>Gv h (k0 l)) (fun n h=>de h (fun l e h=>HN h (k1 n l e) fun h=>Gv h (k2 n l e)) fun l i e h=>Gv h (k3 n l i e)) ca (fun z_=>ca) (fun z_=>ca) (fun z_=>ca) (fun z_=>ca)
theorem pT{r:V}{f:Int→Option V}{M:V→Prop}(h:BL v f=some r)(k:∀i,f i=some r→M (.int i)):M v:=V.intU (f:=fun v=>BL v f=some r) h k ca (fun z_=>ca) (fun z_=>ca) (fun z_=>ca) (fun z_=>ca) (fun z_=>ca)
theorem rq{r:V}{M:V→V→Prop}(h:kc σ a b=some r)(k1:∀l i,l.length<big→DT l i=some r→M (.tup l) (.int i))(k2:∀(l:List Int) (i:Int),0≤i∧i<2^60→l[i.toNat]?.map .int=some r→M (.ints l) (.int i))
  (k3:∀n l i,σ[n]?=some (.list l)→l.length<big→DT l i=some r→M (.obj n) (.int i)) (k4:∀n l e,σ[n]?=some (.dict l e)→(b.key&&decide (b.dep≤6))=true→getD l b=some r→M (.obj n) b):M a b:=by
 induction a using V.ind with
 | ht l _=>exact pT h fun i h=>Bh h (k1 l i)
 | h5 l=>exact pT h fun i h=>Bh h (k2 l i)
 | h4 n=>exact de h (fun l e h=>pT h fun i h=>Bh h (k3 n l i e)) fun l i e h=>Bh h (k4 n l i e)
 | _=>exact ca h
theorem we{p:List V×List Nat}{M:V→List V×List Nat→Prop}(h:dm .over [a] σ=some p)(k0:∀l,M (.tup l) (l,[]))(k1:∀n l,σ[n]?=some (.list l)→M (.obj n) (l,[n]))(k2:∀n l e,σ[n]?=some (.dict l e)→M (.obj n) (l.map (·.1),[n])):M a p :=
 V.tobU (M:=fun a=>M a p) (f:=fun a=>dm .over [a] σ=some p) h (fun l h=>aX h▸k0 l) (fun n h=>de h (fun l e h=>aX h▸k1 n l e) fun l i e h=>aX h▸k2 n l i e)
  ca (fun z_=>ca) (fun z_=>ca) (fun z_=>ca) (fun z_=>ca)
theorem wc{p:List V×List Nat}{M:V→List V×List Nat→Prop}(h:dm .enum [a] σ=some p)(k0:∀l,M (.tup l) (l.zipIdx.map fun p=>.tup [.int p.2,p.1],[]))(k1:∀n l,σ[n]?=some (.list l)→M (.obj n) (l.zipIdx.map fun p=>.tup [.int p.2,p.1],[n])):M a p :=
 V.tobU (M:=fun a=>M a p) (f:=fun a=>dm .enum [a] σ=some p) h (fun l h=>aX h▸k0 l) (fun n h=>de h (fun l e h=>aX h▸k1 n l e) fun z_ z_ z_ h=>ca h)
  ca (fun z_=>ca) (fun z_=>ca) (fun z_=>ca) (fun z_=>ca)
theorem uv{p:List V×List Nat}{M:V→Prop}(h:dm .range [a] σ=some p)(k:∀n,dm .range [.int n] σ=some p→M (.int n)):M a :=
 V.intU (f:=fun a=>dm .range [a] σ=some p) h k ca (fun z_=>ca) (fun z_=>ca) (fun z_=>ca) (fun z_=>ca) (fun z_=>ca)
theorem sr{p:List V×List Nat}{M:V→List V×List Nat→Prop}(h:dm .values [a] σ=some p)(k2:∀n l e,σ[n]?=some (.dict l e)→M (.obj n) (l.map (·.2),[n])):M a p :=
 V.objU (M:=fun a=>M a p) (f:=fun a=>dm .values [a] σ=some p) h (fun n h=>de h (fun z_ z_ h=>ca h) fun l i e h=>aX h▸k2 n l i e)
  ca (fun z_=>ca) (fun z_=>ca) (fun z_=>ca) (fun z_=>ca) (fun z_=>ca)
theorem y2{p:List V×List Nat}{M:List V→List V×List Nat→Prop}(h:dm .zip l σ=some p)(k:∀l m,M [.tup l,.tup m] ((l.zip m).map fun p=>.tup [p.1,p.2],[])):M l p:=by
 rcases l with _ | ⟨a,r⟩
 ·exact ca h
 refine V.tupU (M:=fun a=>M (a::r) p) (f:=fun a=>dm .zip (a::r) σ=some p) h (fun l h=>?_) ca (fun z_=>ca) (fun z_=>ca) (fun z_=>ca) (fun z_=>ca) (fun z_=>ca);rcases r with _ | ⟨b,r⟩
 ·exact ca h
 refine V.tupU (M:=fun b=>M (.tup l::b::r) p) (f:=fun b=>dm .zip (.tup l::b::r) σ=some p) h (fun m h=>?_) ca (fun z_=>ca) (fun z_=>ca) (fun z_=>ca) (fun z_=>ca) (fun z_=>ca);rcases r with _ | ⟨c,r⟩
 ·cases h;exact k l m
 ·exact ca h
theorem og{M:V→List V→Prop}(h:gK σ a=some l)(k0:∀l,M (.tup l) l)(k1:∀n l,σ[n]?=some (.list l)→M (.obj n) l)(k2:∀n l e,σ[n]?=some (.dict l e)→M (.obj n) (l.map (·.1))):M a l :=
 V.tobU (M:=fun a=>M a l) (f:=fun a=>gK σ a=some l) h (fun l h=>aX h▸k0 l) (fun n h=>de h (fun l e h=>aX h▸k1 n l e) fun l i e h=>aX h▸k2 n l i e)
  ca (fun z_=>ca) (fun z_=>ca) (fun z_=>ca) (fun z_=>ca)
theorem Bw{M:V→List V→Prop}(h:uJ σ a=some l)(k1:∀n l,σ[n]?=some (.list l)→M (.obj n) l)(k2:∀n l e,σ[n]?=some (.dict l e)→M (.obj n) (l.map (·.1))):M a l :=
 V.objU (M:=fun a=>M a l) (f:=fun a=>uJ σ a=some l) h (fun n h=>de h (fun l e h=>aX h▸k1 n l e) fun l i e h=>aX h▸k2 n l i e)
  ca (fun z_=>ca) (fun z_=>ca) (fun z_=>ca) (fun z_=>ca) (fun z_=>ca)
theorem Bt{M:V→Nat→Prop}(h:zf σ a=some n)(k3:∀l,M (.ints l) l.length)(k0:∀l,M (.tup l) l.length)(k1:∀m l,σ[m]?=some (.list l)→M (.obj m) l.length)(k2:∀m l e,σ[m]?=some (.dict l e)→M (.obj m) l.length):M a n:=by
 have it:∀{a:V},(gK σ a).map List.length=some n→M a n:=fun {a} h=>by
  refine bG (Option.map_eq_some_iff.1 h) fun l hl e=>?_;exact og (M:=fun a l=>l.length=n→M a n) hl (fun l e=>e▸k0 l) (fun m l q e=>e▸k1 m l q) (fun m l i q e=>by rw [aJ] at e;exact e▸k2 m l i q) e
 induction a using V.ind with
 | h5 l=>cases h;exact k3 l
 | h0=>exact ca h
 | h1=>exact ca h
 | h2=>exact ca h
 | h3=>exact ca h
 | h4 m=>exact it h
 | ht l _=>exact it h
theorem mQ{M:V→Prop}(h:fP σ a=some l)(k0:M (.tup l))(k1:∀n,σ[n]?=some (.list l)→M (.obj n)):M a :=
 V.tobU (M:=M) (f:=fun a=>fP σ a=some l) h (fun l h=>aX h▸k0) (fun n h=>de h (fun l e h=>k1 n (aX h▸e)) fun z_ z_ z_ h=>ca h)
  ca (fun z_=>ca) (fun z_=>ca) (fun z_=>ca) (fun z_=>ca)
theorem Da{b:BM}{M:BM→V→List V→Prop}(h:vF b a l σ Q)
  (k1:∀n x w,σ[n]?=some (.list x)→x.length<big→Q .none (σ.set n (.list (x++[w])))→M .append (.obj n) [w])
  (k2:∀n x w y,σ[n]?=some (.list x)→fP σ w=some y→x.length+y.length<big→Q .none (σ.set n (.list (x++y)))→M .extend (.obj n) [w])
  (k3:∀n x w,σ[n]?=some (.list x)→x.length<big→x.getLast?=some w→Q w (σ.set n (.list x.dropLast))→M .lpop (.obj n) [])
  (k4:∀n x e k,σ[n]?=some (.dict x e)→k.key=true→k.dep≤6→Q ((getD x k).getD .none) σ→M .get (.obj n) [k])
  (k5:∀n x e k w,σ[n]?=some (.dict x e)→k.key=true→k.dep≤6→Q ((getD x k).getD w) σ→M .get (.obj n) [k,w])
  (k6:∀n x e k w,σ[n]?=some (.dict x e)→k.key=true→k.dep≤6→x.length<big→(match getD x k with | some u=>Q u σ | none=>Q w (σ.set n (fK x e k w)))→M .setdefault (.obj n) [k,w])
  (k7:∀n x e i u,σ[n]?=some (.dict x e)→x.length<big→getD x (.int i)=some u→Q u (σ.set n (pq x e (.int i)))→M .dpop (.obj n) [.int i]):M b a l:=by
 refine V.objU (M:=fun a=>M b a l) (f:=fun a=>vF b a l σ Q) h (fun n h=>?_) id (fun z_=>id) (fun z_=>id) (fun z_=>id) (fun z_=>id) (fun z_=>id);refine sw h (fun x e h=>?_) fun x e q h=>?_
 ·rcases b with _ | _ | _ | _ | _ | _
  ·exact mK h fun w h=>k1 n x w e h.1 h.2
  ·exact mK h fun w h=>bZ h fun y hy h=>k2 n x w y e hy h.1 h.2
  ·exact DP h fun h=>bZ h.2 fun y hy q=>k3 n x y e h.1 hy q
  ·exact h.elim
  ·exact h.elim
  ·exact h.elim
 ·rcases b with _ | _ | _ | _ | _ | _
  ·exact h.elim
  ·exact h.elim
  ·exact h.elim
  ·exact qr h (fun w h=>k4 n x e w q h.1.1 h.1.2 h.2) fun w w2 h=>k5 n x e w w2 q h.1.1 h.1.2 h.2
  ·exact qr h (fun z_ h=>h.elim) fun w w2 h=>k6 n x e w w2 q h.1.1 h.1.2 h.2.1 h.2.2
  ·exact mK h fun w h=>V.int.elim (motive_1:=fun w=>(x.length<big∧dh (getD x w) fun u=>Q u (σ.set n (pq x e w)))→M .dpop (.obj n) [w]) w (eq_of_beq h.1) (fun i h=>bZ h.2 fun u hu h'=>k7 n x e i u q h.1 hu h') h.2
noncomputable def bV(ns:List Nat)(σ₀ σ:Hp):Prop:=∀n∈ns,σ[n]?=σ₀[n]?
noncomputable def Tn.names:Tn→List String
 | .name x=>[x]
 | .pair x y=>[x,y]
noncomputable def cw(ns:List String)(loc:Loc):Loc:=fun y=>if y∈ns∨y=".0" then none else loc y
noncomputable def tR(t:Tn)(v:V)(loc:Loc)(σ:Hp):Option Loc :=
 match t with
 | .name x=>some (setL loc x v)
 | .pair x y=>match fP σ v with
  | some [a,b]=>some (setL (setL loc x a) y b)
  | _=>none
noncomputable def EP(f:Loc→Hp→(Fl→Loc→Hp→Prop)→Prop)(Q:Fl→Loc→Hp→Prop):Fl→Loc→Hp→Prop:=fun fl loc σ=>match fl with
 | .ret v=>Q (.ret v) loc σ
 | _=>f loc σ Q
noncomputable def eV(gd:Hp→Prop)(t:Tn)(body:Loc→Hp→(Fl→Loc→Hp→Prop)→Prop):List V→Loc→Hp→(Fl→Loc→Hp→Prop)→Prop
 | [],loc,σ,Q=>gd σ∧Q .next loc σ
 | x::xs,loc,σ,Q=>gd σ∧match tR t x loc σ with
  | some loc'=>body loc' σ (EP (eV gd t body xs) Q)
  | none=>False
noncomputable def Ik(f g:Loc→Hp→(Fl→Loc→Hp→Prop)→Prop)(loc:Loc)(Q:Fl→Loc→Hp→Prop):Bool→Hp→Prop:=fun b σ=>match b with
 | false=>Q .next loc σ
 | true=>f loc σ (EP g Q)
noncomputable def jL(test:Loc→Hp→(Bool→Hp→Prop)→Prop)(body:Loc→Hp→(Fl→Loc→Hp→Prop)→Prop):Nat→Loc→Hp→(Fl→Loc→Hp→Prop)→Prop
 | 0,_,_,_=>False
 | n+1,loc,σ,Q=>test loc σ (Ik body (jL test body n) loc Q)
noncomputable def dL(gd:Hp→Prop)(t:Tn)(loc:Loc)(turn:Nat→Loc→Hp→(List V→Hp→Prop)→Prop)(n:Nat):List V→List V→Hp→(List V→Hp→Prop)→Prop
 | [],acc,σ,Q=>gd σ∧Q acc σ
 | x::xs,acc,σ,Q=>gd σ∧match tR t x loc σ with
  | some loc'=>turn (n+acc.length) loc' σ fun ys σ=>n+acc.length+ys.length<big∧dL gd t loc turn n xs (acc++ys) σ Q
  | none=>False
noncomputable def uL(σ:Hp)(v:V)(c m:String):Option Unit:=match v with
 | .obj n=>match σ[n]? with
  | some (.inst c' l)=>match decide (c'=c) with
   | true=>match mu l m with | none=>some () | some _=>none
   | false=>none
  | _=>none
 | _=>none
noncomputable abbrev KB:=Bool→Hp→Prop
noncomputable abbrev KL:=List V→Hp→Prop
noncomputable abbrev KS:=Fl→Loc→Hp→Prop
noncomputable def GX(Q:K1)(σ:Hp):V→Prop:=fun w=>Q w σ
noncomputable def Iy(Q:K1)(σ:Hp):Bool→Prop:=fun r=>Q (.bool r) σ
noncomputable def kB(Q:KB)(σ:Hp):Bool→Prop:=fun r=>Q r σ
noncomputable def k2(f:Hp→K1→Prop)(Z:V→K1):K1:=fun v σ=>f σ (Z v)
noncomputable def EM(a:String)(Q:K1):K1:=fun v σ=>dh (qP σ v a) (GX Q σ)
noncomputable def Ff(Q:K1):V→K1:=fun v j σ=>dh (kc σ v j) (GX Q σ)
noncomputable def HR(lo hi:Option Int)(Q:K1):K1:=fun v σ=>HM v lo hi σ Q
noncomputable def Hr(op:EE)(Q:K1):V→K1:=fun v w σ=>yw op v w σ Q
noncomputable def HU(Q:K1):K1:=fun v σ=>dh (vr σ v) fun b=>Q (.bool !b) σ
noncomputable def Hs(op:CU)(Q:K1):V→K1:=fun v w σ=>dh (ml op σ v w) (Iy Q σ)
noncomputable def Ip(f:Hp→K1→Prop)(Q:KB)(Z:V→K1):V→K1:=fun u v σ=>dh (ml .le σ u v) fun r=>match r with
 | false=>Q false σ
 | true=>f σ (Z v)
noncomputable def IA(Q:K1):KB:=fun r σ=>Q (.bool r) σ
noncomputable def DD{X:Type}(f g:Hp→X→Prop)(Q:X):KB:=fun r σ=>match r with
 | true=>f σ Q
 | false=>g σ Q
noncomputable def HX(Q:K1):KL:=fun vs σ=>Q (.tup vs) σ
noncomputable def hV(Q:K1):KL:=fun vs σ=>Q (.obj σ.length) (σ++[.list vs])
noncomputable def GZ(Q:K1):List (V×V)→Hp→Prop:=fun vs σ=>(∀p∈vs,p.1.key=true∧p.1.dep≤6)∧vs.length<big∧Q (.obj σ.length) (σ++[fD vs [] 0])
noncomputable def EN(C:Hd)(key:String×String)(Q:K1):KL:=fun vs σ=>C key vs σ Q
noncomputable def G7(Q:K1)(w:V):K1:=fun v σ=>v=.none∧Q w σ
noncomputable def HT(C:Hd)(c:String)(Q:K1):KL:=fun vs σ=>C (c,"__init__") (.obj σ.length::vs) (σ++[.inst c []]) (G7 Q (.obj σ.length))
noncomputable def IC(C:Hd)(key:String×String)(v:V)(Q:K1):KL:=fun vs σ=>C key (v::vs) σ Q
noncomputable def G5(f:Hp→KL→Prop)(C:Hd)(c m:String)(Q:K1):K1:=fun v σ=>dh (uL σ v c m) fun z_=>f σ (IC C (c,m) v Q)
noncomputable def EQ(p:iM)(Q:K1):KL:=fun vs σ=>ic p vs σ Q
noncomputable def IB(b:BM)(v:V)(Q:K1):KL:=fun vs σ=>vF b v vs σ Q
noncomputable def Iz(f:Hp→KL→Prop)(b:BM)(Q:K1):K1:=fun v σ=>F2 b σ v=true∧f σ (IB b v Q)
noncomputable def HV(R:KL):K1:=fun v σ=>R [v] σ
noncomputable def Ha(f:Hp→K1→Prop)(R:KL):KB:=fun b σ=>match b with
 | true=>f σ (HV R)
 | false=>R [] σ
noncomputable def xN(k:nc)(t:Tn)(loc:Loc)(turn:Nat→Loc→Hp→KL→Prop)(m:Nat)(Q:KL):KL:=fun vs σ=>dh (dm k vs σ) fun p=>dL (bV p.2 σ) t loc turn m p.1 [] σ Q
noncomputable def eW(g:Loc→Hp→KB→Prop)(f:Loc→Hp→K1→Prop):Nat→Loc→Hp→KL→Prop:=fun z_ loc σ R=>g loc σ (Ha (f loc) R)
noncomputable def su(k:nc)(t:Tn)(h:Loc→Hp→KL→Prop)(turn:Nat→Loc→Hp→KL→Prop):Nat→Loc→Hp→KL→Prop:=fun m loc σ R=>h loc σ (xN k t loc turn m R)
noncomputable def EO(f:Hp→KL→Prop)(Q:KL):K1:=fun v σ=>f σ fun vs σ=>Q (v::vs) σ
noncomputable def G9(f:Hp→(List (V×V)→Hp→Prop)→Prop)(Q:List (V×V)→Hp→Prop):V→K1:=fun a b σ=>f σ fun vs σ=>Q ((a,b)::vs) σ
noncomputable def HP(f:Hp→K1→Prop)(Q:K1):K1:=fun v σ=>dh (vr σ v) fun b=>match b with
 | true=>f σ Q
 | false=>Q v σ
noncomputable def ID(f:Hp→K1→Prop)(Q:K1):K1:=fun v σ=>dh (vr σ v) fun b=>match b with
 | true=>Q v σ
 | false=>f σ Q
noncomputable def Bl(Q:KB):K1:=fun v σ=>dh (vr σ v) (kB Q σ)
noncomputable def G8(Q:KB):KB:=fun b σ=>Q (!b) σ
noncomputable def Fe(op:CU)(Q:KB):V→K1:=fun v w σ=>dh (ml op σ v w) (kB Q σ)
noncomputable def HO(f:Hp→KB→Prop)(Q:KB):KB:=fun b σ=>match b with
 | true=>f σ Q
 | false=>Q false σ
noncomputable def HQ(f:Hp→KB→Prop)(Q:KB):KB:=fun b σ=>match b with
 | true=>Q true σ
 | false=>f σ Q
mutual
noncomputable def ev(C:Hd):E→Loc→Hp→K1→Prop
 | .const v,_,σ,Q=>Q v σ
 | .var x,loc,σ,Q=>dh (loc x) (GX Q σ)
 | .glob _ v,_,σ,Q=>Q v σ
 | .attr e a,loc,σ,Q=>ev C e loc σ (EM a Q)
 | .sub e i,loc,σ,Q=>ev C e loc σ (k2 (ev C i loc) (Ff Q))
 | .cut e lo hi,loc,σ,Q=>ev C e loc σ (HR lo hi Q)
 | .bin op a b,loc,σ,Q=>ev C a loc σ (k2 (ev C b loc) (Hr op Q))
 | .not e,loc,σ,Q=>ev C e loc σ (HU Q)
 | .and l,loc,σ,Q=>AS C l loc σ Q
 | .or l,loc,σ,Q=>FF C l loc σ Q
 | .cmp op a b,loc,σ,Q=>ev C a loc σ (k2 (ev C b loc) (Hs op Q))
 | .chain a b c,loc,σ,Q=>ev C a loc σ (k2 (ev C b loc) (Ip (ev C c loc) (IA Q) (Hs .lt Q)))
 | .ite c a b,loc,σ,Q=>tF C c loc σ (DD (ev C a loc) (ev C b loc) Q)
 | .tup l,loc,σ,Q=>pz C l loc σ (HX Q)
 | .list l,loc,σ,Q=>pz C l loc σ (hV Q)
 | .dict l,loc,σ,Q=>FG C l loc σ (GZ Q)
 | .call f l,loc,σ,Q=>pz C l loc σ (EN C ("",f) Q)
 | .new c l,loc,σ,Q=>pz C l loc σ (HT C c Q)
 | .meth c e m l,loc,σ,Q=>ev C e loc σ (G5 (pz C l loc) C c m Q)
 | .prim p l,loc,σ,Q=>pz C l loc σ (EQ p Q)
 | .bm b e l,loc,σ,Q=>ev C e loc σ (Iz (pz C l loc) b Q)
 | .comp elt t k l ifs,loc,σ,Q=>pz C l loc σ (xN k t (cw t.names loc) (eW (iK C ifs) (ev C elt)) 0 (hV Q))
 | .comp2 elt t k l t' k' l' ifs,loc,σ,Q=>pz C l loc σ (xN k t (cw (t.names++t'.names) loc) (su k' t' (pz C l') (eW (iK C ifs) (ev C elt))) 0 (hV Q))
noncomputable def pz(C:Hd):List E→Loc→Hp→KL→Prop
 | [],_,σ,Q=>Q [] σ
 | e::r,loc,σ,Q=>ev C e loc σ (EO (pz C r loc) Q)
noncomputable def FG(C:Hd):List (E×E)→Loc→Hp→(List (V×V)→Hp→Prop)→Prop
 | [],_,σ,Q=>Q [] σ
 | (k,e)::r,loc,σ,Q=>ev C k loc σ (k2 (ev C e loc) (G9 (FG C r loc) Q))
noncomputable def AS(C:Hd):List E→Loc→Hp→K1→Prop
 | [],_,_,_=>False
 | [e],loc,σ,Q=>ev C e loc σ Q
 | e::e'::r,loc,σ,Q=>ev C e loc σ (HP (AS C (e'::r) loc) Q)
noncomputable def FF(C:Hd):List E→Loc→Hp→K1→Prop
 | [],_,_,_=>False
 | [e],loc,σ,Q=>ev C e loc σ Q
 | e::e'::r,loc,σ,Q=>ev C e loc σ (ID (FF C (e'::r) loc) Q)
noncomputable def tF(C:Hd):E→Loc→Hp→KB→Prop
 | .not e,loc,σ,Q=>tF C e loc σ (G8 Q)
 | .and l,loc,σ,Q=>iK C l loc σ Q
 | .or l,loc,σ,Q=>CG C l loc σ Q
 | .ite c a b,loc,σ,Q=>tF C c loc σ (DD (tF C a loc) (tF C b loc) Q)
 | .cmp op a b,loc,σ,Q=>ev C a loc σ (k2 (ev C b loc) (Fe op Q))
 | .chain a b c,loc,σ,Q=>ev C a loc σ (k2 (ev C b loc) (Ip (ev C c loc) Q (Fe .lt Q)))
 | .var x,loc,σ,Q=>dh (loc x) (GX (Bl Q) σ)
 | .attr e a,loc,σ,Q=>ev C e loc σ (EM a (Bl Q))
 | .sub e i,loc,σ,Q=>ev C e loc σ (k2 (ev C i loc) (Ff (Bl Q)))
 | .call f l,loc,σ,Q=>pz C l loc σ (EN C ("",f) (Bl Q))
 | .prim p l,loc,σ,Q=>pz C l loc σ (EQ p (Bl Q))
 | _,_,_,_=>False
noncomputable def iK(C:Hd):List E→Loc→Hp→KB→Prop
 | [],_,σ,Q=>Q true σ
 | e::r,loc,σ,Q=>tF C e loc σ (HO (iK C r loc) Q)
noncomputable def CG(C:Hd):List E→Loc→Hp→KB→Prop
 | [],_,σ,Q=>Q false σ
 | e::r,loc,σ,Q=>tF C e loc σ (HQ (CG C r loc) Q)
end
noncomputable def gu:List String→List V→Loc→Option Loc
 | [],[],loc=>some loc
 | x::xs,v::vs,loc=>gu xs vs (setL loc x v)
 | _,_,_=>none
noncomputable def dp(v i w:V)(σ:Hp)(Q:Hp→Prop):Prop :=
 match v with
 | .obj n=>EU σ[n]? (fun l=>zw i fun i=>0≤i∧i<l.length∧l.length<big∧Q (σ.set n (.list (l.set i.toNat w)))) fun l e=>(i.key=true∧i.dep≤6)∧l.length<big∧Q (σ.set n (fK l e i w))
 | _=>False
theorem vg{i w:V}{Q:Hp→Prop}{M:V→V→Prop}(h:dp v i w σ Q)(k1:∀n l (i:Int),σ[n]?=some (.list l)→0≤i∧i<l.length∧l.length<big∧Q (σ.set n (.list (l.set i.toNat w)))→M (.obj n) (.int i))
  (k2:∀n l e,σ[n]?=some (.dict l e)→(i.key=true∧i.dep≤6)∧l.length<big∧Q (σ.set n (fK l e i w))→M (.obj n) i):M v i :=
 V.objU (M:=fun v=>M v i) (f:=fun v=>dp v i w σ Q) h (fun n h=>sw h (fun l e h=>eT h fun j h=>k1 n l j e h) fun l d e h=>k2 n l d e h) id (fun z_=>id) (fun z_=>id) (fun z_=>id) (fun z_=>id) (fun z_=>id)
noncomputable def Gg(a:String)(v:V)(n:Nat)(σ:Hp)(Q:Hp→Prop):Option Ob→Prop
 | some (.inst c l)=>l.length<100∧Q (σ.set n (.inst c (jV l a v)))
 | _=>False
noncomputable def ER(a:String)(v:V)(loc:Loc)(Q:Loc→Hp→Prop):K1:=fun u σ=>match u with
 | .obj n=>Gg a v n σ (Q loc) σ[n]?
 | _=>False
theorem zc{a:String}{u:V}{Q:Loc→Hp→Prop}{G:Prop}(h:ER a v loc Q u σ)(k:∀n c l,u=.obj n→σ[n]?=some (.inst c l)→l.length<100→Q loc (σ.set n (.inst c (jV l a v)))→G):G:=by
 cases u with
 | obj n =>
  have h:Gg a v n σ (Q loc) σ[n]?:=h;generalize e:σ[n]?=o at h
  cases o with
  | none=>exact h.elim
  | some o=>cases o with
   | inst c l=>exact k n c l rfl e h.1 h.2
   | _=>exact h.elim
 | _=>exact h.elim
noncomputable def Ie(w:V)(loc:Loc)(Q:Loc→Hp→Prop):V→K1:=fun u j σ=>dp u j w σ (Q loc)
noncomputable def GY(v:V)(hi:Int)(loc:Loc)(Q:Loc→Hp→Prop):K1:=fun u σ=>match u,v with
  | .obj n,.obj m=>match σ[n]?,σ[m]? with
   | some (.list l),some (.list k)=>n≠m∧0≤hi∧hi<100∧l.length+k.length<big∧Q loc (σ.set n (.list (k++l.drop hi.toNat)))
   | _,_=>False
  | _,_=>False
noncomputable def GG(C:Hd)(t:T)(v:V)(loc:Loc)(σ:Hp)(Q:Loc→Hp→Prop):Prop :=
 match t with
 | .name x=>Q (setL loc x v) σ
 | .attr e a=>ev C e loc σ (ER a v loc Q)
 | .sub e i=>ev C e loc σ (k2 (ev C i loc) (Ie v loc Q))
 | .cut e hi=>ev C e loc σ (GY v hi loc Q)
 | .names xs=>dh (fP σ v) fun l=>dh (gu xs l loc) fun loc'=>Q loc' σ
 | .subs e i e' i'=>match v with
  | .tup [a,b]=>ev C e loc σ fun u σ=>ev C i loc σ fun j σ=>dp u j a σ fun σ =>
   ev C e' loc σ fun u σ=>ev C i' loc σ fun j σ=>dp u j b σ fun σ=>Q loc σ
  | _=>False
noncomputable def G6(Q:KS)(loc:Loc):K1:=fun z_ σ=>Q .next loc σ
noncomputable def wi(C:Hd)(t:T)(Q:KS)(loc:Loc):K1:=fun v σ=>GG C t v loc σ (Q .next)
noncomputable def HW(Q:KS)(loc:Loc):K1:=fun v σ=>Q (.ret v) loc σ
noncomputable def zb(f:Loc→Hp→KS→Prop)(Q:KS):KS:=fun fl loc σ=>match fl with
 | .next=>f loc σ Q
 | fl=>Q fl loc σ
noncomputable def HS(k:nc)(t:Tn)(f:Loc→Hp→KS→Prop)(loc:Loc)(Q:KS):KL:=fun vs σ=>dh (dm k vs σ) fun p=>eV (bV p.2 σ) t f p.1 loc σ Q
mutual
noncomputable def ex(C:Hd):S→Loc→Hp→KS→Prop
 | .expr e,loc,σ,Q=>ev C e loc σ (G6 Q loc)
 | .assign t e,loc,σ,Q=>ev C e loc σ (wi C t Q loc)
 | .ite c a b,loc,σ,Q=>tF C c loc σ (DD (dW C a loc) (dW C b loc) Q)
 | .whil c b,loc,σ,Q=>∃n,jL (tF C c) (dW C b) n loc σ Q
 | .forr t k l b,loc,σ,Q=>pz C l loc σ (HS k t (dW C b) loc Q)
 | .ret e,loc,σ,Q=>ev C e loc σ (HW Q loc)
 | .cont,loc,σ,Q=>Q .cont loc σ
 | .stuck,_,_,_=>False
noncomputable def dW(C:Hd):List S→Loc→Hp→KS→Prop
 | [],loc,σ,Q=>Q .next loc σ
 | s::r,loc,σ,Q=>ex C s loc σ (zb (dW C r) Q)
end
structure eS where
 params:List String
 dflts:List V
 body:List S
noncomputable abbrev Tab:=(String×String)→Option eS
noncomputable def jT:List String→List V→Loc
 | x::xs,v::vs=>setL (jT xs vs) x v
 | _,_=>fun z_=>none
noncomputable def Fl.val:Fl→V | .ret v=>v | _=>.none
noncomputable def qB(Q:K1):Fl→Loc→Hp→Prop:=fun f z_ σ=>Q f.val σ
noncomputable def EH(F:Tab)(C:Hd):Hd:=fun f vs σ Q=>∃d,F f=some d∧vs.length≤d.params.length∧d.params.length≤vs.length+d.dflts.length∧
 dW C d.body (jT d.params (vs++d.dflts.drop (vs.length+d.dflts.length-d.params.length))) σ (qB Q)
@[irreducible] def aY (F:Tab) (n:Nat):Hd:=Nat.rec (fun z_ z_ z_ z_=>False) (fun z_ C=>EH F C) n
theorem vO{F:Tab}:aY F 0=fun z_ z_ z_ z_=>False:=by unfold aY;rfl
theorem pe{F:Tab}:aY F (n+1)=EH F (aY F n):=by unfold aY;rfl
set_option genSizeOf true
set_option genInjectivity true
section
variable{E:Value→Shared→Prop}{c:V}
theorem ci.here(R:bJ W s.heap ρ σ)(r:aK W s.heap ρ a x)(h:Q a σ):ci W ρ s Q x s:=⟨ρ,σ,a,bp.refl ..,R,r,h⟩
theorem ci.tok(R:bJ W s.heap ρ σ)(t:Nat)(r:aK W s.heap ρ a x)(h:Q a σ):ci W ρ s Q x {s with toks:=t}:=⟨ρ,σ,a,bp.toks ..,R,r,h⟩
theorem ci.upd{t:Nat}(S:bp gF ρ s ρ {s with heap:=h',toks:=t})(R:bJ W h' ρ σ')(r:aK W h' ρ a x)(h:Q a σ'):ci W ρ s Q x {s with heap:=h',toks:=t}:=⟨ρ,σ',a,S,R,r,h⟩
theorem ci.list(R:bJ W s.heap ρ σ){l:List V}{items:Array Value}{t:Nat}(r:aZ W s.heap ρ l items.toList)(h:Q (.obj σ.length) (σ++[.list l])) :
  ci W ρ s Q (.ref s.heap.objs.size) {s with heap:=s.heap.push {cls:=.type "list",data:=.seq items},toks:=t}:=by
 have k:bg W s.heap (s.heap.push {cls:=.type "list",data:=.seq items}):=fun z_ z_ e z_ z_=>aA _ e;have ro:il W (s.heap.push {cls:=.type "list",data:=.seq items}) (ρ++[(s.heap.objs.size,s.heap.objs.size)]) (s.heap.objs.size,s.heap.objs.size) (.list l) :=
  ⟨rfl,items,0,aQ _ rfl,r.mono k (cj ..)⟩
 refine ⟨_,_,_,Ab,R.push ro,.obj (a:=s.heap.objs.size) (d:=s.heap.objs.size) ?_,h⟩;rw [←R.len,aL (ax _)];simp
theorem ci.tup(R:bJ W s.heap ρ σ){l:List V}{items:Array Value}{t:Nat}(r:aZ W s.heap ρ l items.toList)(h:Q (.tup l) σ) :
  ci W ρ s Q (.ref s.heap.objs.size) {s with heap:=s.heap.push {cls:=.type "tuple",data:=.seq items},toks:=t}:=by
 have k:∀a o,s.heap.get? a=some o→(s.heap.push {cls:=.type "tuple",data:=.seq items}).get? a=some o:=fun z_ z_ e=>aA _ e;have z:s.heap.objs.size≤(s.heap.push {cls:=.type "tuple",data:=.seq items}).objs.size:=by rw [br];exact Nat.le_succ _
 exact ⟨ρ,σ,_,cR k z,R.keep k z,.tup (aQ _ rfl) rfl rfl ⟨rfl,rfl,fun p=>let ⟨_,h1,_⟩:=R.priv _ p;bX _ (bo h1)⟩ (r.mono (fun a o e z_ z_=>k a o e) (aB _)),h⟩
theorem bJ.list_at(R:bJ W s.heap ρ σ)(r:aK W s.heap ρ (.obj n) x)(e:σ[n]?=some (.list l)) :
  ∃p ad,ρ[n]?=some p∧p.1=ad∧p.2=ad∧x=.ref ad∧∃items ep,s.heap.get? ad=some ⟨.type "list",none,.seq items ep,#[]⟩∧aZ W s.heap ρ l items.toList∧items.size=l.length:=by
 refine cY r.E fun ad d q ep=>?_;subst q;refine vC (R.ob n _ _ e ep) fun h1 items k h2 h3=>?_;simp only at h1;subst h1;exact ⟨_,_,ep,rfl,rfl,rfl,items,k,h2,h3,by rw [←bu,h3.length]⟩
theorem bJ.dict_at(R:bJ W s.heap ρ σ){l:List (V×V)}(r:aK W s.heap ρ (.obj n) x){epo:Nat}(e:σ[n]?=some (.dict l epo)) :
  ∃p ad,ρ[n]?=some p∧p.1=ad∧p.2=ad∧x=.ref ad∧W.h₀.objs.size≤ad∧∃es ep,ep=epo∧s.heap.get? ad=some ⟨.type "dict",none,.dict es ep,#[]⟩∧cr W s.heap ρ l es.toList∧es.size=l.length:=by
 refine cY r.E fun ad d q ep=>?_;subst q;refine ni (R.ob n _ _ e ep) fun h1 w z_=>?_;refine bG w fun es h2 h3=>?_;simp only at h1;subst h1;exact ⟨_,_,ep,rfl,rfl,rfl,(R.new n _ ep).1,es,epo,rfl,h2,h3,by rw [←bu,h3.length]⟩
theorem bJ.inst_at(R:bJ W s.heap ρ σ){cl:String}{l:List (String×V)}(r:aK W s.heap ρ (.obj n) x)(e:σ[n]?=some (.inst cl l)) :
  ∃p,ρ[n]?=some p∧x=.ref p.1∧∃C es k,W.cls cl=some C∧s.heap.get? p.1=some (instObj C p.2)∧s.heap.get? p.2=some (dictOf es k)∧eC W s.heap ρ l es:=by
 refine cY r.E fun ad d q ep=>?_;subst q;refine eu (R.ob n _ _ e ep) fun C es k h1 h2 h3 h4 z_=>?_;exact ⟨_,ep,rfl,C,es,k,h1,h2,h3,h4⟩
theorem gJ(h:n<big):n≤sizeLine:=by rw [sizeLine_eq];unfold big at h;omega
theorem pc{k:Int}(h:k.natAbs<2^60):Builtin.Int.intBits k≤64:=intBits_le_64 (by omega) (by omega)
theorem rH{h:Heap}{l:List V}{vs:List Value}(r:aZ W h ρ l vs):∀n:Nat,aZ W h ρ (List.replicate n l).flatten (List.replicate n vs).flatten
 | 0=>.nil
 | n+1=>by simp only [List.replicate_succ,List.flatten_cons];exact r.append (rH r n)
theorem re(items:Array Value):∀(n:Nat) (z:Array Value),(List.foldl (fun x1 x2=>x1++x2) z (List.replicate n items)).toList=z.toList++(List.replicate n items.toList).flatten
 | 0,z=>by simp
 | n+1,z=>by rw [List.replicate_succ,List.foldl_cons,re items n];simp [List.replicate_succ]
noncomputable def F6:EE→Operator | .add=>.Add | .sub=>.Sub | .mul=>.Mult | .div=>.FloorDiv | .mod=>.Mod
theorem Gc{m:Nat}{i:Int}(R:bJ W s.heap ρ σ)(ra:aK W s.heap ρ (.obj m) x)(rb:aK W s.heap ρ (.int i) y)(e1:σ[m]?=some (.list l))(h0:0≤i)(h1:i<100)(h2:l.length<100)(h:Q (.obj σ.length) (σ++[.list (List.replicate i.toNat l).flatten])) :
  wpAny (model W.prog W.w) A (binaryOp .Mult x y) (ci W ρ s Q) E s:=by
 refine bt (R.list_at ra e1) fun p ad ep hp1 hp2 q items ek ho hr hz=>?_;subst q;refine xe rb.E fun u z=>?_;subst z;have hk:items.size*i.toNat<10000:=by
  rw [hz];have h3:i.toNat≤99:=by omega
  calc l.length*i.toNat≤99*99:=Nat.mul_le_mul (by omega) h3
   _<10000:=by decide
 refine wpAny_binaryOp_repeat_ref (T:="list") (U:="int") (by decide) ⟨_,ho,rfl⟩ (fun s'=>typeIs_int s' i u) noFill_list_mul F.fills_int_mul F.slot_int_rmul repeat_list F.slot_int_index.lookup
  (call_meets F.slot_int_rmul (typeIs_int s i u) F.entry_int_rmul (F.args_int_rmul_2 _ _) (int___rmul___int_list i u ad items ek)
   ⟨ho,rfl,⟨_,ho,rfl⟩,call_meets F.slot_list_mul ⟨_,ho,rfl⟩ F.entry_list_mul (F.args_list_mul_2 _ _)
    (AutoListH.list___mul___list_int_3 ad items ek i u (by simp [Builtin.List.listFitsIndex];omega) (by omega) (by simp [Builtin.List.listTooLong,sizeLine];omega))
    ⟨ho,?_⟩⟩)
 refine ci.list R (t:=s.toks) ?_ h;rw [re];simp only [List.nil_append];by_cases he:items.isEmpty=true
 ·rw [if_pos he];have:items=#[]:=by simpa using he
  subst this;have:l=[]:=by simpa using hz.symm
  subst this;simp;exact .nil
 ·rw [if_neg he];exact rH hr _
set_option tactic.hygienic true in
theorem Fv{op:EE}(R:bJ W s.heap ρ σ)(ra:aK W s.heap ρ a x)(rb:aK W s.heap ρ b y)(h:yw op a b σ Q):wpAny (model W.prog W.w) A (binaryOp (F6 op) x y) (ci W ρ s Q) E s:=by
 refine AC (M:=fun op a b=>aK W s.heap ρ a x→aK W s.heap ρ b y→wpAny _ _ (binaryOp (F6 op) x y) _ _ _) h (fun i j h ra rb=>?_) (fun m n l k e1 e2 hb h ra rb=>?_) (fun i j h ra rb=>?_) (fun i j hk h ra rb=>?_) (fun m l i e h0 h1 h2 h ra rb=>Gc R ra rb e h0 h1 h2 h)
  (fun i j h0 h1 h ra rb=>?_) (fun i j h0 h1 h ra rb=>?_) ra rb
 ·exact ra.intU (M:=fun x=>wpAny _ _ (binaryOp .Add x y) _ _ _) fun t=>rb.intU (M:=fun y=>wpAny _ _ (binaryOp .Add _ y) _ _ _) fun u=>PyProof.Rows.add_int (ci.tok R _ (.int _ _) h)
 ·refine bt (R.list_at ra e1) fun p ad ep hp1 hp2 q items ek ho hr hz=>?_;subst q;refine bt (R.list_at rb e2) fun p' ad' ep' hp1' hp2' z items' ek' ho' hr' hz'=>?_;subst z;refine PySem.P.add_list (n:=ek) (n2:=ek') ho ho' ?_ (by rw [hz,hz'];exact gJ hb);exact ci.list R (t:=s.toks) (by rw [Array.toList_append];exact hr.append hr') h
 ·exact ra.intU (M:=fun x=>wpAny _ _ (binaryOp .Sub x y) _ _ _) fun t=>rb.intU (M:=fun y=>wpAny _ _ (binaryOp .Sub _ y) _ _ _) fun u=>PyProof.Rows.sub_int (ci.tok R _ (.int _ _) h)
 ·exact ra.intU (M:=fun x=>wpAny _ _ (binaryOp .Mult x y) _ _ _) fun t=>rb.intU (M:=fun y=>wpAny _ _ (binaryOp .Mult _ y) _ _ _) fun u=>PyProof.Rows.mul_int (ci.tok R _ (.int _ _) h) (hk.elim (fun h=>IntMulOk.of_left (pc h)) fun h=>IntMulOk.of_right (pc h))
 ·refine ra.intU (M:=fun x=>wpAny _ _ (binaryOp .Mod x y) _ _ _) fun t=>rb.intU (M:=fun y=>wpAny _ _ (binaryOp .Mod _ y) _ _ _) fun u=>PyProof.Rows.mod_int' (Int.ne_of_gt h0) ?_;rw [Int.fmod_eq_emod_of_nonneg _ (Int.le_of_lt h0)];exact ci.tok R _ (.int _ _) h
 ·refine ra.intU (M:=fun x=>wpAny _ _ (binaryOp .FloorDiv x y) _ _ _) fun t=>rb.intU (M:=fun y=>wpAny _ _ (binaryOp .FloorDiv _ y) _ _ _) fun u=>PyProof.Rows.floordiv_int (Int.ne_of_gt h0) ?_ (.inl (PyProof.noPylong_small (by omega)));rw [Int.fdiv_eq_ediv_of_nonneg _ (Int.le_of_lt h0)];exact ci.tok R _ (.int _ _) h
end
section
variable{E:Value→Shared→Prop}{c:V}
theorem jG{ad:Addr}{k:Nat}(ho:h.get? ad=some ⟨.type "list",none,.seq items k,#[]⟩)(r:aZ W h ρ l items.toList)(d:V.dats l=true) :
  Reads h (.ref ad) (.list (V.pys l)) [ad]:=.list ho rfl rfl (r.reads d)
theorem E6{m:List V}(hu:A.units+20<cLine)(hl:V.deps l≤6):A.units+min (PyData.list (V.pys l)).depth (PyData.list (V.pys m)).depth<cLine:=by
 have:=V.pys_dep l;dsimp only [PyData.depth];exact DH hu (Nat.succ_le_succ this) (am (Nat.succ_le_succ hl) (by decide))
theorem E5(hu:A.units+20<cLine)(hl:a.dep≤6):A.units+min a.py.depth b.py.depth<cLine:=by
 exact DH hu (V.py_dep a) (am hl (by decide))
theorem mD(d:V.dats l=true):(PyData.list (V.pys l)).canLay0=true:=by
 dsimp only [PyData.canLay0];exact V.pys_lay l d
theorem xD{p q:Bool}(h:p=true↔q=true):p=q:=by cases p<;>cases q<;>simp_all
theorem r7(da:a.dat=true)(db:b.dat=true):PyData.eqv a.py b.py=V.deq a b:=xD ((V.eqv_iff a b da db).trans V.deq_iff.symm)
theorem t6{m:List V}(da:V.dats l=true)(db:V.dats m=true):PyData.eqv (.list (V.pys l)) (.list (V.pys m))=V.deq (.tup l) (.tup m):=by
 refine xD ?_;rw [V.deq_iff,V.tup.injEq];dsimp only [PyData.eqv];exact V.eqvs_iff l m da db
theorem qj{l k:List (V×V)}(h:∀j<i,∀p,l[j]?=some p→pF k p=true) :
  l.all (pF k)=(l.drop i).all (pF k):=by
 conv=>lhs;rw [←List.take_append_drop i l,List.all_append]
 have:(l.take i).all (pF k)=true:=by
  rw [List.all_eq_true];intro p hp;refine xe (List.mem_iff_getElem?.mp hp) fun j hj=>?_;rw [List.getElem?_take] at hj
  split at hj
  ·exact h j (by assumption) p hj
  ·exact ca hj
 rw [this,Bool.true_and]
theorem BP{nm:String}{ad ad':Addr}{es es':Array DictEntry}{ek ek':Nat}{l k:List (V×V)}{Q:Bool→Shared→Prop}(q1:(ad==sysModules)=false)(q2:(ad'==sysModules)=false)
  (hu:A.units+20<cLine)
  (ho:s.heap.get? ad=some {cls:=Value.type "dict",data:=Data.dict es ek}) (hr:cr W s.heap ρ l es.toList) (hz:es.size=l.length)
  (ho':s.heap.get? ad'=some {cls:=Value.type "dict",data:=Data.dict es' ek'}) (hr':cr W s.heap ρ k es'.toList) (hz':es'.size=k.length) (nd':(k.map (·.1)).Nodup)
  (fl:mt l=true) (fk:mt k=true) (h:Q (qi l k) s):wpAny (model W.prog W.w) A.in1 (Builtin.Dict.samePairs nm ad ad') Q E s:=by
 refine af (gn (fun q=>absurd q (by rw [q1];simp)) fun z_=>ak ?_);refine af (gn (fun q=>absurd q (by rw [q2];simp)) fun z_=>ak ?_);refine af (wpAny_dictEntries ho rfl (af (wpAny_dictEntries ho' rfl ?_)));unfold qi at h;refine gn (fun q=>?_) fun q=>?_
 ·refine af (wpAny_rule (ak ?_));have:(l.length==k.length)=false:=by rw [←hz,←hz'];simpa using q
  rw [this,Bool.false_and] at h;exact h
 have eK:es.size=es'.size:=by simpa using q
 have hlk:(l.length==k.length)=true:=by rw [←hz,←hz'];simpa using q
 rw [hlk,Bool.true_and] at h;refine af (wpAny_dictEpoch ho rfl (af ?_));rw [Std.Legacy.Range.forIn_eq_forIn_range'];dsimp only [Std.Legacy.Range.size,Nat.sub_zero,Nat.add_sub_cancel,Nat.div_one];refine wpAny_forIn_list _
  (fun rest q s'=>s'=s∧q=(none,())∧∃i,rest=List.range' i (es.size-i)∧i≤es.size∧∀j<i,∀p,l[j]?=some p→pF k p=true)
  _ ?_ ?_ _ _ ⟨rfl,rfl,0,by simp,aS _,fun j hj=>absurd hj (Nat.not_lt_zero _)⟩
 ·intro x rest q s' y;refine ni y fun z t r=>?_;clear y;subst z;subst t;refine f7 r fun i hrr hi hpre=>?_;clear r;have hlt:i<es.size:=by
   refine Or.elim (cD i es.size) (fun h=>?_) (fun h=>?_)
   ·exact h
   ·rw [Nat.sub_eq_zero_of_le h] at hrr;simp at hrr
  obtain ⟨rfl,hrest⟩:x=i∧rest=List.range' (i+1) (es.size-(i+1)):=by
   have e:es.size-i=(es.size-(i+1))+1:=By hlt;rw [e,List.range'_succ] at hrr
   injection hrr with h1 h2
   exact ⟨h1,h2⟩
  refine af (wpAny_dictEntries ho rfl ?_);rw [Array.getElem?_eq_getElem hlt];refine gw (hr.get (n:=x) (e:=es[x]) (by rw [Array.getElem?_toList];exact Array.getElem?_eq_getElem hlt)) fun k' v' e1 e2 e3 e4 e5 e6=>?_;have hmem:(k',v')∈l:=List.mem_of_getElem? e1;have hfl:=List.all_eq_true.mp fl _ hmem;simp only [Bool.and_eq_true,decide_eq_true_eq] at hfl;refine xa hfl fun m f4=>?_;refine xa m fun f f3=>?_;refine xa f fun f1 f2=>?_;have hdrop:l.drop x=(k',v')::l.drop (x+1):=by
   have hx:x<l.length:=by rw [←hz];exact hlt
   rw [List.drop_eq_getElem_cons hx];rw [aC hx] at e1;rw [aX e1]
  have hall:=qj hpre;rw [hdrop,List.all_cons] at hall;rw [hall] at h;refine af (a9 ?_);rw [e4];refine af (iW (Hg hu) e2 e3 e5 ho' rfl hr' nd' ?_)
  cases hj:fW k k' with
  | none =>
   have hg:getD k k'=none:=by
    cases g:getD k k' with
    | none=>rfl
    | some v=>refine bG (ez g) fun i h z_=>?_;rw [hj] at h;exact ca h
   have hh:pF k (k',v')=false:=by unfold pF;rw [hg]
   rw [hh,Bool.false_and] at h;refine ak (gn (fun z_=>ak (ak h)) fun q=>absurd rfl q)
  | some j =>
   refine xe (fX hj) fun u hv=>?_;have hg:getD k k'=some u:=iy hj hv;refine iF (hr'.at hv) fun aa bb hb z_ z_ z_ rb=>?_;have hh:pF k (k',v')=V.deq v' u:=by unfold pF;rw [hg]
   rw [hh] at h;have hmem':(k',u)∈k:=List.mem_of_getElem? hv;have hfk:=List.all_eq_true.mp fk _ hmem';simp only [Bool.and_eq_true,decide_eq_true_eq] at hfk;refine af (wpAny_dictEntries ho' rfl ?_);rw [←Array.getElem?_toList,hb];refine a9 (pw f2 hfk.1.1.2 (IE hu hfl.2) e6 rb ?_)
   cases hd:V.deq v' u with
   | false =>
    rw [hd,Bool.false_and] at h;have:¬v'=u:=fun e=>by rw [V.deq_iff.mpr e] at hd;cases hd
    exact gn (fun z_=>ak (ak h)) fun q=>absurd (by simp [this]) q
   | true =>
    have:v'=u:=V.deq_iff.mp hd;refine gn (fun q=>absurd q (by simp [this])) fun z_=>?_;refine af (wpAny_dictEpoch ho rfl (gn (fun q=>absurd q (by simp)) fun z_=>ak ⟨rfl,rfl,x+1,hrest,hlt,fun j hj p hp=>?_⟩));refine Or.elim (cD j x) (fun hjx=>?_) (fun hjx=>?_)
    ·exact hpre j hjx p hp
    ·have:j=x:=Nat.le_antisymm (Nat.le_of_lt_succ hj) hjx;subst this;rw [e1] at hp;cases hp;rw [hh];exact hd
 ·intro q s' d;refine ni d fun c b a=>?_;clear d;subst c;subst b;refine f7 a fun i hrr hi hpre=>?_;clear a;have hin:i=es.size:=by
   refine Or.elim (cD i es.size) (fun h=>?_) (fun h=>?_)
   ·have e:es.size-i=(es.size-(i+1))+1:=By h;rw [e,List.range'_succ] at hrr;exact nomatch hrr
   ·exact Nat.le_antisymm hi h
  have hall:=qj hpre;rw [hin,hz,List.drop_length,List.all_nil] at hall;rw [hall] at h;exact ak h
theorem vY{m:Nat}{l k:List (V×V)}(hs:sysModules<W.h₀.objs.size)(hu:A.units+20<cLine)(R:bJ W s.heap ρ σ)(ra:aK W s.heap ρ (.obj m) x)(rb:aK W s.heap ρ (.obj n) y)
  {i j:Nat} (e1:σ[m]?=some (.dict l i)) (e2:σ[n]?=some (.dict k j)) (fl:mt l=true) (fk:mt k=true) {Q:Value→Shared→Prop} (h:Q (.bool (qi l k)) s) :
  wpAny (model W.prog W.w) A (compareOp .Eq x y) Q E s:=by
 refine bC (R.dict_at ra e1) fun p ad ep hp1 hp2 q hn es ek z_ ho hr hz=>?_;subst q;refine bC (R.dict_at rb e2) fun p' ad' ep' hp1' hp2' z hn' es' ek' z_ ho' hr' hz'=>?_;subst z;have nd':(k.map (·.1)).Nodup:=(R.ob n _ _ e2 ep').2.2;have q1:(ad==sysModules)=false:=beq_eq_false_iff_ne.mpr (bN (al hs hn));have q2:(ad'==sysModules)=false:=beq_eq_false_iff_ne.mpr (bN (al hs hn'));have hT1:s.TypeIs (.ref ad) "dict":=⟨_,ho,rfl⟩
 have hT2:s.TypeIs (.ref ad') "dict":=⟨_,ho',rfl⟩
 refine wpAny_richCompare_same_room (op:=.Eq) hT1 hT2 F.slot_dict_eq (wpAny_call_entry F.slot_dict_eq hT1 F.entry_dict_eq ?_ (F.args_dict_eq_2 _ _)) (ay (aW _ 20) hu);refine af ?_;refine af (wpAny_notOrdered_dict hT1 (ak (af (wpAny_isInstance (T:="dict") hT2 isSubtype_dict_dict ?_))));skip;refine af (ak (af (ak (af (BP q1 q2 hu ho hr hz ho' hr' hz' nd' fl fk (ak ⟨_,rfl,by simp,?_⟩))))))
 simpa using h
end
section
variable{E:Value→Shared→Prop}{c:V}
noncomputable def q7:CU→CmpOp | .eq=>.Eq | .ne=>.NotEq | .lt=>.Lt | .le=>.LtE | .gt=>.Gt | .ge=>.GtE | .isIn=>.In | .notIn=>.NotIn | .isNone=>.Is | .notNone=>.IsNot
theorem jc(r:aK W h ρ a x):(x==Value.none)=a.isNone:=r.ind (M:=fun a x=>(x==Value.none)=a.isNone) rfl (fun z_=>rfl) (fun z_ z_=>rfl) (fun z_ z_=>rfl) (fun z_ z_ z_ z_ z_=>rfl) (fun z_=>rfl) (fun z_ z_ z_ z_=>rfl)
theorem rG(r:aK W h ρ a x):plainIs x .none=true:=r.ind (M:=fun z_ x=>plainIs x .none=true) rfl (fun z_=>rfl) (fun z_ z_=>rfl) (fun z_ z_=>rfl) (fun z_ z_ z_ z_ z_=>rfl) (fun z_=>rfl) (fun z_ z_ z_ z_=>rfl)
theorem yu{p q:Bool}{m:Nat}(h:(p&&q&&decide (n≤m))=true):(p=true∧q=true)∧n≤m:=have h:=a8.1 h;⟨a8.1 h.1,aF h.2⟩
set_option tactic.hygienic true in
theorem GR{r:Bool}{P:Value→Shared→Prop}(hs:sysModules<W.h₀.objs.size)(hu:A.units+20<cLine)(R:bJ W s.heap ρ σ)(ra:aK W s.heap ρ a x)(rb:aK W s.heap ρ b y)(h:FE σ a b=some r)(hQ:P (.bool r) s) :
  wpAny (model W.prog W.w) A (compareOp .Eq x y) P E s:=by
 refine HN (M:=fun r=>P (.bool r) s→wpAny (model W.prog W.w) A (compareOp .Eq x y) P E s) h (fun hd hQ=>?_) (fun h hQ=>?_) hQ
 ·have hd:=yu hd;exact SeqAt.compareEq_reads (ra.reads hd.1.1) (rb.reads hd.1.2) (V.py_lay _ hd.1.1) (V.py_lay _ hd.1.2) (E5 hu hd.2) (by rw [r7 hd.1.1 hd.1.2];exact hQ)
 ·refine Dm (M:=fun a b r=>aK W s.heap ρ a x→aK W s.heap ρ b y→P (.bool r) s→wpAny (model W.prog W.w) A (compareOp .Eq x y) P E s) h (fun m n l l' e1 e2 hd ra rb hQ=>?_) (fun m n l i l' i' e1 e2 hd ra rb hQ=>vY hs hu R ra rb e1 e2 (a8.1 hd).1 (a8.1 hd).2 hQ) ra rb hQ;have hd:=yu hd;refine bt (R.list_at ra e1) fun p ad ep hp1 hp2 q items ek ho hr hz=>?_;subst q;refine bt (R.list_at rb e2) fun p' ad' ep' hp1' hp2' z items' ek' ho' hr' hz'=>?_;subst z;exact SeqAt.compareEq_reads (jG ho hr hd.1.1) (jG ho' hr' hd.1.2) (mD hd.1.1) (mD hd.1.2) (E6 hu hd.2) (by rw [t6 hd.1.1 hd.1.2];exact hQ)
set_option tactic.hygienic true in
theorem Hi{r:Bool}{P:Value→Shared→Prop}(hu:A.units+20<cLine)(R:bJ W s.heap ρ σ)(ra:aK W s.heap ρ a x)(rb:aK W s.heap ρ b y)(h:FX σ a b=some r)(hQ:P (.bool (!r)) s) :
  wpAny (model W.prog W.w) A (compareOp .NotEq x y) P E s:=by
 refine HN (M:=fun r=>P (.bool (!r)) s→wpAny (model W.prog W.w) A (compareOp .NotEq x y) P E s) h (fun hd hQ=>?_) (fun h hQ=>?_) hQ
 ·have hd:=yu hd;exact SeqAt.compareNe_reads (ra.reads hd.1.1) (rb.reads hd.1.2) (V.py_lay _ hd.1.1) (V.py_lay _ hd.1.2) (E5 hu hd.2) (by rw [r7 hd.1.1 hd.1.2];exact hQ)
 ·refine DN (M:=fun a b r=>aK W s.heap ρ a x→aK W s.heap ρ b y→P (.bool (!r)) s→wpAny (model W.prog W.w) A (compareOp .NotEq x y) P E s) h (fun m n l l' e1 e2 hd ra rb hQ=>?_) ra rb hQ;have hd:=yu hd;refine bt (R.list_at ra e1) fun p ad ep hp1 hp2 q items ek ho hr hz=>?_;subst q;refine bt (R.list_at rb e2) fun p' ad' ep' hp1' hp2' z items' ek' ho' hr' hz'=>?_;subst z;exact SeqAt.compareNe_reads (jG ho hr hd.1.1) (jG ho' hr' hd.1.2) (mD hd.1.1) (mD hd.1.2) (E6 hu hd.2) (by rw [t6 hd.1.1 hd.1.2];exact hQ)
theorem eqAt_reads{h:Shared}{B:Around}(hu:B.units+8<cLine)(ra:aK W h.heap ρ a x)(rb:aK W h.heap ρ b y)(da:a.dat=true)(db:b.dat=true)(hd:a.dep≤6) :
  SeqAt.EqAt B h x y (V.deq a b):=fun prog w E Q hq=>by
 exact SeqAt.eqAt_reads a.py b.py B h x y [] [] (ra.reads da) (rb.reads db) (V.py_lay _ da) (V.py_lay _ db) (DH hu (V.py_dep a) (am hd (by decide))) prog w E Q (by rw [r7 da db];exact hq)
theorem C6{f:V→Bool}{g:Value→Bool}(r:aZ W h ρ l vs):(∀v u,v∈l→aK W h ρ v u→g u=f v)→vs.any g=l.any f :=
 r.ind (M:=fun l vs=>(∀v u,v∈l→aK W h ρ v u→g u=f v)→vs.any g=l.any f) (fun z_=>rfl) fun x z_ ih hg=>by
  rw [List.any_cons,List.any_cons,hg _ _ ai x,ih fun v u hv hr=>hg v u (aj _ hv) hr]
open Classical in
noncomputable def xB(W:Wd)(h:Heap)(ρ:Rho)(f:V→Bool)(l:List V)(u:Value):Bool:=if g:∃v,v∈l∧aK W h ρ v u then f g.choose else false
theorem xS(r:aZ W h ρ l vs):∀u∈vs,∃v,v∈l∧aK W h ρ v u :=
 r.ind (M:=fun l vs=>∀u∈vs,∃v,v∈l∧aK W h ρ v u) (fun z_ hu=>absurd hu an) fun x z_ ih u hu=>(aP.mp hu).elim (fun e=>⟨_,ai,e▸x⟩) fun hu=>(ih u hu).imp fun z_ q=>⟨aj _ q.1,q.2⟩
theorem lH{f:V→Bool}{P:Bool→Shared→Prop}(f_ok:∀v u,v∈l→aK W s.heap ρ v u→∀B:Around,B.units=A.units+2→SeqAt.EqAt B s u x (f v))
  (f_fn:∀v v' u,v∈l→v'∈l→aK W s.heap ρ v u→aK W s.heap ρ v' u→f v=f v')
  (hr:aZ W s.heap ρ l items.toList) {ad:Addr} {k:Nat} (T:String) (hT:T="list"∨T="tuple") {o:Obj} (ho:s.heap.get? ad=some ⟨.type T,o.dict,.seq items k,o.slots⟩)
  (hQ:P (l.any f) s):wpAny (model W.prog W.w) A (contains (.ref ad) x) P E s:=by
 have key:items.any (xB W s.heap ρ f l)=l.any f:=by
  rw [←Array.any_toList];refine C6 hr fun v u hv hru=>?_;delta xB;rw [dif_pos ⟨v,hv,hru⟩];exact f_fn _ _ u (Classical.choose_spec (⟨v,hv,hru⟩:∃v,v∈l∧aK W s.heap ρ v u)).1 hv (Classical.choose_spec (⟨v,hv,hru⟩:∃v,v∈l∧aK W s.heap ρ v u)).2 hru
 have he:∀u,u∈items→SeqAt.EqAt A.in1 s u x (xB W s.heap ρ f l u):=fun u hu=>by
  refine bG (xS hr u (Array.mem_toList_iff.mpr hu)) fun v hv hru=>?_;delta xB;rw [dif_pos ⟨v,hv,hru⟩];have hs:=Classical.choose_spec (⟨v,hv,hru⟩:∃v,v∈l∧aK W s.heap ρ v u);refine SeqAt.EqAt.of_in1 (f_ok _ u hs.1 hs.2 _ rfl)
 rw [←key] at hQ;rcases hT with rfl | rfl
 ·exact wpAny_contains_slot ⟨_,ho,rfl⟩ F.slot_list_contains (call_meets F.slot_list_contains ⟨_,ho,rfl⟩ F.entry_list_contains (F.args_list_contains_2 _ _) (SeqAt.list_containsAt ad items k o.dict o.slots x _) ⟨ho,he,wpAny_truthy_bool hQ⟩)
 ·exact wpAny_contains_slot ⟨_,ho,rfl⟩ F.slot_tuple_contains (call_meets F.slot_tuple_contains ⟨_,ho,rfl⟩ F.entry_tuple_contains (F.args_tuple_contains_2 _ _) (SeqAt.tuple_containsAt ad items k o.dict o.slots x _) ⟨ho,he,wpAny_truthy_bool hQ⟩)
theorem Bi{M:V→Prop}(h:wQ σ v=true)(k0:M .none)(k1:∀m l,σ[m]?=some (.list l)→M (.obj m)):M v:=by
 induction v using V.ind with
 | h0=>exact k0
 | h4 m=>exact (Option.isSome_iff_exists.1 h).elim fun z_ h=>de h (fun l e z_=>k1 m l e) fun z_ z_ z_ h=>ca h
 | _=>exact bF h
set_option tactic.hygienic true in
theorem EL{r:Bool}{P:Bool→Shared→Prop}(hs:sysModules<W.h₀.objs.size)(hu:A.units+20<cLine)(R:bJ W s.heap ρ σ)(ra:aK W s.heap ρ a x)(rc:aK W s.heap ρ c y)(h:Ba σ a c=some r)(hQ:∀t,P r {s with toks:=t}) :
  wpAny (model W.prog W.w) A (contains y x) P E s:=by
 have dq:∀{l:List V},a.dat=true→V.dats l=true→V.deps l≤6→∀v u,v∈l→aK W s.heap ρ v u→∀B:Around,B.units=A.units+2→SeqAt.EqAt B s u x (V.deq v a):=fun da dl hl v u hv hru B hB=>by
  have:=V.dep_le_deps hv;exact eqAt_reads (h:=s) (hB▸ay (aW (A.units+10) 10) hu) hru ra (V.dats_iff.mp dl v hv) da (am this hl)
 have fn:∀{l:List V},V.dats l=true→∀v v' u,v∈l→v'∈l→aK W s.heap ρ v u→aK W s.heap ρ v' u→V.deq v a=V.deq v' a:=fun {l} dl v v' u hv hv' h1 h2=>by
  have e:PyData.eqv v.py v'.py=true:=by
   have:=SeqAt.Reads.unique _ _ _ _ _ (V.py_lay v (V.dats_iff.mp dl v hv)) (h1.reads (V.dats_iff.mp dl v hv)) (h2.reads (V.dats_iff.mp dl v' hv'));rw [this];exact (V.eqv_iff v' v' (V.dats_iff.mp dl v' hv') (V.dats_iff.mp dl v' hv')).mpr rfl
  rw [(V.eqv_iff v v' (V.dats_iff.mp dl v hv) (V.dats_iff.mp dl v' hv')).mp e]
 refine Dw (M:=fun c r=>aK W s.heap ρ c y→(∀t,P r {s with toks:=t})→wpAny (model W.prog W.w) A (contains y x) P E s) h (fun l hd rc hQ=>?_) (fun n l e hd rc hQ=>?_) (fun n l e hd rc hQ=>?_) (fun n l i e hd rc hQ=>?_) rc hQ
 ·have h1:=a8.1 hd;have hd:=yu h1.1;refine cp rc.E fun ad o items ek q ho hc hdat hx hr=>?_;subst q;clear hx;obtain ⟨cl,dd,dt,sl⟩:=o;simp only at hc hdat;subst hc hdat;exact lH (f:=fun y=>V.deq y a) (o:=⟨.type "tuple",dd,.seq items ek,sl⟩) (dq hd.1.1 hd.1.2 (aF h1.2)) (fn hd.1.2) hr "tuple" (.inr rfl) ho (hQ s.toks)
 ·have h1:=a8.1 hd;have hd:=yu h1.1;refine bt (R.list_at rc e) fun p ad ep hp1 hp2 z items ek ho hr hz=>?_;subst z;exact lH (f:=fun y=>V.deq y a) (o:=⟨.type "list",none,.seq items ek,#[]⟩) (dq hd.1.1 hd.1.2 (aF h1.2)) (fn hd.1.2) hr "list" (.inl rfl) ho (hQ s.toks)
 ·have hd:=a8.1 hd;refine bt (R.list_at rc e) fun p ad ep hp1 hp2 k items ek ho hr hz=>?_;subst k;have hx:x=.none:=eq_of_beq ((jc ra).trans hd.1);subst hx;refine lH (f:=V.isNone) (o:=⟨.type "list",none,.seq items ek,#[]⟩) (fun v u hv hru B hB=>?_) (fun v v' u hv hv' h1 h2=>by rw [←jc h1,←jc h2]) hr "list" (.inl rfl) ho (hQ s.toks);have hvv:=cB.1 hd.2 v hv;refine Bi (M:=fun v=>aK W s.heap ρ v u→SeqAt.EqAt B s u .none v.isNone) hvv (fun ru=>?_) (fun m l' e' ru=>?_) hru
  ·obtain rfl:=ru.E;exact SeqAt.EqAt.same .none
  ·refine xq (R.list_at ru e') fun p' ad' z_ z_ z_ j items' ek' ho' z_=>?_;subst j;exact SeqAt.EqAt.list_none ⟨_,ho',rfl,ek',rfl⟩ (by rw [hB];exact ay (bK (by decide) _) hu)
 ·have hd:=a8.1 hd;refine bC (R.dict_at rc e) fun p ad ep hp1 hp2 g hn es ek z_ ho hr hz=>?_;subst g;have q1:(ad==sysModules)=false:=beq_eq_false_iff_ne.mpr (bN (al hs hn));have hT:s.TypeIs (.ref ad) "dict":=⟨_,ho,rfl⟩
  delta contains
  try with_reducible refine a9 ?_
  refine af (wpAny_specialOf hT slot_dict_contains.lookup ?_);rw [if_neg (by rw [beq_builtin_none];exact b0)];refine af (wpAny_callSpecialUnlessNone?_slot (name:=Str.ofString "__contains__") hT slot_dict_contains
   (wpAny_call_entry slot_dict_contains hT entry_dict_contains ?_ (args_dict_contains _ _)))
  show wpAny _ _ (dictGet ad x >>=_) _ _ s;subst hp1;refine af (jq (Hg hu) R ep e hd.1 (aF hd.2) ra (fun v b t hg hrb=>?_) fun t hg=>?_)
  ·rw [hg] at hQ;exact ak ⟨_,rfl,wpAny_truthy_bool (hQ t)⟩
  ·rw [hg] at hQ;exact af (wpAny_pendingKey_other q1 (ak ⟨_,rfl,wpAny_truthy_bool (hQ t)⟩))
theorem xK{f:Int→Int→Bool}{r:Bool}(ra:aK W h ρ a x)(rb:aK W h ρ b y)(hc:FJ f a b=some r):∃i j t u,x=.int i t∧y=.int j u∧r=f i j:=by
 refine V.intU (M:=fun a=>aK W h ρ a x→_) (f:=fun a=>FJ f a b=some r) hc (fun i hc ra=>?_) ca (fun z_=>ca) (fun z_=>ca) (fun z_=>ca) (fun z_=>ca) (fun z_=>ca) ra;refine V.intU (M:=fun b=>aK W h ρ b y→_) (f:=fun b=>FJ f (.int i) b=some r) hc (fun j hc rb=>?_) ca (fun z_=>ca) (fun z_=>ca) (fun z_=>ca) (fun z_=>ca) (fun z_=>ca) rb;refine xe ra.E fun t q=>?_;subst q;refine xe rb.E fun u w=>?_;subst w;exact ⟨i,j,t,u,rfl,rfl,(aX hc).symm⟩
theorem EW{r f:Bool}{M:V→Prop}(h:BJ f b=some r)(k:f=r→M .none):M b:=by
 induction b using V.ind with
 | h0=>exact k (aX h)
 | _=>exact ca h
theorem AJ{op:CU}{r:Bool}(hs:sysModules<W.h₀.objs.size)(hu:A.units+20<cLine)(R:bJ W s.heap ρ σ)(ra:aK W s.heap ρ a x)(rb:aK W s.heap ρ b y)(h:ml op σ a b=some r)(hQ:Q (.bool r) σ) :
  wpAny (model W.prog W.w) A (compareOp (q7 op) x y) (ci W ρ s Q) E s:=by
 have fin:ci W ρ s Q (.bool r) s:=ci.here R (.bool r) hQ;have fin':∀t,ci W ρ s Q (.bool r) {s with toks:=t}:=fun t=>ci.tok R t (.bool r) hQ
 induction op with
 | eq=>exact GR hs hu R ra rb h fin
 | ne =>
  refine bG (bR.mp h) fun q hq z=>?_;subst z;exact Hi hu R ra rb hq fin
 | isIn =>
  exact af (EL hs hu R ra rb h fun t=>ak (fin' t))
 | notIn =>
  refine bG (bR.mp h) fun q hq v=>?_;subst v;exact af (EL hs hu R ra rb hq fun t=>ak (fin' t))
 | isNone =>
  refine EW (M:=fun b=>aK W s.heap ρ b y→wpAny _ _ (compareOp (q7 .isNone) x y) _ _ _) h (fun h rb=>?_) rb;subst h;obtain rfl:=rb.E;exact wpAny_is_plain (rG ra) (by rw [jc ra];exact fin)
 | notNone =>
  refine EW (M:=fun b=>aK W s.heap ρ b y→wpAny _ _ (compareOp (q7 .notNone) x y) _ _ _) h (fun h rb=>?_) rb;subst h;obtain rfl:=rb.E;exact wpAny_isNot_plain (rG ra) (by rw [jc ra];exact fin)
 | lt =>
  refine mZ (xK (f:=fun x y=>decide (x<y)) ra rb h) fun i j t u p n m=>?_;subst p;subst n;subst m;exact PyProof.Rows.lt_int fin
 | le =>
  refine mZ (xK (f:=fun x y=>decide (x≤y)) ra rb h) fun i j t u k g e=>?_;subst k;subst g;subst e;exact PyProof.Rows.le_int fin
 | gt =>
  refine mZ (xK (f:=fun x y=>decide (y<x)) ra rb h) fun i j t u d c X=>?_;subst d;subst c;subst X;exact PyProof.Rows.gt_int fin
 | ge =>
  refine mZ (xK (f:=fun x y=>decide (y≤x)) ra rb h) fun i j t u Y Z U=>?_;subst Y;subst Z;subst U;exact PyProof.Rows.ge_int fin
set_option tactic.hygienic true in
theorem tq{r:Bool}{P:Bool→Shared→Prop}(R:bJ W s.heap ρ σ)(ra:aK W s.heap ρ a x)(h:vr σ a=some r)(hQ:∀t,P r {s with toks:=t}) :
  wpAny (model W.prog W.w) A (truthy x) P E s:=by
 refine CF (M:=fun a r=>aK W s.heap ρ a x→(∀t,P r {s with toks:=t})→wpAny _ _ (truthy x) _ _ _) h (fun ra hQ=>?_) (fun b ra hQ=>?_) (fun n l e hb ra hQ=>?_) ra hQ
 ·obtain rfl:=ra.E;exact truthy_none (hQ s.toks)
 ·obtain rfl:=ra.E;exact wpAny_truthy_bool (hQ s.toks)
 ·refine bt (R.list_at ra e) fun p ad ep hp1 hp2 q items ek ho hr hz=>?_;subst q;refine wpAny_truthy_list (items:=items) ⟨_,ho,rfl,ek,rfl⟩ (by rw [hz];unfold big at hb;omega) ?_;rw [show items.isEmpty=l.isEmpty by rcases l with _ | ⟨v,l⟩<;>(show decide (items.size=0)=_;rw [hz];rfl)];exact hQ _
end
section
variable{E:Value→Shared→Prop}{c:V}
theorem xU{i:Int}(h:DT l i=some v):∃j,seqIndex? i l.length=some j∧l[j]?=some v:=by
 unfold DT at h;unfold seqIndex?
 split at h
 ·rename_i h0
  have hl:=(aE.mp h).1;have e:(if i<0 then i+(l.length:Int) else i)=i:=if_neg (Int.not_lt.mpr h0);have e2:(decide (0≤i)&&decide (i<(l.length:Int)))=true:=by rw [Bool.and_eq_true,decide_eq_true_eq,decide_eq_true_eq];exact ⟨h0,(Int.toNat_lt h0).mp hl⟩
  refine ⟨i.toNat,?_,h⟩;simp only [e,e2,if_true]
 ·rename_i h0
  split at h
  ·rename_i h1
   have hl:=(aE.mp h).1;have e:(if i<0 then i+(l.length:Int) else i)=i+l.length:=if_pos (Int.not_le.mp h0);have e2:(decide (0≤i+(l.length:Int))&&decide (i+(l.length:Int)<(l.length:Int)))=true:=by rw [Bool.and_eq_true,decide_eq_true_eq,decide_eq_true_eq];exact ⟨h1,HY h0⟩
   refine ⟨(i+l.length).toNat,?_,h⟩;simp only [e,e2,if_true]
  ·exact ca h
theorem fF(r:aZ W h ρ l items.toList){j:Nat}(e:l[j]?=some v):∃u,items[j]?=some u∧aK W h ρ v u:=by
 refine bG (r.get e) fun u h1 h2=>?_;exact ⟨u,by rw [←Array.getElem?_toList];exact h1,h2⟩
theorem Bb{ns:List Int}(r:IntsAre vs ns):∀{j:Nat} {i:Int},ns[j]?=some i→∃t,vs[j]?=some (.int i t):=by
 induction r with
 | nil=>exact fun e=>ca e
 | cons k t _ ih =>
  intro j i e;rcases j with _ | j
  ·cases e;exact ⟨t,rfl⟩
  ·exact ih (j:=j) e
theorem sA{P:Value→Shared→Prop}{ad:Addr}{i:Int}{t:Tok}{j:Nat}{u:Value}(hl:s.heap.IsList ad items)(hz:items.size<2^40)(hj:seqIndex? i items.size=some j)(hu:items[j]?=some u)(h:P u s) :
  wpAny (model W.prog W.w) A (getItem (.ref ad) (.int i t)) P E s:=by
 unfold seqIndex? at hj;refine Or.elim (Classical.em (i<0)) (fun h0=>?_) (fun h0=>?_)
 ·rw [if_pos h0] at hj;simp only at hj
  split at hj
  ·rename_i hc
   rw [Bool.and_eq_true,decide_eq_true_eq] at hc;cases hj;exact wpAny_getItem_list_neg hl h0 (by omega) (by omega) hu h
  ·exact ca hj
 ·rw [if_neg h0] at hj;simp only at hj
  split at hj
  ·rename_i hc
   simp only [Bool.and_eq_true,decide_eq_true_eq] at hc;cases hj;exact wpAny_getItem_list hl (by omega) (by omega) hu h
  ·exact ca hj
theorem yU{i:Int}{j:Nat}(hz:n<big)(hj:seqIndex? i n=some j): -(2^63)≤i∧i<2^63:=by
 unfold big at hz;unfold seqIndex? at hj
 split at hj<;>simp only at hj<;>split at hj<;>first | cases hj | skip
 all_goals rename_i hc';simp only [Bool.and_eq_true,decide_eq_true_eq] at hc';omega
set_option tactic.hygienic true in
theorem DC(hs:sysModules<W.h₀.objs.size)(hu:A.units+20<cLine)(R:bJ W s.heap ρ σ)(ra:aK W s.heap ρ a x)(rb:aK W s.heap ρ b y)(h:kc σ a b=some c)(hQ:Q c σ) :
  wpAny (model W.prog W.w) A (getItem x y) (ci W ρ s Q) E s:=by
 refine rq (M:=fun a b=>aK W s.heap ρ a x→aK W s.heap ρ b y→wpAny (model W.prog W.w) A (getItem x y) (ci W ρ s Q) E s) h (fun l i hz h ra rb=>?_) (fun l i hi h ra rb=>?_) (fun n l i e hz h ra rb=>?_) (fun n l i e hd h ra rb=>?_) ra rb
 ·refine bG (xU h) fun j hj hv=>?_;refine xe rb.E fun t q=>?_;subst q;refine cp ra.E fun ad o items ek z ho hc hdat hx hr=>?_;subst z;refine bG (fF hr hv) fun u hu' ru=>?_;have eK:items.size=l.length:=by rw [←bu,hr.length]
  have hb:=yU hz hj;exact PyProof.Rows.getItem_tuple ⟨o,ho,hc,ek,hdat⟩ hb.1 hb.2 (by rw [eK];exact hj) hu' (ci.here R ru hQ)
 ·refine bG (bR.mp h) fun k hk r=>?_;subst r;refine xe rb.E fun t m=>?_;subst m;refine dk ra.E fun ad o items ek g ho hc hdat hr=>?_;subst g;refine xe (Bb hr hk) fun u hu'=>?_;exact wpAny_getItem_list (items:=items) ⟨o,R.top _ _ ho,hc,ek,hdat⟩ hi.1 (by omega) (by rw [←Array.getElem?_toList];exact hu') (ci.here R (.int _ _) hQ)
 ·refine bG (xU h) fun j hj hv=>?_;refine bt (R.list_at ra e) fun p ad ep hp1 hp2 f items ek ho hr eK=>?_;subst f;refine bG (fF hr hv) fun u hu' ru=>?_;refine xe rb.E fun t d=>?_;subst d;exact sA ⟨_,ho,rfl,ek,rfl⟩ (by rw [eK];exact bf hz (by decide)) (by rw [eK];exact hj) hu' (ci.here R ru hQ)
 ·have hd:=a8.1 hd;refine bC (R.dict_at ra e) fun p ad ep hp1 hp2 X hn es ek z_ ho hr hz=>?_;subst X;have hT:s.TypeIs (.ref ad) "dict":=⟨_,ho,rfl⟩
  unfold getItem
  try with_reducible refine a9 ?_
  refine af (wpAny_sequenceKey hT (by decide) ?_);refine af (wpAny_callSpecial?_slot (name:=Str.ofString "__getitem__") hT slot_dict_getitem
   (wpAny_call_entry slot_dict_getitem hT entry_dict_getitem ?_ (args_dict_getitem _ _)))
  show wpAny _ _ (dictGet ad y >>=_) _ _ s;subst hp1;refine af (jq (Hg hu) R ep e hd.1 (aF hd.2) rb (fun v b t hg hrb=>?_) fun t hg=>?_)
  ·rw [hg] at h;cases h;exact ak ⟨_,rfl,ak (ci.tok R t hrb hQ)⟩
  ·rw [hg] at h;exact ca h
noncomputable def V.seqish(σ:Hp):V→Bool
 | .tup _ | .ints _=>true
 | .obj n=>(pK σ[n]? (fun z_=>some ()) fun z_ z_=>some ()).isSome
 | _=>false
set_option tactic.hygienic true in
theorem A7{P:Bool→Shared→Prop}(R:bJ W s.heap ρ σ)(ra:aK W s.heap ρ a x)(h:a.seqish σ=true)(hQ:P false s):wpAny (model W.prog W.w) A (getitemInPython x) P E s:=by
 have key:∀{T id:String},s.TypeIs x T→typeLookup (.type T) (Str.ofString "__getitem__")=pure (some (.builtin id))→wpAny (model W.prog W.w) A (getitemInPython x) P E s:=fun hT hl=>by
  rw [getitemInPython_of_ne hT.not_modules];refine af (wpAny_specialOf hT hl ?_);exact ak hQ
 induction a using V.ind with
 | ht l _ =>
  refine cp ra.E fun ad o items ek q ho hc hdat hx hr=>?_;subst q;exact key ⟨o,ho,hc⟩ slot_tuple_getitem.lookup
 | h5 l =>
  refine dk ra.E fun ad o items ek y ho hc hdat hr=>?_;subst y;exact key ⟨o,R.top _ _ ho,hc⟩ slot_list_getitem.lookup
 | h4 n =>
  refine (Option.isSome_iff_exists.1 h).elim fun z_ h=>de h (fun l e z_=>?_) fun l i e z_=>?_
  ·refine bt (R.list_at ra e) fun p ad ep hp1 hp2 z items ek ho hr eK=>?_;subst z;exact key ⟨_,ho,rfl⟩ slot_list_getitem.lookup
  ·refine bC (R.dict_at ra e) fun p ad ep hp1 hp2 u hn es ek z_ ho hr hz=>?_;subst u;exact key ⟨_,ho,rfl⟩ slot_dict_getitem.lookup
 | _=>exact bF h
theorem uu(h:kc σ a b=some c):a.seqish σ=true :=
 rq (M:=fun a z_=>a.seqish σ=true) h (fun z_ z_ z_ z_=>rfl) (fun z_ z_ z_ z_=>rfl) (fun n l i e z_ z_=>congrArg Option.isSome (cZ e)) (fun n l i e z_ z_=>congrArg Option.isSome (eO e))
end
noncomputable def HK:BM→String | .append | .extend | .lpop=>"list" | .get | .setdefault | .dpop=>"dict"
noncomputable def HH:BM→String | .append=>"append" | .extend=>"extend" | .lpop=>"pop" | .get=>"get" | .setdefault=>"setdefault" | .dpop=>"pop"
noncomputable def yx:BM→String | .append=>"list.append" | .extend=>"list.extend" | .lpop=>"list.pop" | .get=>"dict.get" | .setdefault=>"dict.setdefault" | .dpop=>"dict.pop"
section
variable{E:Value→Shared→Prop}{c:V}
theorem AF(b:BM):PlainAttrs (HK b):=by cases b<;>first | exact F.plainAttrs_list | exact F.plainAttrs_dict
theorem Db(b:BM):Slot (HK b) (Str.ofString (HH b)) (yx b):=by
 cases b
 ·exact F.slot_list_append
 ·exact F.slot_list_extend
 ·exact F.slot_list_pop
 ·exact F.slot_dict_get
 ·exact F.slot_dict_setdefault
 ·exact F.slot_dict_pop
theorem Dc(b:BM):typeOf (.builtin (yx b))=pure (.type "method_descriptor"):=by
 cases b
 ·exact F.type_list_append
 ·exact F.type_list_extend
 ·exact F.type_list_pop
 ·exact F.type_dict_get
 ·exact F.type_dict_setdefault
 ·exact F.type_dict_pop
set_option tactic.hygienic true in
theorem GJ{b:BM}(R:bJ W s.heap ρ σ)(ra:aK W s.heap ρ a x)(h:F2 b σ a=true):s.TypeIs x (HK b)∧∀ad,x=.ref ad→∃ob,s.heap.get? ad=some ob∧ob.dict=none:=by
 refine V.objU (M:=fun a=>aK W s.heap ρ a x→_) (f:=fun a=>F2 b σ a=true) h (fun n h ra=>?_) bF (fun z_=>bF) (fun z_=>bF) (fun z_=>bF) (fun z_=>bF) (fun z_=>bF) ra;have L:∀{l},σ[n]?=some (.list l)→s.TypeIs x "list"∧∀ad,x=.ref ad→∃ob,s.heap.get? ad=some ob∧ob.dict=none:=fun e=>by
  refine bt (R.list_at ra e) fun p ad ep hp1 hp2 q items ek ho hr hz=>?_;subst q;exact ⟨⟨_,ho,rfl⟩,fun ad' e'=>by cases e';exact ⟨_,ho,rfl⟩⟩
 have D:∀{l i},σ[n]?=some (.dict l i)→s.TypeIs x "dict"∧∀ad,x=.ref ad→∃ob,s.heap.get? ad=some ob∧ob.dict=none:=fun e=>by
  refine bC (R.dict_at ra e) fun p ad ep hp1 hp2 w hn es ek z_ ho hr hz=>?_;subst w;exact ⟨⟨_,ho,rfl⟩,fun ad' e'=>by cases e';exact ⟨_,ho,rfl⟩⟩
 have L':=fun (h:(pK σ[n]? (fun z_=>some ()) fun z_ z_=>none).isSome=true)=>(Option.isSome_iff_exists.1 h).elim fun z_ h=>de h (fun l e z_=>L e) fun z_ z_ z_ h=>ca h;have D':=fun (h:(pK σ[n]? (fun z_=>none) fun z_ z_=>some ()).isSome=true)=>(Option.isSome_iff_exists.1 h).elim fun z_ h=>de h (fun z_ z_ h=>ca h) fun l i e z_=>D e
 induction b<;>first | exact L' h | exact D' h
theorem vw{l':List V}{ad:Addr}{ek:Nat}{f:Array Value→Array Value}(R:bJ W s.heap ρ σ)(ep:ρ[n]?=some p)(hp1:p.1=ad)(hp2:p.2=ad)
  (ho:s.heap.get? ad=some ⟨.type "list",none,.seq items ek,#[]⟩) (hr:aZ W s.heap ρ l' (f items).toList) (t:Nat) :
  bg W s.heap (s.heap.update ad (Obj.mapSeq f))∧bp gF ρ s ρ {s with heap:=s.heap.update ad (Obj.mapSeq f),toks:=t}∧bJ W (s.heap.update ad (Obj.mapSeq f)) ρ (σ.set n (.list l')):=by
 subst hp1;have k:bg W s.heap (s.heap.update p.1 (Obj.mapSeq f)):=R.tupkeep ep (.inl rfl) (bi ..);refine xe (Obj.data_mapSeq (o:=⟨.type "list",none,.seq items ek,#[]⟩) rfl f) fun q hq=>?_;have fr:(Obj.mapSeq f ⟨.type "list",none,.seq items ek,#[]⟩).isFreed=false:=Obj.isFreed_of_seq hq;have ob:(s.heap.update p.1 (Obj.mapSeq f)).get? p.1=some ⟨.type "list",none,.seq (f items) q,#[]⟩:=by
  rw [Heap.get?_update_self _ ho fr];dsimp only [Obj.mapSeq] at hq ⊢
  simpa using hq
 exact ⟨k,kA ep (.inl rfl) (bi ..),R.upd (o':=.list l') ep (.inl rfl) (bi ..) ⟨hp2,_,q,ob,hr.mono k (aB _)⟩⟩
theorem mX{l':List V}{ad:Addr}{ek:Nat}{f:Array Value→Array Value}{P:K1}{r:V}{v:Value}(R:bJ W s.heap ρ σ)(ep:ρ[n]?=some p)(hp1:p.1=ad)(hp2:p.2=ad)
  (ho:s.heap.get? ad=some ⟨.type "list",none,.seq items ek,#[]⟩) (hr:aZ W s.heap ρ l' (f items).toList) {t:Nat}
  (rv:∀h',bg W s.heap h'→aK W h' ρ r v) (h:P r (σ.set n (.list l'))):ci W ρ s P v {s with heap:=s.heap.update ad (Obj.mapSeq f),toks:=t}:=by
 refine ni (vw R ep hp1 hp2 ho hr t) fun k S R'=>?_;exact ci.upd S R' (rv _ k) h
theorem wY:∀{l:List V} {vs:List Value} {w:V},aZ W h ρ l vs→l.getLast?=some w→∃u,vs[vs.length-1]?=some u∧aK W h ρ w u:=by
 intro l vs w r e;have hl:l.length≠0:=by intro h;have:l=[]:=List.length_eq_zero_iff.mp h;subst this;exact ca e
 rw [List.getLast?_eq_getElem?] at e;refine bG (r.get e) fun u h1 h2=>?_;exact ⟨u,by rw [r.length];exact h1,h2⟩
theorem qh(r:aZ W h ρ l vs):aZ W h ρ l.dropLast (vs.eraseIdx (vs.length-1)):=by
 rw [List.dropLast_eq_take];have:vs.eraseIdx (vs.length-1)=vs.take (vs.length-1):=by
  rw [List.eraseIdx_eq_take_drop_succ];refine Or.elim (Nat.eq_zero_or_pos vs.length) (fun h=>?_) (fun h=>?_)
  ·have:vs=[]:=List.length_eq_zero_iff.mp h;subst this;rfl
  ·rw [Nat.sub_add_cancel h,List.drop_length,bn]
 rw [this,r.length];exact r.take _
theorem mz(hu:A.units+20<cLine):A.in1.units+8<cLine:=Hg hu
section
variable{w:V}{u uk:Value}
section
variable{lx y:List V}
theorem yv(R:bJ W s.heap ρ σ)(ra:aK W s.heap ρ (.obj n) x)(e:σ[n]?=some (.list lx))(rw:aK W s.heap ρ w u)(hb:lx.length<big)(h:Q .none (σ.set n (.list (lx++[w])))):wpAny (model W.prog W.w) A (call (.builtin "list.append") [x,u]) (ci W ρ s Q) E s:=by
 refine bt (R.list_at ra e) fun p ad ep hp1 hp2 q items ek ho hr hz=>?_;subst q;exact call_meets F.slot_list_append ⟨_,ho,rfl⟩ F.entry_list_append (F.args_list_append_2 _ _) (PySem.list_append ad items ek _ (by rw [hz];exact gJ hb)) ⟨ho,mX (t:=s.toks) R ep hp1 hp2 ho (by rw [Array.toList_push];exact hr.append (.cons rw .nil)) (fun z_ z_=>.none) h⟩
theorem yL(R:bJ W s.heap ρ σ)(ra:aK W s.heap ρ (.obj n) x)(e:σ[n]?=some (.list lx))(rw:aK W s.heap ρ w u)(hy:fP σ w=some y)(hb:lx.length+y.length<big)(h:Q .none (σ.set n (.list (lx++y)))):wpAny (model W.prog W.w) A (call (.builtin "list.extend") [x,u]) (ci W ρ s Q) E s:=by
 refine bt (R.list_at ra e) fun p ad ep hp1 hp2 q items ek ho hr hz=>?_;subst q;have hb:=gJ hb;have h1:items.size≤sizeLine:=by rw [hz];exact am (aW _ _) hb
 refine mQ (M:=fun w=>aK W s.heap ρ w u→wpAny _ _ (call (.builtin "list.extend") [.ref ad,u]) _ _ _) hy (fun rw=>?_) (fun m e' rw=>?_) rw
 ·refine cp rw.E fun ad' o items' ek' z ho' hc hdat hx hr'=>?_;subst z;have h2:items.size+items'.size≤sizeLine:=by rw [hz,←bu (xs:=items'),hr'.length];exact hb
  obtain ⟨cl,dd,dt,sl⟩:=o;simp only at hc hdat hx;refine ni hx fun hx1 hx2 hx3=>?_;subst hc hdat hx1 hx2;exact call_meets F.slot_list_extend ⟨_,ho,rfl⟩ F.entry_list_extend (F.args_list_extend_2 _ _) (AutoSeq1.list_extend_list_tuple_0 ad items ek ad' items' ek' (extend_door h2) h1 (bD h2)) ⟨ho,ho',mX (t:=s.toks) (f:=fun x=>x++items') R ep hp1 hp2 ho (by rw [Array.toList_append];exact hr.append hr') (fun z_ z_=>.none) h⟩
 ·refine bt (R.list_at rw e') fun p' ad' ep' hp1' hp2' v items' ek' ho' hr' hz'=>?_;subst v;have h2:items.size+items'.size≤sizeLine:=by rw [hz,hz'];exact hb
  exact call_meets F.slot_list_extend ⟨_,ho,rfl⟩ F.entry_list_extend (F.args_list_extend_2 _ _) (AutoSeq1.list_extend_list_list_0 ad items ek ad' items' ek' (extend_door h2) h1 (bD h2)) ⟨ho,ho',mX (t:=s.toks) (f:=fun x=>x++items') R ep hp1 hp2 ho (by rw [Array.toList_append];exact hr.append hr') (fun z_ z_=>.none) h⟩
theorem DJ(R:bJ W s.heap ρ σ)(ra:aK W s.heap ρ (.obj n) x)(e:σ[n]?=some (.list lx))(hb:lx.length<big)(hw:lx.getLast?=some w)(h:Q w (σ.set n (.list lx.dropLast))):wpAny (model W.prog W.w) A (call (.builtin "list.pop") [x]) (ci W ρ s Q) E s:=by
 refine bt (R.list_at ra e) fun p ad ep hp1 hp2 q items ek ho hr hz=>?_;subst q;have hT:s.TypeIs (.ref ad) "list":=⟨_,ho,rfl⟩
 refine bG (wY hr hw) fun u hu' ru=>?_;have hu2:items[items.size-1]?=some u:=by rw [←Array.getElem?_toList,←bu];exact hu'
 have hpos:0<items.size:=by
  refine Or.elim (Nat.eq_zero_or_pos items.size) (fun h=>?_) (fun h=>?_)
  ·have:items=#[]:=by simpa using h
   subst this;exact ca hu2
  ·exact h
 refine call_meets F.slot_list_pop hT F.entry_list_pop (F.args_list_pop_1 _) (MeetsSeq.list_pop_last ad items ek u hu2 (by rw [hz];exact gJ hb)) ⟨ho,?_⟩;refine mX (t:=s.toks) (f:=fun xs=>xs.eraseIdxIfInBounds (items.size-1)) R ep hp1 hp2 ho ?_ (fun z_ k=>ru.mono k (aB _)) h;have e1:(items.eraseIdxIfInBounds (items.size-1)).toList=items.toList.eraseIdx (items.toList.length-1):=by
  have hlt:items.size-1<items.size:=Nat.sub_lt hpos (by decide);rw [bu];simp [Array.eraseIdxIfInBounds,hlt]
 rw [e1];exact qh hr
end
variable{lx:List (V×V)}{wd:V}{d:Value}
theorem Dr(hs:sysModules<W.h₀.objs.size)(hu:A.units+20<cLine)(R:bJ W s.heap ρ σ)(ra:aK W s.heap ρ (.obj n) x)(e:σ[n]?=some (.dict lx i))(hk:k.key=true)(hd:k.dep≤6)(rk:aK W s.heap ρ k uk)(h:Q ((getD lx k).getD .none) σ):wpAny (model W.prog W.w) A (call (.builtin "dict.get") [x,uk]) (ci W ρ s Q) E s:=by
 refine bC (R.dict_at ra e) fun p ad ep hp1 hp2 q hn es ek z_ ho hr hz=>?_;subst q;have hT:s.TypeIs (.ref ad) "dict":=⟨_,ho,rfl⟩
 subst hp1;have q1:(p.1==sysModules)=false:=beq_eq_false_iff_ne.mpr (bN (al hs hn));refine wpAny_call_entry F.slot_dict_get hT F.entry_dict_get ?_ (F.args_dict_get_2 _ _);show wpAny _ _ (dictGet p.1 uk >>=_) _ _ s;refine af (jq (mz hu) R ep e hk hd rk (fun v b t hg hrb=>?_) fun t hg=>?_)
 ·rw [hg] at h;exact ak ⟨_,rfl,ci.tok R t hrb h⟩
 ·rw [hg] at h;exact af (wpAny_missed_other q1 (ak ⟨.none,rfl,ci.tok R t .none h⟩))
theorem Ds(hs:sysModules<W.h₀.objs.size)(hu:A.units+20<cLine)(R:bJ W s.heap ρ σ)(ra:aK W s.heap ρ (.obj n) x)(e:σ[n]?=some (.dict lx i))(hk:k.key=true)(hd:k.dep≤6)(rk:aK W s.heap ρ k uk)(rw:aK W s.heap ρ w u)(h:Q ((getD lx k).getD w) σ):wpAny (model W.prog W.w) A (call (.builtin "dict.get") [x,uk,u]) (ci W ρ s Q) E s:=by
 refine bC (R.dict_at ra e) fun p ad ep hp1 hp2 q hn es ek z_ ho hr hz=>?_;subst q;have hT:s.TypeIs (.ref ad) "dict":=⟨_,ho,rfl⟩
 subst hp1;have q1:(p.1==sysModules)=false:=beq_eq_false_iff_ne.mpr (bN (al hs hn));refine wpAny_call_entry F.slot_dict_get hT F.entry_dict_get ?_ (F.args_dict_get_3 _ _ _);show wpAny _ _ (dictGet p.1 uk >>=_) _ _ s;refine af (jq (mz hu) R ep e hk hd rk (fun v b t hg hrb=>?_) fun t hg=>?_)
 ·rw [hg] at h;exact ak ⟨_,rfl,ci.tok R t hrb h⟩
 ·rw [hg] at h;exact af (wpAny_missed_other q1 (ak ⟨_,rfl,ci.tok R t rw h⟩))
theorem qH(hs:sysModules<W.h₀.objs.size)(hu:A.units+20<cLine)(R:bJ W s.heap ρ σ)(ra:aK W s.heap ρ (.obj n) x)(e:σ[n]?=some (.dict lx i))(hk:k.key=true)(hd:k.dep≤6)(hb:lx.length<big)(rk:aK W s.heap ρ k uk)(rw:aK W s.heap ρ w u)(h:match getD lx k with | some u=>Q u σ | none=>Q w (σ.set n (fK lx i k w))):wpAny (model W.prog W.w) A (call (.builtin "dict.setdefault") [x,uk,u]) (ci W ρ s Q) E s:=by
 refine bC (R.dict_at ra e) fun p ad ep hp1 hp2 q hn es ek z_ ho hr hz=>?_;subst q;have hT:s.TypeIs (.ref ad) "dict":=⟨_,ho,rfl⟩
 subst hp1;have q1:(p.1==sysModules)=false:=beq_eq_false_iff_ne.mpr (bN (al hs hn));refine wpAny_call_entry F.slot_dict_setdefault hT F.entry_dict_setdefault ?_ (F.args_dict_setdefault_3 _ _ _);refine af ?_;refine af (wpAny_notOrdered_dict hT ?_);refine ak ?_;show wpAny _ _ (if (p.1==sysModules)=true then _ else (dictSetDefault p.1 uk u >>=_)) _ _ s;rw [if_neg (by rw [q1];exact b0)];refine af (mn (mz hu) R ep e hk hd rk rw (by unfold big at hb;exact hb) (fun v b t hg hrb=>?_) fun hg h' t R' S r'=>?_)
 ·rw [hg] at h;exact ak ⟨_,rfl,ci.tok R t hrb h⟩
 ·rw [hg] at h;exact ak ⟨_,rfl,ci.upd S R' r' h⟩
theorem Dk{j:Int}(hs:sysModules<W.h₀.objs.size)(hu:A.units+20<cLine)(R:bJ W s.heap ρ σ)(ra:aK W s.heap ρ (.obj n) x)(e:σ[n]?=some (.dict lx i))(rk:aK W s.heap ρ (.int j) uk)(hb:lx.length<big)(hg:getD lx (.int j)=some w)(h:Q w (σ.set n (pq lx i (.int j)))):wpAny (model W.prog W.w) A (call (.builtin "dict.pop") [x,uk]) (ci W ρ s Q) E s:=by
 refine bC (R.dict_at ra e) fun p ad ep hp1 hp2 q hn es ek z_ ho hr hz=>?_;subst q;have hT:s.TypeIs (.ref ad) "dict":=⟨_,ho,rfl⟩
 subst hp1;refine wpAny_call_entry F.slot_dict_pop hT F.entry_dict_pop ?_ (F.args_dict_pop_2 _ _);refine af ?_;refine af (wpAny_notOrdered_dict hT ?_);have hkp:(keyPart uk).isSome=true:=rk.intU (M:=fun u=>(keyPart u).isSome=true) fun z_=>rfl;refine ak ?_;simp only [hkp,if_true];refine af (ak ?_);skip;refine af (xg (mz hu) R ep e rfl (aS _) rk (by unfold big at hb;exact hb) hg fun en h' t rv R' S=>?_);dsimp only [Option.isNone_some,Bool.false_eq_true,if_false];exact af (wpAny_letGo (ak ⟨en.val,rfl,ci.upd S R' rv h⟩))
end
set_option tactic.hygienic true in
theorem GI{b:BM}{ys:List Value}(hs:sysModules<W.h₀.objs.size)(hu:A.units+20<cLine)(R:bJ W s.heap ρ σ)(ra:aK W s.heap ρ a x)(rl:aZ W s.heap ρ l ys)(h:vF b a l σ Q) :
  wpAny (model W.prog W.w) A (call (.builtin (yx b)) (x::ys)) (ci W ρ s Q) E s:=by
 have one:∀{b:BM} {w:V},aZ W s.heap ρ [w] ys→(∀u,aK W s.heap ρ w u→wpAny (model W.prog W.w) A (call (.builtin (yx b)) [x,u]) (ci W ρ s Q) E s)→wpAny (model W.prog W.w) A (call (.builtin (yx b)) (x::ys)) (ci W ρ s Q) E s :=
  fun {b w} rl k=>rl.consU (M:=fun ys=>wpAny _ _ (call (.builtin (yx b)) (x::ys)) _ _ _) fun u us r rl=>rl.nilU (M:=fun us=>wpAny _ _ (call (.builtin (yx b)) (x::u::us)) _ _ _) (k u r)
 have two:∀{b:BM} {k w:V},aZ W s.heap ρ [k,w] ys→(∀u v,aK W s.heap ρ k u→aK W s.heap ρ w v→wpAny (model W.prog W.w) A (call (.builtin (yx b)) [x,u,v]) (ci W ρ s Q) E s)→wpAny (model W.prog W.w) A (call (.builtin (yx b)) (x::ys)) (ci W ρ s Q) E s :=
  fun {b k w} rl g=>rl.consU (M:=fun ys=>wpAny _ _ (call (.builtin (yx b)) (x::ys)) _ _ _) fun u us r rl=>rl.consU (M:=fun us=>wpAny _ _ (call (.builtin (yx b)) (x::u::us)) _ _ _) fun v vs r' rl=>rl.nilU (M:=fun vs=>wpAny _ _ (call (.builtin (yx b)) (x::u::v::vs)) _ _ _) (g u v r r')
 exact Da (M:=fun b a l=>aK W s.heap ρ a x→aZ W s.heap ρ l ys→wpAny _ _ (call (.builtin (yx b)) (x::ys)) _ _ _) h
  (fun n y w e hb h ra rl=>one (b:=.append) rl fun u r=>yv R ra e r hb h)
  (fun n y w z e hz hb h ra rl=>one (b:=.extend) rl fun u r=>yL R ra e r hz hb h)
  (fun n y w e hb hw h ra rl=>rl.nilU (M:=fun ys=>wpAny _ _ (call (.builtin "list.pop") (x::ys)) _ _ _) (DJ R ra e hb hw h))
  (fun n y i k e hk hd h ra rl=>one (b:=.get) rl fun u r=>Dr hs hu R ra e hk hd r h)
  (fun n y i k w e hk hd h ra rl=>two (b:=.get) rl fun u v r r'=>Ds hs hu R ra e hk hd r r' h)
  (fun n y i k w e hk hd hb h ra rl=>two (b:=.setdefault) rl fun u v r r'=>qH hs hu R ra e hk hd hb r r' h)
  (fun n y i j w e hb hg h ra rl=>one (b:=.dpop) rl fun u r=>Dk hs hu R ra e r hb hg h) ra rl
end
section
variable{E:Value→Shared→Prop}
noncomputable abbrev gG(h:Heap)(d:Addr)(es:Array DictEntry)(ep:Nat):Prop:=h.get? d=some ⟨.type "dict",none,.dict es ep,#[]⟩
theorem uV{d:Addr}{es:Array DictEntry}{ep:Nat}{Q:Value→Shared→Prop}(hd:(d==sysModules)=false)(ho:gG s.heap d es ep)
  (hQ:Q (.ref s.heap.objs.size) {s with heap:=s.heap.push {cls:=.type "dict_keyiterator",data:=.fields #[.ref d,.int 0 0,.int es.size 0,.int ep 0]}}) :
  wpAny (model W.prog W.w) A (pyIter (.ref d)) Q E s:=by
 have hT:s.TypeIs (.ref d) "dict":=⟨_,ho,rfl⟩
 refine wpAny_pyIter_slot hT F.slot_dict_iter (wpAny_call_entry F.slot_dict_iter hT F.entry_dict_iter ?_ (F.args_dict_iter_1 _));refine af ?_;refine af (wpAny_notOrdered_dict hT ?_);refine ak ?_;show wpAny _ _ (Builtin.Dict.showsAll d >>=_) _ _ s;refine af (gn (fun q=>absurd q (by rw [hd];simp)) fun z_=>ak ?_);refine af (wpAny_dictEntries ho rfl (af (wpAny_dictEpoch ho rfl ?_)));exact af (wpAny_newObj_type (ak ⟨_,rfl,"dict_keyiterator",_,⟨_,aQ _ rfl,rfl⟩,F.slot_dict_keyiterator_next.lookup,hQ⟩))
theorem uU{it d:Addr}{ep:Nat}{es:Array DictEntry}{e:DictEntry}{Q:Option Value→Shared→Prop}(hit:s.heap.IsKeyIter it d i es.size ep)
  (hod:gG s.heap d es ep) (hx:es[i]?=some e)
  (hQ:∀h',h'.IsKeyIter it d (i+1) es.size ep→Heap.SameBut it s.heap h'→Q (some e.key) {s with heap:=h'}) :
  wpAny (model W.prog W.w) A (pyNext (.ref it)) Q E s:=by
 refine f7 (id hit) fun o ho hc hd=>?_;refine af (wpAny_attempt (wpAny_callSpecial?_slot (name:=Str.ofString "__next__") hit.typeIs F.slot_dict_keyiterator_next
  (wpAny_call_entry F.slot_dict_keyiterator_next hit.typeIs F.entry_dict_keyiterator_next ?_ (F.args_dict_keyiterator_next_1 _))))
 refine af (ak (af (af ?_)))
 first | refine af (wpAny_typeNameOfWhole_keyiter hit.typeIs (ak ?_)) | refine af (wpAny_typeNameOf_keyiter hit.typeIs (ak ?_))
 refine af (wpAny_fieldsOf ho hd ?_);have hown:Builtin.Dict_items.ownsTuple "dict_keyiterator"=false:=by decide
 rw [hown,if_neg b0];show wpAny _ _ (if (Value.ref d==Value.none)=true then _ else _) _ _ s;rw [if_neg (show ¬((Value.ref d==Value.none)=true) from b0)];refine af (ak (af (wpAny_dictEntries hod rfl ?_)));rw [if_neg (by simp)];refine af (ak (af (wpAny_dictEpoch hod rfl ?_)));rw [if_neg (by simp)];refine ak ?_;dsimp only;rw [if_neg (Int.not_lt.2 (Int.natCast_nonneg i)),Int.toNat_natCast,hx];refine af ?_
 first | refine af (wpAny_typeNameOfWhole_keyiter hit.typeIs (ak ?_)) | refine af (wpAny_typeNameOf_keyiter hit.typeIs (ak ?_))
 refine af (wpAny_isOneOf_keyiter hit.typeIs ?_);show wpAny _ _ (setField (.ref it) 1 (rawInt ((i:Int)+1)) >>=_) _ _ s;refine af (wpAny_setField ho hd (by simp) ?_);have hit':(s.heap.update it (Obj.mapFields (·.setIfInBounds 1 (rawInt ((i:Int)+1))))).IsKeyIter it d (i+1) es.size ep :=
  ⟨_,Heap.get?_update_self _ ho (Obj.isFreed_of_fields (Obj.data_mapFields hd _)),(Obj.cls_mapFields ..).trans hc,by rw [Obj.data_mapFields hd];simp [rawInt]⟩
 refine af (a9 ?_);refine af (wpAny_isOneOf_keyiter (s:={s with heap:=s.heap.update it (Obj.mapFields (·.setIfInBounds 1 (rawInt ((i:Int)+1))))}) hit'.typeIs ?_);exact ak (ak ⟨_,rfl,ak (hQ _ hit' (bi ..))⟩)
theorem yc{it d:Addr}{ep:Nat}{es:Array DictEntry}{Q:Option Value→Shared→Prop}(hh:A.handled=none)(hit:s.heap.IsKeyIter it d i es.size ep)
  (hod:gG s.heap d es ep) (hx:es[i]?=none)
  (hQ:∀h',Heap.ExtBut it s.heap h'→s.heap.objs.size≤h'.objs.size→Q none {s with heap:=h'}):wpAny (model W.prog W.w) A (pyNext (.ref it)) Q E s:=by
 refine f7 (id hit) fun o ho hc hd=>?_;refine af (wpAny_attempt (wpAny_callSpecial?_slot (name:=Str.ofString "__next__") hit.typeIs F.slot_dict_keyiterator_next
  (wpAny_call_entry F.slot_dict_keyiterator_next hit.typeIs F.entry_dict_keyiterator_next ?_ (F.args_dict_keyiterator_next_1 _))))
 refine af (ak (af (af ?_)))
 first | refine af (wpAny_typeNameOfWhole_keyiter hit.typeIs (ak ?_)) | refine af (wpAny_typeNameOf_keyiter hit.typeIs (ak ?_))
 refine af (wpAny_fieldsOf ho hd ?_);have hown:Builtin.Dict_items.ownsTuple "dict_keyiterator"=false:=by decide
 rw [hown,if_neg b0];show wpAny _ _ (if (Value.ref d==Value.none)=true then _ else _) _ _ s;rw [if_neg (show ¬((Value.ref d==Value.none)=true) from b0)];refine af (ak (af (wpAny_dictEntries hod rfl ?_)));rw [if_neg (by simp)];refine af (ak (af (wpAny_dictEpoch hod rfl ?_)));rw [if_neg (by simp)];refine ak ?_;dsimp only;rw [if_neg (Int.not_lt.2 (Int.natCast_nonneg i)),Int.toNat_natCast,hx];refine af ?_
 first | refine af (wpAny_typeNameOfWhole_keyiter hit.typeIs (ak ?_)) | refine af (wpAny_typeNameOf_keyiter hit.typeIs (ak ?_))
 show wpAny _ _ (setField (.ref it) 0 .none >>=_) _ _ s;refine af (wpAny_setField ho hd (by simp) ?_);refine af ?_;dsimp only [newExc,newTuple];refine af (wpAny_newObj_type ?_ (by size_fits));refine af (m:=firstArgMember _ _) (wpAny_of_eq (a:=Value.none) (by first | rfl | (dsimp only [firstArgMember];rfl)) ?_);refine wpAny_newObj_type ?_ (by size_fits);dsimp only [raiseNew];refine af (wpAny_handled ?_);rw [show A.in1.handled=none from hh];refine af (ak (wpAny_throw ?_));refine af (wpAny_isInstance (T:="StopIteration") (b:=true) ⟨_,aQ _ rfl,rfl⟩ isSubtype_stop ?_);refine ak (hQ _ (((bi ..).extBut.push _).push _) ?_);rw [br,br,(bi ..).1];omega
theorem zO(hh:A.handled=none)(I d:Addr)(hne:d≠I)(es:Array DictEntry)(ep:Nat) :
  Walks W.prog W.w A I [I,d] [I] es.size (fun i v=>∃e,es[i]?=some e∧v=e.key) (fun i h=>h.IsKeyIter I d i es.size ep∧gG h d es ep) where
 sub:=fun b hb=>by simp at hb;simp [hb]
 frame:=fun z_ z_ z_ st hk=>⟨let ⟨o,ho,x⟩:=st.1;⟨o,hk I (by simp) o ho,x⟩,hk d (by simp) _ st.2⟩
 item:=fun i s Q E hi st hQ=>by
  refine uU st.1 st.2 (Array.getElem?_eq_getElem hi) fun h' hit' hs'=>?_;exact hQ _ h' s.toks ⟨_,Array.getElem?_eq_getElem hi,rfl⟩ ⟨hit',hs'.extBut _ _ hne st.2⟩ fun b o hb e=>hs'.extBut b o (fun h=>hb (by simp [h])) e
 done:=fun s Q E st hQ=>yc hh st.1 st.2 (by simp) fun h' he' z_=>hQ h' s.toks fun b o hb e=>he' b o (fun h=>hb (by simp [h])) e
 self:=fun z_ z_ z_ z_ st hQ=>wpAny_pyIter_keyiter st.1 hQ
theorem yd{d:Addr}{es:Array DictEntry}{ep:Nat}(lo:(d==sysModules)=false):KdlSrc W.prog W.w "dict" d d es.size (fun i v=>∃e,es[i]?=some e∧v=e.key) (fun h=>gG h d es ep) where
 type:=fun z_ hm=>⟨_,hm,rfl⟩
 there:=fun z_ hm=>⟨bo hm,bo hm⟩
 keep:=fun z_ z_ hm hk=>hk d (.inl rfl) _ hm
 notList:=by decide
 notTuple:=by decide
 hint:=fun z_ z_ z_ z_ hm hq=>kdl_hint_dict ⟨_,hm,rfl⟩ hq
 iter:=fun z_ z_ hh hm=>⟨_,_,(fun z_ z_ hq=>uV lo hm hq),zO hh _ d (aN (bo hm)) es ep,⟨⟨_,aQ _ rfl,rfl,rfl⟩,aA _ hm⟩⟩
end
section
variable{E:Value→Shared→Prop}{c:V}
theorem uC{l:List (V×V)}{es:Array DictEntry}{vs:Array Value}(r:cr W h ρ l es.toList)(hv:ItemsOf (fun i v=>∃e,es[i]?=some e∧v=e.key) vs es.size):aZ W h ρ (l.map (·.1)) vs.toList:=by
 have e:vs.toList=es.toList.map (·.key):=by
  apply List.ext_getElem?;intro i;rcases cD i es.size with hi | hi
  ·have hi':i<vs.size:=by rw [hv.1];exact hi
   refine bG (hv.2 i vs[i] (Array.getElem?_eq_getElem hi')) fun e h1 h2=>?_;rw [Array.getElem?_toList,Array.getElem?_eq_getElem hi',h2,List.getElem?_map,Array.getElem?_toList,h1];rfl
  ·rw [List.getElem?_eq_none (by rw [bu,hv.1];exact hi),List.getElem?_eq_none (by rw [aJ,bu];exact hi)]
 rw [e];generalize es.toList=L at r
 induction r with
 | nil=>exact .nil
 | cons a b c d _ ih=>exact .cons c ih
theorem bJ.grow(R:bJ W h ρ σ)(k:∀b o,h.get? b=some o→h'.get? b=some o)(hz:h.objs.size≤h'.objs.size){u d:Addr}(hu:h.objs.size≤u)(hd:h.objs.size≤d)
  (r:il W h' (ρ++[(u,d)]) (u,d) o):bJ W h' (ρ++[(u,d)]) (σ++[o]) where
 len:=by simp [R.len]
 ob n o' p e ep:=by
  rcases cD n σ.length with hn | hn
  ·rw [au hn] at e;rw [au (by rw [R.len];exact hn)] at ep;exact (R.ob n o' p e ep).mono (fun a o e z_ z_=>k _ _ e) (cj ..) (fun z_ e=>k _ _ e) (fun z_ e=>k _ _ e)
  ·have:n=σ.length:=by
    have:=(aE.mp e).1;simp at this;omega
   subst this;rw [aL (ax _)] at e;rw [aL (by rw [R.len];exact ax _),R.len] at ep;simp at e ep;subst e ep;exact r
 apart m n p q hmn ep eq:=by
  have old:∀(m:Nat) (p:Addr×Addr),m<ρ.length→(ρ++[(u,d)])[m]?=some p→p.1<h.objs.size∧p.2<h.objs.size:=fun m p hm e=>by
   rw [au hm] at e;refine bG (R.alive e) fun ob z_ r=>?_;refine CT r.live fun w o2 h2 z_=>?_;refine bG w fun o1 h1 z_=>?_;exact ⟨bo h1,bo h2⟩
  have newp:∀(m:Nat) (p:Addr×Addr),¬m<ρ.length→(ρ++[(u,d)])[m]?=some p→m=ρ.length∧p=(u,d):=fun m p hm e=>by
   have l:=(aE.mp e).1;simp at l;have:m=ρ.length:=by omega
   subst this;rw [aL (ax _)] at e;simp at e;exact ⟨rfl,e.symm⟩
  by_cases hm:m<ρ.length<;>rcases Classical.em (n<ρ.length) with hn | hn
  ·rw [au hm] at ep;rw [au hn] at eq;exact R.apart m n p q hmn ep eq
  ·refine xa (newp n q hn eq) fun z_ x=>?_;subst x;have:=old m p hm ep;exact ⟨aN (al this.1 hu),aN (al this.1 hd),aN (al this.2 hu),aN (al this.2 hd)⟩
  ·refine xa (newp m p hm ep) fun z_ y=>?_;subst y;have:=old n q hn eq;exact ⟨bN (al this.1 hu),bN (al this.2 hu),bN (al this.1 hd),bN (al this.2 hd)⟩
  ·exact absurd ((newp m p hm ep).1.trans (newp n q hn eq).1.symm) hmn
 new n p ep:=by
  rcases cD n ρ.length with hn | hn
  ·rw [au hn] at ep;exact R.new n p ep
  ·have l:=(aE.mp ep).1;simp at l;have:n=ρ.length:=by omega
   subst this;rw [aL (ax _)] at ep;simp at ep;subst ep;exact ⟨am R.size hu,am R.size hd⟩
 size:=am R.size hz
 top a o e:=k _ _ (R.top a o e)
 priv a p:=let ⟨o,h1,h2⟩:=R.priv a p;⟨o,k _ _ h1,h2⟩
theorem nR{t:Nat}{u d:Addr}(k:∀b o,s.heap.get? b=some o→h'.get? b=some o)(hz:s.heap.objs.size≤h'.objs.size)(hu:s.heap.objs.size≤u)(hd:s.heap.objs.size≤d) :
  bp gF ρ s (ρ++[(u,d)]) {s with heap:=h',toks:=t} where
 pre:=cj ..
 fresh n p hn e:=by
  rw [aL hn] at e;have:n-ρ.length=0:=by
   have:=(aE.mp e).1;simp at this;omega
  rw [this] at e;simp at e;subst e;exact ⟨hu,hd⟩
 keep a o e _ _:=k _ _ e
 same:=⟨_,_,rfl⟩
 size:=hz
theorem ci.list'(R:bJ W s.heap ρ σ){t ek:Nat}(k:∀b o,s.heap.get? b=some o→h'.get? b=some o)
  (hn:h'.get? s.heap.objs.size=some ⟨.type "list",none,.seq items ek,#[]⟩) (r:aZ W s.heap ρ l items.toList) (h:Q (.obj σ.length) (σ++[.list l])) :
  ci W ρ s Q (.ref s.heap.objs.size) {s with heap:=h',toks:=t}:=by
 have hz:s.heap.objs.size≤h'.objs.size:=cT (bo hn);have k':bg W s.heap h':=fun a o e z_ z_=>k a o e;refine ⟨_,_,_,nR k hz (ax _) (ax _),R.grow (o:=.list l) k hz (ax _) (ax _) ⟨rfl,items,ek,hn,r.mono k' (cj ..)⟩,.obj (a:=s.heap.objs.size) (d:=s.heap.objs.size) ?_,h⟩;rw [←R.len,aL (ax _)];simp
set_option tactic.hygienic true in
theorem r5(hs:sysModules<W.h₀.objs.size)(hh:A.handled=none)(R:bJ W s.heap ρ σ)(ra:aK W s.heap ρ a x)(h:gK σ a=some l)(hb:l.length<big)(hQ:Q (.obj σ.length) (σ++[.list l])) :
  wpAny (model W.prog W.w) A (call (.type "list") [x]) (ci W ρ s Q) E s:=by
 refine og (M:=fun a l=>aK W s.heap ρ a x→l.length<big→Q (.obj σ.length) (σ++[.list l])→wpAny _ _ (call (.type "list") [x]) _ _ _) h (fun l ra hb hQ=>?_) (fun n l e ra hb hQ=>?_) (fun n l i e ra hb hQ=>?_) ra hb hQ
 ·refine cp ra.E fun ad o items ek q ho hc hd hx hr=>?_;subst q;exact call_list_seq ad (.inr rfl) ho hc hd (fun h' c' k hn=>ci.list' (t:=s.toks) R k hn hr hQ) (by rw [←bu,hr.length];exact gJ hb)
 ·refine bt (R.list_at ra e) fun p ad ep hp1 hp2 y items ek ho hr hz=>?_;subst y;exact call_list_seq ad (.inl rfl) ho rfl rfl (fun h' c' k hn=>ci.list' (t:=s.toks) R k hn hr hQ) (by rw [hz];exact gJ hb)
 ·refine bC (R.dict_at ra e) fun p ad ep hp1 hp2 z hn es ek z_ ho hr hz=>?_;subst z;have q1:(ad==sysModules)=false:=beq_eq_false_iff_ne.mpr (bN (al hs hn));exact kdl_call (yd (es:=es) (ep:=ek) q1) hh ho (by rw [hz];rw [aJ] at hb;exact gJ hb) fun h' tk acc' c' k hn' hI=>ci.list' R k hn' (uC hr hI) hQ
set_option tactic.hygienic true in
theorem tV(hs:sysModules<W.h₀.objs.size)(R:bJ W s.heap ρ σ)(ra:aK W s.heap ρ a x)(h:zf σ a=some n)(hb:n<big)(hQ:Q (.int n) σ) :
  wpAny (model W.prog W.w) A (call (.builtin "len") [x]) (ci W ρ s Q) E s:=by
 refine Bt (M:=fun a n=>aK W s.heap ρ a x→n<big→Q (.int n) σ→wpAny _ _ (call (.builtin "len") [x]) _ _ _) h (fun l ra hb hQ=>?_) (fun l ra hb hQ=>?_) (fun m l e ra hb hQ=>?_) (fun m ld i e ra hb hQ=>?_) ra hb hQ
 ·refine dk ra.E fun ad o items ek y ho hc hd hi=>?_;subst y;have hz:items.size=l.length:=by rw [←bu];exact hi.length
  refine Calls.call_function_entry kind_len plain_len entry_len (args_len1 _) (wpAny_len_body_list (items:=items) ⟨o,R.top _ _ ho,hc,ek,hd⟩ (by rw [hz];unfold big at hb;omega) ?_);rw [hz];exact ci.tok R _ (.int _ _) hQ
 ·refine cp ra.E fun ad o items ek z ho hc hd hx hr=>?_;subst z;have hz:items.size=l.length:=by rw [←bu,hr.length]
  refine PyProof.Rows.len_tuple (items:=items) ⟨o,ho,hc,ek,hd⟩ (by rw [hz];unfold big at hb;omega) ?_;rw [hz];exact ci.tok R _ (.int _ _) hQ
 ·refine bt (R.list_at ra e) fun p ad ep hp1 hp2 u items ek ho hr hz=>?_;subst u;refine Calls.call_function_entry kind_len plain_len entry_len (args_len1 _) (wpAny_len_body_list (items:=items) ⟨_,ho,rfl,ek,rfl⟩ (by rw [hz];unfold big at hb;omega) ?_);rw [hz];exact ci.tok R _ (.int _ _) hQ
 ·refine bC (R.dict_at ra e) fun p ad ep hp1 hp2 v hn' es ek z_ ho hr hz=>?_;subst v;have q1:(ad==sysModules)=false:=beq_eq_false_iff_ne.mpr (bN (al hs hn'));have hT:s.TypeIs (.ref ad) "dict":=⟨_,ho,rfl⟩
  refine Calls.call_function_entry kind_len plain_len entry_len (args_len1 _) ?_;refine af (m:=oneArg "len" _) (ak ?_);refine af (m:=callSpecial? (.ref ad) (Str.ofString "__len__")) (wpAny_callSpecial?_slot (name:=Str.ofString "__len__") hT F.slot_dict_len
   (wpAny_call_entry F.slot_dict_len hT F.entry_dict_len ?_ (F.args_dict_len_1 _)))
  show wpAny _ _ (dictSize ad >>=_) _ _ s;refine af (af (wpAny_dictEntries ho rfl (ak ?_)));refine af (wpAny_pendingCount_other q1 ?_);refine wpAny_ret_mkInt ?_;refine af (a9 (ak ?_));refine af (wpAny_letGo ?_);have e0:((es.size:Int)+((0:Nat):Int))=(ld.length:Int):=by rw [←hz];simp
  rw [e0];refine gn (fun q=>absurd q (Int.not_lt.mpr (Int.natCast_nonneg _))) fun z_=>gn (fun q=>absurd q (by have:=hb;unfold big at this;omega)) fun z_=>?_;exact af (wpAny_mkInt (ak ⟨_,rfl,ci.tok R _ (.int _ _) hQ⟩))
end
structure tH(K:Frag)(C:Addr)(attrs:List String):Prop where
 get:∀a∈attrs,plainGet K C (Str.ofString a)=true∧findIn K (.ref C) (Str.ofString a)=some none
 has:hasDictIn K C=true
 set:findIn K (.ref C) "__setattr__"=some (some (.builtin "object.__setattr__"))
 over:plainOver K C=true
structure Fp(W:Wd)(attrs:List String):Prop where
 sys:sysModules<W.h₀.objs.size
 frag:W.K.In W.h₀
 lim:W.h₀.NoLimit
 cls:∀c C,W.cls c=some C→tH W.K C attrs
theorem kn{x a:String}:(Str.ofString x==Str.ofString a)=(x==a):=by
 rw [Bool.eq_iff_iff];simp only [beq_iff_eq];exact ⟨cO,fun h=>by rw [h]⟩
section
variable{E:Value→Shared→Prop}{c:V}{attrs:List String}
theorem bJ.K(R:bJ W s.heap ρ σ)(O:Fp W attrs):W.K.In s.heap:=O.frag.keeps R.top
theorem eC.noref{l:List (String×V)}(r:eC W h ρ l es):es.any (·.refKey)=false:=by
 induction r with
 | nil=>rfl
 | cons _ _ ih=>rw [List.any_cons,ih];rfl
theorem ul{n:String}:∀{l:List (String×V)} {es:List DictEntry},eC W h ρ l es→
  (∀v,mu l n=some v→∃b,getL (Str.ofString n) es=some (some b)∧aK W h ρ v b)∧(mu l n=none→getL (Str.ofString n) es=some none):=by
 intro l es r;have noref:=r.noref;delta getL;rw [noref];delta mu
 induction r with
 | nil=>exact ⟨fun v h=>(ca h),fun z_=>rfl⟩
 | @cons x t i v b l es rv r ih =>
  have ih:=ih (by rw [List.any_cons] at noref;simpa using (Bool.or_eq_false_iff.mp noref).2);dsimp only [List.find?_cons];have:(DictEntry.key ⟨i,.str (Str.ofString x) t,b⟩).isStr (Str.ofString n)=(x==n):=kn;rw [this]
  cases hx:x==n with
  | true=>exact ⟨fun v h=>(by cases h;exact ⟨_,rfl,rv⟩),fun h=>(nomatch h)⟩
  | false=>exact ih
theorem InstAt.mk'{C:Addr}(h1:h.get? p.1=some (instObj C p.2))(h2:h.get? p.2=some (dictOf es n)):InstAt h p.1 (instObj C p.2) C (some (dictOf es n)):=⟨h1,rfl,rfl,h2⟩
theorem C7{n:String}{expr:Bool}(O:Fp W attrs)(hn:n∈attrs)(R:bJ W s.heap ρ σ)(ra:aK W s.heap ρ a x)(h:qP σ a n=some b)(hQ:Q b σ):wpAny (model W.prog W.w) A (getAttr x (Str.ofString n) expr) (ci W ρ s Q) E s:=by
 unfold qP at h
 split at h
 ·split at h
  ·rename_i e
   refine lT (R.inst_at ra e) fun p ep q C es k h1 h2 h3 h4=>?_;subst q;refine bG ((ul (n:=n) h4).1 _ h) fun u hu ru=>?_;have ok:=O.cls _ _ h1;refine xa (ok.get n hn) fun g1 g2=>?_;refine get_value (R.K O) (InstAt.mk' h2 h3) (plainGet_of g1).1 (findObj_own ok.has g2 rfl (by rw [lookIn_dict];exact hu)) ?_ (ci.tok R _ ru hQ);cases ru<;>rfl
  ·exact ca h
 ·exact ca h
theorem eC.put{n:String}{u:Value}{hs:Int}{t:Tok}(ru:aK W h ρ v u){l:List (String×V)}(r:eC W h ρ l es):eC W h ρ (jV l n v) (putL (Str.ofString n) hs (.str (Str.ofString n) t) u es):=by
 induction r with
 | nil=>exact .cons ru .nil
 | @cons x t' i v' b' l es rv r ih =>
  dsimp only [jV,putL];have:(DictEntry.key ⟨i,.str (Str.ofString x) t',b'⟩).isStr (Str.ofString n)=(x==n):=kn;rw [this]
  cases hx:x==n with
  | true=>exact .cons ru r
  | false=>exact .cons rv ih
theorem rC{n:String}{v:V}:∀{l:List (String×V)},(l.map (·.1)).Nodup→((jV l n v).map (·.1)).Nodup∧∀y,y∈(jV l n v).map (·.1)→y=n∨y∈l.map (·.1)
 | [],_=>by simp [jV]
 | (x,w)::r,h=>by
  rw [List.map_cons,List.nodup_cons] at h;have ih:=rC (n:=n) (v:=v) h.2;dsimp only [jV]
  cases hx:x==n with
  | true =>
   simp only [if_true,List.map_cons,List.nodup_cons];exact ⟨h,fun y hy=>.inr hy⟩
  | false =>
   simp only [Bool.false_eq_true,if_false,List.map_cons,List.nodup_cons];refine ⟨⟨fun hy=>?_,ih.1⟩,fun y hy=>?_⟩
   ·rcases ih.2 _ hy with rfl | hy
    ·simp at hx
    ·exact h.1 hy
   ·rcases aP.mp hy with rfl | hy
    ·exact .inr ai
    ·exact (ih.2 y hy).elim .inl fun h=>.inr (aj _ h)
theorem eC.length{h:Heap}{l:List (String×V)}{es:List DictEntry}(r:eC W h ρ l es):es.length=l.length:=by
 induction r with
 | nil=>rfl
 | cons _ _ ih=>exact congrArg Nat.succ ih
theorem oj{n:String}{v:V}:∀{l:List (String×V)},(jV l n v).length≤l.length+1
 | []=>by simp [jV]
 | (x,w)::r=>by
  dsimp only [jV]
  split
  ·simp
  ·dsimp only [List.length_cons];have:=oj (n:=n) (v:=v) (l:=r);omega
theorem wZ{cl:String}{l:List (String×V)}{nm:String}{Q:Unit→Shared→Prop}(O:Fp W attrs)(hn:nm∈attrs)(R:bJ W s.heap ρ σ)(ra:aK W s.heap ρ (.obj n) x)(rb:aK W s.heap ρ b y)
  (e:σ[n]?=some (.inst cl l)) (hz:l.length<100)
  (h:∀h' t,bJ W h' ρ (σ.set n (.inst cl (jV l nm b)))→bp gF ρ s ρ {s with heap:=h',toks:=t}→Q () {s with heap:=h',toks:=t}) :
  wpAny (model W.prog W.w) A (setAttr x (Str.ofString nm) y) Q E s:=by
 have nd:(l.map (·.1)).Nodup:=by
  refine bG (R.at e) fun p hp ro=>?_;refine eu ro fun z_ z_ z_ z_ z_ z_ z_ nd=>?_;exact nd
 refine lT (R.inst_at ra e) fun p ep z C es k h1 h2 h3 h4=>?_;subst z;have ok:=O.cls _ _ h1;refine xa (ok.get nm hn) fun g1 g2=>?_;have X:=R.K O;have I:=InstAt.mk' h2 h3;have hne:p.1≠p.2:=fun q=>by
  rw [q] at h2;rw [h2] at h3;cases h3
 refine set_plain X I ok.set (osa_open (s:={s with toks:=s.toks+1}) X I ok.over (by unfold takerIn;rw [g2];rfl) fun bb=>?_);refine bG (any_some ok.has) fun cd hc hd'=>?_;refine af (ak (af (af (wpAny_loadPart h2 (af (looks_clsIn X hc _ _ _ _ (fun z_ z_ e=>e) ?_))))));rw [hd'];refine ak (a:=some p.2) (af (ak (af ?_)));refine af (af (wpAny_askSetting (ak (af (wpAny_mkText (af (wpAny_loadPart h3 ?_)))))));have noref:=h4.noref;have c:(!es.toArray.any (·.key.isStr (Str.ofString nm))&&es.toArray.any (·.refKey))=false:=by
  rw [←Array.any_toList (p:=fun e:DictEntry=>e.refKey)];simp [noref]
 dsimp only [dictOf];rw [aRefKeyMayBeTheName_at,c];refine wpAny_updatePart h3 ?_;obtain ⟨key,hkey⟩:∃key:Int,key=PyData.keyHash W.w.params (Str.ofString nm):=⟨_,rfl⟩
 have D':(s.heap.update p.2 (Obj.putName (Str.ofString nm) (PyData.keyHash W.w.params (Str.ofString nm)) (.str (Str.ofString nm) (s.toks+1)) y)).get? p.2=some (dictOf (putL (Str.ofString nm) (PyData.keyHash W.w.params (Str.ofString nm)) (.str (Str.ofString nm) (s.toks+1)) y es) (putN (Str.ofString nm) es k)):=by
  rw [←putName_dict];exact Heap.get?_update_self _ h3 (by rw [putName_dict];rfl)
 have hrel:=h4.put (n:=nm) (hs:=PyData.keyHash W.w.params (Str.ofString nm)) (t:=s.toks+1) rb;refine af (wpAny_lookBehind D' (pastItsLine_dict ?_) ?_)
 ·rw [List.size_toArray,hrel.length,sizeLine_eq];have:=oj (n:=nm) (v:=b) (l:=l);omega
 ·have kk:bg W s.heap _:=R.tupkeep ep (.inr rfl) (bi s.heap p.2 (Obj.putName (Str.ofString nm) (PyData.keyHash W.w.params (Str.ofString nm)) (.str (Str.ofString nm) (s.toks+1)) y));refine ak (h _ _ (R.upd (o':=.inst cl (jV l nm b)) ep (.inr rfl) (bi ..) ⟨C,_,_,h1,?_,D',hrel.mono kk (aB _),(rC nd).1⟩) (kA ep (.inr rfl) (bi ..)));rw [Heap.get?_update_other _ _ (aU hne)];exact h2
end
inductive Gd{α:Type}(n:Nat)(L:α→Prop):KasT α→Prop
 | ret {a:α}:L a→Gd n L (.ret a)
 | ask {i j:Nat} {k:Bool→KasT α}:i<n→j<n→(∀b,Gd n L (k b))→Gd n L (.ask i j k)
theorem Gd.bind{α β:Type}{n:Nat}{L:α→Prop}{L':β→Prop}{f:α→KasT β}{t:KasT α}(h:Gd n L t)(g:∀a,L a→Gd n L' (f a)):Gd n L' (t.bind f):=by
 induction h with
 | ret h=>exact g _ h
 | ask hi hj _ ih=>exact .ask hi hj ih
noncomputable abbrev Pm(n:Nat)(p:Array Nat):Prop:=p.Perm (List.range n).toArray
theorem gb{p:Array Nat}(hn:0<n)(h:Pm n p)(i:Nat):p.getD i 0<n:=by
 unfold Array.getD
 split
 ·rename_i hi
  have:p[i]∈p:=Array.getElem_mem hi;have:=h.mem_iff.mp this
  simpa using this
 ·exact hn
theorem p9{p:Array Nat}(h:Pm n p)(i j:Nat):Pm n (kas_rev p i j):=(mirror_perm _ _ _ _).trans h
theorem zK{p:Array Nat}(h:Pm n p)(i j:Nat):Pm n (bubble p i j):=(bubble_perm _ _ _).trans h
theorem v5{n:Nat}{p:Array Nat}(hn:0<n)(h:Pm n p):∀(f m:Nat),Gd n (fun z_=>True) (kas_asc p f m)
 | 0,m=>.ret trivial
 | f+1,m=>.ask (gb hn h _) (gb hn h _) fun c=>by cases c<;>skip;exact v5 hn h f _;exact .ret trivial
theorem oH{n:Nat}(hn:0<n):∀(f:Nat) (p:Array Nat) (m q:Nat),Pm n p→Gd n (fun r:Array Nat×Nat×Nat=>Pm n r.1) (kas_desc f p m q)
 | 0,p,m,q,h=>.ret h
 | f+1,p,m,q,h=>.ask (gb hn h _) (gb hn h _) fun c=>by
  cases c
  ·refine .ask (gb hn h _) (gb hn h _) fun d=>?_;cases d
   ·exact oH hn f p _ _ h
   ·exact .ret h
  ·simp only [if_true]
   split
   ·exact oH hn f _ _ _ (p9 h _ _)
   ·exact oH hn f _ _ _ h
theorem ui(hn:0<n)(m k:Nat){p:Array Nat}(h:Pm n p):Gd n (fun r:Nat×Array Nat=>Pm n r.2) (kas_tail3 m k p):=(v5 hn (p9 h _ _) _ _).bind fun z_ z_=>.ret (p9 h _ _)
theorem oc(hn:0<n)(m k:Nat){p:Array Nat}(h:Pm n p):Gd n (fun r:Nat×Array Nat=>Pm n r.2) (kas_descPart m k p):=(oH hn _ _ _ _ h).bind fun r hr=>by
 split
 ·exact ui hn _ _ (p9 hr _ _)
 ·exact ui hn _ _ hr
theorem A3(hn:0<n)(k:Nat){p:Array Nat}(h:Pm n p):Gd n (fun r:Nat×Array Nat=>Pm n r.2) (kas_count k p):=(v5 hn h _ _).bind fun m z_=>by
 split
 ·exact .ret h
 ·split
  ·refine .ask (gb hn h _) (gb hn h _) fun c=>?_;cases c
   ·exact oc hn _ _ (p9 h _ _)
   ·exact .ret h
  ·exact oc hn _ _ h
theorem pD{n:Nat}{p:Array Nat}(hn:0<n)(h:Pm n p)(k:Nat):∀(f l r:Nat),Gd n (fun z_=>True) (kas_place p k f l r)
 | 0,l,r=>.ret trivial
 | f+1,l,r=>by
  unfold kas_place
  split
  ·exact .ret trivial
  ·refine .ask (gb hn h _) (gb hn h _) fun c=>?_;cases c
   ·exact pD hn h k f _ _
   ·exact pD hn h k f _ _
theorem A2{n:Nat}(hn:0<n):∀(f:Nat) (p:Array Nat) (k:Nat),Pm n p→Gd n (Pm n) (kas_bin f p k)
 | 0,p,k,h=>.ret h
 | f+1,p,k,h=>(pD hn h k _ _ _).bind fun l z_=>A2 hn f _ _ (zK h _ _)
theorem sa(hn:0<n):Gd n (Pm n) (kas_sort n):=(A3 hn n (Array.Perm.refl _)).bind fun r hr=>by
 split
 ·exact A2 hn _ _ _ hr
 ·exact .ret hr
theorem A4{L:α→Prop}(c:Nat→Nat→Bool){t:KasT α}(h:Gd n L t):L (D5 c t):=by
 induction h with
 | ret h=>exact h
 | ask _ _ _ ih=>exact ih _
theorem lP(l:List V):(cz l).Perm l:=by
 unfold cz
 split
 ·exact List.Perm.refl _
 ·rename_i h
  have hp:=A4 (fun i j=>xR (l.getD i .none) (l.getD j .none)) (sa (n:=l.length) (by omega));have hp:=(Array.perm_iff_toList_perm.mp hp).map fun i=>l.getD i .none;refine hp.trans ?_;rw [List.toList_toArray];have:(List.range l.length).map (fun i=>l.getD i .none)=l:=by
   apply List.ext_getElem
   ·simp
   ·intro i h1 h2;simp at h1;simp [h1]
  rw [this]
theorem fq:v∈cz l↔v∈l:=(lP l).mem_iff
theorem s9(l:List V):(cz l).length=l.length:=(lP l).length_eq
section
variable{E:Value→Shared→Prop}{c:V}
theorem Gf{L:α→Prop}{cmp:Nat→Nat→(Bool→Shared→Prop)→Shared→Prop}{I:Shared→Prop}{c:Nat→Nat→Bool}{Q:α→Shared→Prop}
  (hc:∀i j C s,i<n→j<n→I s→(∀s',I s'→C (c i j) s')→cmp i j C s) {t:KasT α} (h:Gd n L t):∀s,I s→(∀s',I s'→Q (D5 c t) s')→t.kasWp cmp Q s:=by
 induction h with
 | ret h=>exact fun s hi hq=>hq s hi
 | ask h1 h2 _ ih=>exact fun s hi hq=>hc _ _ _ s h1 h2 hi fun s' hi'=>ih _ s' hi' hq
theorem DZ(r:aZ W h ρ l vs){p:List Nat}(hp:∀i∈p,i<l.length):aZ W h ρ (p.map fun i=>l.getD i .none) (p.map fun i=>vs.getD i .none):=by
 induction p with
 | nil=>exact .nil
 | cons i p ih =>
  have hi:=hp i ai;refine bG (r.get (aC hi)) fun u h1 h2=>?_;refine .cons ?_ (ih fun j hj=>hp j (aj _ hj));show aK W h ρ (l.getD i .none) (vs.getD i .none);rw [List.getD_eq_getElem?_getD,List.getD_eq_getElem?_getD,aC hi,h1];exact h2
theorem B1{ad:Addr}{P:PySem.Fin→Shared→Prop}{κ:SortKind}(ho:s.heap.get? ad=some (seqObj "list" vs.toArray n))(hl:vs.length=l.length)(h64:l.length<64)
  (kind:2≤l.length→∀h1 t Q',(∀b o,b≠ad→s.heap.get? b=some o→h1.get? b=some o)→(∀t',Q' κ {s with heap:=h1,toks:=t'})→wpAny (model W.prog W.w) A (keyKind' vs.toArray) Q' (fun z_ z_=>False) {s with heap:=h1,toks:=t})
  (ask:2≤l.length→∀h1 t i j Q',i<l.length→j<l.length→(∀b o,b≠ad→s.heap.get? b=some o→h1.get? b=some o)→(∀t',Q' (xR (l.getD i .none) (l.getD j .none)) {s with heap:=h1,toks:=t'})→
   wpAny (model W.prog W.w) A (keyLt' κ (vs.getD i .none) (vs.getD j .none)) Q' (fun z_ z_=>False) {s with heap:=h1,toks:=t})
  (h:∀h' t c (p:List Nat),(∀i∈p,i<l.length)→cz l=p.map (fun i=>l.getD i .none)→(∀b o,b≠ad→s.heap.get? b=some o→h'.get? b=some o)→
   h'.get? ad=some (seqObj "list" (p.map fun i=>vs.getD i .none).toArray c)→P (.done (.ret .none)) {s with heap:=h',toks:=t}) :
  wpAny (model W.prog W.w) A (Builtin.«list.sort» ⟨[.ref ad],[]⟩) P E s:=by
 have ha:ad<s.heap.objs.size:=bo ho;obtain ⟨e1,ho1⟩:∃e1,(s.heap.update ad (Obj.mapSeq fun z_=>(#[]:Array Value))).get? ad=some (seqObj "list" #[] e1):=⟨_,get?_update_seq ho fun z_=>#[]⟩
 obtain ⟨h1,hh1⟩:∃h1,h1=((s.heap.update ad (Obj.mapSeq fun z_=>(#[]:Array Value))).push (seqObj "tuple" vs.toArray 0)).push (seqObj "list" #[] 0):=⟨_,rfl⟩
 have keep:∀b o,b≠ad→s.heap.get? b=some o→h1.get? b=some o:=fun b o hb e=>by
  rw [hh1];exact aA _ (aA _ ((Heap.get?_update_other _ _ (aU hb)).trans e))
 have na:h1.get? ad=some (seqObj "list" #[] e1):=by
  rw [hh1];exact aA _ (aA _ ho1)
 rw [list_sort_plain];refine af (listItems_at ho rfl ?_);refine af (listUpdate_at ho rfl ?_ (by rw [List.size_toArray,sizeLine_eq];omega) (aS _));refine af (seqEpoch_at ho1 rfl ?_);refine af (wpAny_newTuple ?_ (by show vs.length≤_;rw [sizeLine_eq];omega));refine af (wpAny_newList ?_ (aS _));refine a9 ?_;show wpAny (model W.prog W.w) A _ P E {s with heap:=((s.heap.update ad (Obj.mapSeq fun z_=>(#[]:Array Value))).push (seqObj "tuple" vs.toArray 0)).push (seqObj "list" #[] 0)};rw [←hh1];dsimp only;refine Or.elim (Classical.em (vs.toArray.size<2)) (fun h2=>?_) (fun h2=>?_)
 ·rw [if_pos h2,if_pos h2];refine af (ak ?_);rw [StateT.run_pure];refine af (ak ?_);dsimp only;have hout:(Array.map (fun x=>x.2) (arrOf (SortSt.mk' general' (vs.toArray.zip vs.toArray) #[] 7 none)))=((List.range l.length).map fun i=>vs.getD i .none).toArray:=by
   show Array.map (fun x=>x.2) (vs.toArray.zip vs.toArray)=_;apply Array.toList_inj.mp;apply List.ext_getElem
   ·simp [hl]
   ·intro i h1 h2;simp at h1 h2;simp [hl];rw [aC (by omega)];rfl
  rw [hout];refine af (seqEpoch_at na rfl ?_);refine af (listUpdate_at na rfl ?_ (aS _) (by rw [List.size_toArray,aJ,List.length_range,sizeLine_eq];omega));simp only [bne_self_eq_false,Bool.false_eq_true,if_false];rw [List.size_toArray] at h2;refine ak (h _ _ _ (List.range l.length) (fun i hi=>List.mem_range.mp hi) ?_ (fun b o hb e=>(Heap.get?_update_other _ _ (aU hb)).trans (keep b o hb e)) (get?_update_seq na fun z_=>((List.range l.length).map fun i=>vs.getD i .none).toArray));unfold cz;rw [if_pos (by omega)];apply List.ext_getElem
  ·simp
  ·intro i h1 h2;simp at h2;simp [h2]
 ·rw [if_neg h2,if_neg h2];rw [List.size_toArray] at h2;refine af (aH (kind (by omega) h1 s.toks (fun κ' s'=>κ'=κ∧∃t,s'={s with heap:=h1,toks:=t}) keep fun t'=>⟨rfl,t',rfl⟩) (fun κ' s' hk=>?_) fun z_ z_ x=>x.elim);refine xp hk fun q t1 y=>?_;subst q;subst y;have wp:=Gf (n:=l.length) (cmp:=kas_ask W.prog W.w A κ' vs) (I:=fun s'=>∃t,s'={s with heap:=h1,toks:=t}) (c:=fun i j=>xR (l.getD i .none) (l.getD j .none))
   (Q:=fun p s'=>(∀i∈p.toList,i<l.length)∧cz l=p.toList.map (fun i=>l.getD i .none)∧∃t,s'={s with heap:=h1,toks:=t})
   (fun i j C s' hi hj z hC=>xe z fun t e=>by subst e;exact ask (by omega) h1 t i j C hi hj keep fun t'=>hC _ ⟨t',rfl⟩)
   (sa (n:=l.length) (by omega)) {s with heap:=h1,toks:=t1} ⟨t1,rfl⟩ (fun s' hs'=>by
    have hp:=A4 (fun i j=>xR (l.getD i .none) (l.getD j .none)) (sa (n:=l.length) (by omega));refine ⟨fun i hi=>?_,?_,hs'⟩
    ·have:=hp.mem_iff.mp (Array.mem_toList_iff.mp hi)
     simpa using this
    ·unfold cz;rw [if_neg (by omega)])
  rw [←hl] at wp;refine af (aH (kat_run (κ:=κ') (vs:=vs) (ks:=vs) (Q:=fun st' s'=>∃p:Array Nat,arrOf st'=p.map (kas_item (vs.toArray.zip vs.toArray))∧failedOf st'=none∧
   (∀i∈p.toList,i<l.length)∧cz l=p.toList.map (fun i=>l.getD i .none)∧∃t,s'={s with heap:=h1,toks:=t})
   rfl (by omega) (by omega) (fun p' st' s' a1 a2 a3 a4=>⟨p',a2,a3,by rw [←hl];exact a4.1,a4.2⟩) wp) ?_ fun z_ z_ e=>e)
  rintro ⟨⟨⟩,st'⟩ s' ⟨p,har,hf,hp1,hp2,t2,rfl⟩;dsimp only;rw [kat_snds rfl har];have hpl:p.toList.length=l.length:=by
   have:=congrArg List.length hp2;rw [s9,aJ] at this;exact this.symm
  refine af (seqEpoch_at na rfl ?_);refine af (listUpdate_at na rfl ?_ (aS _) (by rw [List.size_toArray,aJ,hpl,sizeLine_eq];omega));rw [hf];simp only [bne_self_eq_false,Bool.false_eq_true,if_false];exact ak (h _ _ _ p.toList hp1 hp2 (fun b o hb e=>(Heap.get?_update_other _ _ (aU hb)).trans (keep b o hb e)) (get?_update_seq na fun z_=>(p.toList.map fun i=>vs.getD i .none).toArray))
end
noncomputable abbrev eK(s:Shared):Nat:=s.heap.objs.size
theorem nN{M:Model}{Γ:Ctx}{p:Pos}{t:Sem PySem.Fin}{fs:List Frame}{e:End}(h:Runs M Γ p t fs s e s'):eK s≤eK s':=by
 induction h<;>(try simp only [eK,Shared.setGen,br,Heap.size_update] at *)<;>omega
theorem sY{M:Model}{Γ:Ctx}{p:Pos}{r:Result}(h:Returns M Γ p s r s'):eK s≤eK s':=nN h
theorem xk{M:Model}{Γ:Ctx}{p:Pos}{g:Nat}{r:Resume}{res:GenResult}(h:Wakes M Γ p g r s res s'):eK s≤eK s':=by
 unfold Wakes at h
 split at h
 ·exact h.elim
 ·split at h
  ·refine ik h fun e₁ s₁ hr z_ z_ q=>?_;subst q;exact (nN hr:eK (s.setGen g .running)≤eK s₁)
  ·rw [h.2];exact ax _
  ·rw [h.2];exact ax _
 ·refine ik h fun e₁ s₁ hr z_ z_ w=>?_;subst w;exact (nN hr:eK (s.setGen g .running)≤eK s₁)
 ·rw [h.2];exact ax _
 ·rw [h.2];exact ax _
theorem EC(M:Model)(Γ:Ctx)(n:Nat)(t:Sem α):∀(Q:α→Pos→Shared→Prop) (E:Value→Pos→Shared→Prop) (p:Pos) (s:Shared),n≤eK s→Sem.wp M Γ t Q E p s→
  Sem.wp M Γ t (fun a p' s'=>n≤eK s'∧Q a p' s') (fun e p' s'=>n≤eK s'∧E e p' s') p s:=by
 induction t with
 | pure a=>intro Q E p s hn h;exact ⟨hn,h⟩
 | raise e=>intro Q E p s hn h;exact ⟨hn,h⟩
 | unsupported _=>intro Q E p s _ h;exact h
 | finish _=>intro Q E p s _ h;exact h
 | rule _ k ih=>intro Q E p s hn h;exact ih () Q E p s hn h
 | «at» p' k ih=>intro Q E p s hn h;exact ih () Q E p' s hn h
 | load a _ k ih=>intro Q E p s hn h;refine bG h fun o ho h=>?_;exact ⟨o,ho,ih o Q E p s hn h⟩
 | update a _ f k ih=>intro Q E p s hn h;exact ⟨h.1,ih () Q E p _ (by simpa only [eK,Heap.size_update] using hn) h.2⟩
 | loadIfAlive a k ih=>intro Q E p s hn h;exact ih _ Q E p s hn h
 | point _ k ih=>intro Q E p s hn h;exact ih () Q E p s hn h
 | register _ _=>intro Q E p s _ h;exact h
 | alloc o k ih=>intro Q E p s hn h;exact ih _ Q E p _ (am hn (by show _≤(s.heap.push o).objs.size;rw [br];exact Nat.le_succ _)) h
 | fresh k ih=>intro Q E p s hn h;exact ih _ Q E p _ hn h
 | ask k ih=>intro Q E p s hn h;exact ih _ Q E p s hn h
 | choose src m k ih=>intro Q E p s hn h;exact ⟨h.1,ih _ Q E p _ hn h.2⟩
 | os q _ k ih=>intro Q E p s hn h;exact ih _ Q E p _ hn h
 | call c hd _ _ k ih=>intro Q E p s hn h;refine cY h fun r s' hr h=>?_;exact ⟨r,s',hr,ih r Q E p s' (am hn (sY hr)) h⟩
 | handled own k ih=>intro Q E p s hn h;exact ih _ Q E p s hn h
 | genState g k ih=>intro Q E p s hn h;refine bG h fun st hs h=>?_;exact ⟨st,hs,ih _ Q E p s hn h⟩
 | newGen c k ih=>intro Q E p s hn h;exact ih _ Q E p _ hn h
 | resume g r _ k ih=>intro Q E p s hn h;refine cY h fun res s' hw h=>?_;exact ⟨res,s',hw,ih res Q E p s' (am hn (xk hw)) h⟩
 | yield _ _ _ _=>intro Q E p s _ h;exact h
 | stack k ih=>intro Q E p s hn h;exact ih _ Q E p s hn h
 | fork _ _=>intro Q E p s _ h;exact h
 | thread k ih=>intro Q E p s hn h;exact ih _ Q E p s hn h
 | await _ _ _ _ _=>intro Q E p s _ h;exact h
theorem ll{M:Model}{t:Sem α}{Q:α→Shared→Prop}{E:Value→Shared→Prop}(h:wpAny M A t (fun a s'=>eK s≤eK s'→Q a s') E s):wpAny M A t Q E s:=by
 have h2:wpAny M A t (fun a s'=>eK s≤eK s'∧(eK s≤eK s'→Q a s')) (fun e s'=>eK s≤eK s'∧E e s') s:=fun Γ p hΓ=>EC M Γ (eK s) t _ _ p s (ax _) (h Γ p hΓ);exact aH h2 (fun z_ z_ x=>x.2 x.1) (fun z_ z_ x=>x.2)
section
variable{E:Value→Shared→Prop}{c:V}
theorem ci.keep{h':Heap}{t:Nat}(R:bJ W s.heap ρ σ)(k:∀b o,s.heap.get? b=some o→h'.get? b=some o)(hz:s.heap.objs.size≤h'.objs.size)(r:aK W h' ρ a x)(h:Q a σ):ci W ρ s Q x {s with heap:=h',toks:=t} :=
 ⟨ρ,σ,a,cR k hz,R.keep k hz,r,h⟩
theorem FT{i j:Int}(hh:A.handled=none)(R:bJ W s.heap ρ σ)(ra:aK W s.heap ρ (.int i) x)(rb:aK W s.heap ρ (.int j) y)(hQ:Q (.int (max i j)) σ) :
  wpAny (model W.prog W.w) A (call (.builtin "max") [x,y]) (ci W ρ s Q) E s:=by
 refine xe ra.E fun t q=>?_;subst q;refine xe rb.E fun u z=>?_;subst z;refine ll (max_two_ints hh fun h' tk hk=>?_);rcases Classical.em (j>i) with c | c
 ·rw [if_pos c];intro hz;have e:max i j=j:=by omega
  rw [e] at hQ;exact ci.keep R hk hz (aK.int j u) hQ
 ·rw [if_neg c];intro hz;have e:max i j=i:=by omega
  rw [e] at hQ;exact ci.keep R hk hz (aK.int i t) hQ
theorem FK(R:bJ W s.heap ρ σ)(ra:aK W s.heap ρ a x)(h:ic .int [a] σ Q):wpAny (model W.prog W.w) A (call (.type "int") [x]) (ci W ρ s Q) E s:=by
 induction a using V.ind with
 | h2 i=>exact ra.intU (M:=fun x=>wpAny _ _ (call _ [x]) _ _ _) fun t=>call_int_int (ci.here R (.int _ _) h)
 | h1 b=>exact ra.boolU (M:=fun x=>wpAny _ _ (call _ [x]) _ _ _) (call_int_bool (ci.tok R _ (.int _ _) h))
 | _=>exact h.elim
theorem wb(R:bJ W s.heap ρ σ)(ra:aK W s.heap ρ a x)(h:ic .isTuple [a] σ Q):wpAny (model W.prog W.w) A (call (.builtin "isinstance") [x,.type "tuple"]) (ci W ρ s Q) E s:=by
 induction a using V.ind with
 | ht l=>exact ra.tupU (M:=fun x=>wpAny _ _ (call _ [x,_]) _ _ _) fun ad o items ek ho hc hd hx hr=>IsiPair.tuple_tuple ho hc (ci.here R (.bool _) h)
 | h0=>exact ra.noneU (M:=fun x=>wpAny _ _ (call _ [x,_]) _ _ _) (IsiPair.NoneType_tuple (ci.tok R _ (.bool _) h))
 | h2 i=>exact ra.intU (M:=fun x=>wpAny _ _ (call _ [x,_]) _ _ _) fun t=>IsiPair.int_tuple (ci.tok R _ (.bool _) h)
 | h3 i=>exact ra.strU (M:=fun x=>wpAny _ _ (call _ [x,_]) _ _ _) fun t=>IsiPair.str_tuple (ci.tok R _ (.bool _) h)
 | h4 n =>
  refine mi (f:=fun z_=>Q (.bool false) σ) h fun l e h=>?_;refine bt (R.list_at ra e) fun p ad ep hp1 hp2 q items ek ho hr hz=>?_;subst q;exact IsiPair.list_tuple ho rfl (ci.tok R _ (.bool _) h)
 | _=>exact h.elim
theorem Be(R:bJ W s.heap ρ σ)(ra:aK W s.heap ρ a x)(h:ic .isInt [a] σ Q):wpAny (model W.prog W.w) A (call (.builtin "isinstance") [x,.type "int"]) (ci W ρ s Q) E s:=by
 induction a using V.ind with
 | h2 i=>exact ra.intU (M:=fun x=>wpAny _ _ (call _ [x,_]) _ _ _) fun t=>IsiPair.int_int (ci.here R (.bool _) h)
 | h0=>exact ra.noneU (M:=fun x=>wpAny _ _ (call _ [x,_]) _ _ _) (IsiPair.NoneType_int (ci.tok R _ (.bool _) h))
 | ht l=>exact ra.tupU (M:=fun x=>wpAny _ _ (call _ [x,_]) _ _ _) fun ad o items ek ho hc hd hx hr=>IsiPair.tuple_int ho hc (ci.tok R _ (.bool _) h)
 | h3 i=>exact ra.strU (M:=fun x=>wpAny _ _ (call _ [x,_]) _ _ _) fun t=>IsiPair.str_int (ci.tok R _ (.bool _) h)
 | _=>exact h.elim
theorem CL(hh:A.handled=none)(R:bJ W s.heap ρ σ)(ra:aK W s.heap ρ a x)(h:fP σ a=some l)(hb:l.length<big)(hQ:Q (.tup l) σ) :
  wpAny (model W.prog W.w) A (call (.type "tuple") [x]) (ci W ρ s Q) E s:=by
 refine mQ (M:=fun a=>aK W s.heap ρ a x→wpAny _ _ (call (.type "tuple") [x]) _ _ _) h (fun ra=>?_) (fun n e ra=>?_) ra
 ·exact ra.tupU (M:=fun x=>wpAny _ _ (call _ [x]) _ _ _) fun ad o items ek ho hc hd hx hr=>call_tuple_same ⟨o,ho,hc,ek,hd⟩ (ci.here R (.tup ho hc hd hx hr) hQ)
 ·refine bt (R.list_at ra e) fun p ad ep hp1 hp2 q items ek ho hr hz=>?_;subst q;refine ll (call_tuple_list (items:=items) ⟨_,ho,rfl,ek,rfl⟩ (fun h' k hz=>?_) (by rw [hz];exact gJ hb));have kk:∀b o,s.heap.get? b=some o→(h'.push {cls:=.type "tuple",data:=.seq items}).get? b=some o:=fun b o e=>aA _ (k b o e);exact ci.keep (t:=s.toks) R kk hz (.tup (aQ _ rfl) rfl rfl ⟨rfl,rfl,fun p=>(R.priv _ p).elim fun z_ h1=>bX _ (bo (k _ _ h1.1))⟩ (hr.mono (fun b o e z_ z_=>kk b o e) (aB _))) hQ
theorem Gm(hh:A.handled=none)(R:bJ W s.heap ρ σ)(ra:aK W s.heap ρ (.obj n) x)(e:σ[n]?=some (.list l))(hi:∀v∈l,∃i:Int,v=.int i∧0≤i∧i<2^40)(hQ:Q (.int (l.map V.toInt).sum) σ) :
  wpAny (model W.prog W.w) A (call (.builtin "sum") [x]) (ci W ρ s Q) E s:=by
 refine bt (R.list_at ra e) fun p ad ep hp1 hp2 q items ek ho hr hz=>?_;subst q;have hl:s.heap.IsList ad items:=⟨_,ho,rfl,ek,rfl⟩
 refine ll (call_sum_walkG (wpAny_pyIter_list hl ⟨_,_,_,_,_,_,fun i=>((l[i]?).getD .none).toInt,rfl,Walks.list (by exact hh) _ ad (aN (bo ho)) items,?_,?_,?_,?_⟩))
 ·exact ⟨⟨_,aQ _ rfl,rfl,rfl⟩,⟨_,aA _ ho,rfl,ek,rfl⟩⟩
 ·intro b hb;simp only [List.mem_cons,an,or_false] at hb;rw [br];rcases hb with rfl | rfl
  ·exact bY _
  ·exact Nat.lt_succ_of_lt (bo ho)
 ·intro i v hv;have hlt:i<l.length:=by rw [←hz];exact (Array.getElem?_eq_some_iff.mp hv).1
  refine bG (fF hr (aC hlt)) fun u hu ru=>?_;rw [hv] at hu;cases hu;refine bG (hi l[i] (List.getElem_mem hlt)) fun k hk z_=>?_;rw [hk] at ru;refine xe ru.E fun t y=>?_;subst y;refine ⟨t,?_⟩;show Value.int k t=Value.int ((l[i]?.getD V.none).toInt) t;rw [aC hlt,hk];rfl
 ·intro h' tk t' hk hsz';have key:preSum (fun i=>((l[i]?).getD .none).toInt) items.size=(l.map V.toInt).sum:=by
   rw [hz];have:∀n,n≤l.length→preSum (fun i=>((l[i]?).getD .none).toInt) n=((l.take n).map V.toInt).sum:=by
    intro n
    induction n with
    | zero=>intro _;simp [preSum]
    | succ n ih =>
     intro hn;rw [preSum,ih (by omega),List.take_succ_eq_append_getElem (by omega),List.map_append,List.sum_append,aC (by omega)];simp
   rw [this l.length (ax _),List.take_length]
  rw [key];refine ci.keep R (fun b o e=>hk b o (fun hb=>?_) (aA _ e)) hsz' (.int _ _) hQ;simp only [List.mem_cons,an,or_false] at hb;subst hb;exact bX _ (bo e)
theorem sn(h:GW v=true):∃i,v=.int i:=V.intU (M:=fun v=>∃i,v=.int i) (f:=fun v=>GW v=true) h (fun i z_=>⟨i,rfl⟩) bF (fun z_=>bF) (fun z_=>bF) (fun z_=>bF) (fun z_=>bF) (fun z_=>bF)
theorem sq(h:Hw v=true):∃i,v=.str i:=by
 induction v using V.ind with
 | h3 s=>exact ⟨s,rfl⟩
 | _=>exact bF h
theorem mB(h:v8 v=true):∃i j,v=.tup [.int i,.int j]:=by
 refine V.tupU (M:=fun v=>∃i j,v=.tup [.int i,.int j]) (f:=fun v=>v8 v=true) h (fun l h=>?_) bF (fun z_=>bF) (fun z_=>bF) (fun z_=>bF) (fun z_=>bF) (fun z_=>bF);rcases l with _ | ⟨a,l⟩
 ·exact bF h
 refine V.intU (M:=fun a=>∃i j,V.tup (a::l)=.tup [.int i,.int j]) (f:=fun a=>v8 (.tup (a::l))=true) h (fun i h=>?_) bF (fun z_=>bF) (fun z_=>bF) (fun z_=>bF) (fun z_=>bF) (fun z_=>bF);rcases l with _ | ⟨b,l⟩
 ·exact bF h
 refine V.intU (M:=fun b=>∃i' j,V.tup (.int i::b::l)=.tup [.int i',.int j]) (f:=fun b=>v8 (.tup (.int i::b::l))=true) h (fun j h=>?_) bF (fun z_=>bF) (fun z_=>bF) (fun z_=>bF) (fun z_=>bF) (fun z_=>bF);rcases l with _ | ⟨c,l⟩
 ·exact ⟨i,j,rfl⟩
 ·exact bF h
theorem V.strU{M:V→Prop}{f:V→Prop}(h:f v)(k1:∀n,f (.str n)→M (.str n))(n0:¬f .none)(n1:∀b,¬f (.bool b))(n2:∀i,¬f (.obj i))(n3:∀i,¬f (.int i))(n4:∀l,¬f (.tup l))(n5:∀l,¬f (.ints l)):M v:=by
 induction v using V.ind with
 | h0=>exact absurd h n0
 | h1 b=>exact absurd h (n1 b)
 | h2 b=>exact absurd h (n3 b)
 | h3 b=>exact k1 b h
 | h4 n=>exact absurd h (n2 n)
 | h5 b=>exact absurd h (n5 b)
 | ht b=>exact absurd h (n4 b)
theorem mC(h:yZ v=true):∃i j,v=.tup [.str i,.int j]:=by
 refine V.tupU (M:=fun v=>∃i j,v=.tup [.str i,.int j]) (f:=fun v=>yZ v=true) h (fun l h=>?_) bF (fun z_=>bF) (fun z_=>bF) (fun z_=>bF) (fun z_=>bF) (fun z_=>bF);rcases l with _ | ⟨a,l⟩
 ·exact bF h
 refine V.strU (M:=fun a=>∃i j,V.tup (a::l)=.tup [.str i,.int j]) (f:=fun a=>yZ (.tup (a::l))=true) h (fun i h=>?_) bF (fun z_=>bF) (fun z_=>bF) (fun z_=>bF) (fun z_=>bF) (fun z_=>bF);rcases l with _ | ⟨b,l⟩
 ·exact bF h
 refine V.intU (M:=fun b=>∃i' j,V.tup (.str i::b::l)=.tup [.str i',.int j]) (f:=fun b=>yZ (.tup (.str i::b::l))=true) h (fun j h=>?_) bF (fun z_=>bF) (fun z_=>bF) (fun z_=>bF) (fun z_=>bF) (fun z_=>bF);rcases l with _ | ⟨c,l⟩
 ·exact ⟨i,j,rfl⟩
 ·exact bF h
end
section
variable{E:Value→Shared→Prop}{c:V}
theorem xj{T:String}{v:Value}(ht:∀s:Shared,(∀b o,h.get? b=some o→s.heap.get? b=some o)→s.TypeIs v T){M:Model}:Looks M h (typeOf v) (.type T):=fun A Q E s k q=>wpAny_typeOf (ht s k) q
theorem xO{T:String}{P:SortKind→Shared→Prop}{E:Value→Shared→Prop}(hT:T≠"tuple")(r:aZ W s.heap ρ l vs)(h2:2≤l.length)(ht:∀v∈l,∀u,aK W s.heap ρ v u→∀s:Shared,s.TypeIs u T)(h:P oneType' s) :
  wpAny (model W.prog W.w) A (keyKind' vs.toArray) P E s:=by
 refine kas_kind (T:=.type T) (by rw [r.length];exact h2) (fun u hu=>?_) ?_ (by simp) h
 ·refine bG (xS r u hu) fun v hv hr=>?_;exact xj fun s' z_=>ht v hv u hr s'
 ·simp [bne,hT]
theorem uj(r:aZ W h ρ l vs)(hi:i<l.length):aK W h ρ (l.getD i .none) (vs.getD i .none)∧l.getD i .none∈l:=by
 refine bG (r.get (aC hi)) fun u h1 h2=>?_;have e:l.getD i .none=l[i]:=by rw [List.getD_eq_getElem?_getD,aC hi];rfl
 have e2:vs.getD i .none=u:=by rw [List.getD_eq_getElem?_getD,h1];rfl
 rw [e,e2];exact ⟨h2,List.getElem_mem hi⟩
structure Iv(W:Wd)(A:Around)(ρ:Rho)(h:Heap)(l:List V)(vs:List Value)(κ:SortKind):Prop where
 kind:∀{P:SortKind→Shared→Prop} {E:Value→Shared→Prop} (s:Shared),s.heap=h→2≤l.length→P κ s→wpAny (model W.prog W.w) A (keyKind' vs.toArray) P E s
 lt:∀{P:Bool→Shared→Prop} {E:Value→Shared→Prop} (s:Shared) (i j:Nat),s.heap=h→i<l.length→j<l.length→(∀t,P (xR (l.getD i .none) (l.getD j .none)) {s with toks:=t})→
  wpAny (model W.prog W.w) A (keyLt' κ (vs.getD i .none) (vs.getD j .none)) P E s
theorem xZ{b:Bool}{P:Bool→Shared→Prop}{u v:Addr}{ou ov:Obj}{k1 k2:Nat}{p q p' q':Value}{r:Bool}{E:Value→Shared→Prop}(hu:s.heap.get? u=some ou)(du:ou.data=.seq #[p,q] k1)(hv:s.heap.get? v=some ov)(dv:ov.data=.seq #[p',q'] k2)
  {e:Bool} (h1:∀(Q:Bool→Shared→Prop) E,Q e s→wpAny (model W.prog W.w) A (eqBool p p') Q E s)
  (h2:e=false→∀(Q:Bool→Shared→Prop) E,(∀t,Q r {s with toks:=t})→wpAny (model W.prog W.w) A (oneLt' b p p') Q E s)
  {e':Bool} (h3:∀(Q:Bool→Shared→Prop) E,Q e' s→wpAny (model W.prog W.w) A (eqBool q q') Q E s)
  (h4:e=true→e'=true→r=false)
  (h5:e=true→e'=false→∀(Q:Bool→Shared→Prop) E,(∀t,Q r {s with toks:=t})→wpAny (model W.prog W.w) A (oneLt' false q q') Q E s) (hQ:∀t,P r {s with toks:=t}) :
  wpAny (model W.prog W.w) A (keyLt' (tuples' b) (.ref u) (.ref v)) P E s:=by
 refine kat_lt hu du hv dv ?_;show KatLex W.prog W.w A b false P [(p,p'),(q,q')] 0 s;refine kat_cons (h1 _ _ ?_)
 cases e with
 | false =>
  refine kat_no ?_;have:(b&&(0==0))=b:=by simp
  rw [this];exact h2 rfl _ _ hQ
 | true =>
  refine kat_yes (kat_cons (h3 _ _ ?_))
  cases e' with
  | false =>
   refine kat_no ?_;have:(b&&(0+1==0))=false:=by simp
   rw [this];exact h5 rfl rfl _ _ hQ
  | true =>
   refine kat_yes (kat_nil ?_);have:=h4 rfl rfl;have h:=hQ s.toks;rw [this] at h;exact h
theorem lM{i j:Int}{t u:Tok}{b:Bool}{P:Bool→Shared→Prop}(h:∀t,P (decide (i<j)) {s with toks:=t}):wpAny (model W.prog W.w) A (oneLt' b (.int i t) (.int j u)) P E s:=by
 cases b
 ·exact kat_one _ _ (PyProof.Rows.lt_int (h s.toks))
 ·exact oneLt_int (h s.toks)
theorem ku(r:aK W h ρ (.tup [a,b]) x):∃ad o p q k,x=.ref ad∧h.get? ad=some o∧o.cls=.type "tuple"∧o.data=.seq #[p,q] k∧aK W h ρ a p∧aK W h ρ b q:=by
 refine cp r.E fun ad o items ek y ho hc hd hx hr=>?_;subst y;obtain ⟨items⟩:=items;refine cS hr.E fun u us e1 r1 r2=>?_;refine cS r2.E fun w ws e2 r3 r4=>?_;cases e1.trans (congrArg _ (e2.trans (congrArg _ r4.E)));exact ⟨ad,o,_,_,ek,rfl,ho,hc,hd,r1,r3⟩
theorem ym{K:Value→Prop}(r:aZ W h ρ l vs):(∀v∈l,∃a b,v=.tup [a,b]∧∀p,aK W h ρ a p→K p)→∃fs,KatTups h vs fs∧fs.length=l.length∧∀f∈fs,K f :=
 r.ind (M:=fun l vs=>(∀v∈l,∃a b,v=.tup [a,b]∧∀p,aK W h ρ a p→K p)→∃fs,KatTups h vs fs∧fs.length=l.length∧∀f∈fs,K f) (fun z_=>⟨[],KatTups.nil,rfl,fun z_ h=>absurd h an⟩) fun {v a l as} x r ih hk=>by
  refine f7 (ih fun v hv=>hk v (aj _ hv)) fun fs h1 h2 h3=>?_;refine cY (hk _ ai) fun a b w hK=>?_;subst w;refine gx (ku x) fun ad o p q k y ho hc hd r1 r2=>?_;subst y;exact ⟨p::fs,KatTups.cons ho hc hd (by rfl) h1,congrArg Nat.succ h2,fun f hf=>(aP.mp hf).elim (fun e=>e▸hK _ r1) (h3 f)⟩
theorem wP{i j:String}{t u:Tok}{P:Bool→Shared→Prop}(h:∀t,P (decide ((Str.ofString i).cps.toList<(Str.ofString j).cps.toList)) {s with toks:=t}):wpAny (model W.prog W.w) A (oneLt' true (.str (Str.ofString i) t) (.str (Str.ofString j) u)) P E s :=
 oneLt_str (h s.toks)
theorem tt{K:V→Prop}(hk:∀v∈l,K v)(r:aZ W h ρ l vs){j:Nat}{G:V→V→Value→Value→Prop}(hi:i<l.length)(hj:j<l.length)(k:∀a b u w,K a→K b→aK W h ρ a u→aK W h ρ b w→G a b u w):G (l.getD i .none) (l.getD j .none) (vs.getD i .none) (vs.getD j .none) :=
 have r1:=uj r hi;have r2:=uj r hj
 k _ _ _ _ (hk _ r1.2) (hk _ r2.2) r1.1 r2.1
section
variable{P:Bool→Shared→Prop}{u w:Value}{i j a' b':Int}{m n:String}
theorem lt_int(r1:aK W s.heap ρ (.int i) u)(r2:aK W s.heap ρ (.int j) w)(hP:∀t,P (xR (.int i) (.int j)) {s with toks:=t}):wpAny (model W.prog W.w) A (keyLt' oneType' u w) P E s:=by
 refine xe r1.E fun z_ q=>?_;subst q;refine xe r2.E fun z_ x=>?_;subst x;exact kat_lt_int (hP s.toks)
theorem FR(r1:aK W s.heap ρ (.str m) u)(r2:aK W s.heap ρ (.str n) w)(hP:∀t,P (xR (.str m) (.str n)) {s with toks:=t}):wpAny (model W.prog W.w) A (keyLt' oneType' u w) P E s:=by
 refine xe r1.E fun z_ q=>?_;subst q;refine xe r2.E fun z_ x=>?_;subst x;exact kas_lt_str (hP s.toks)
theorem He{a b:Int}(r1:aK W s.heap ρ (.tup [.int a,.int a']) u)(r2:aK W s.heap ρ (.tup [.int b,.int b']) w)(hP:∀t,P (xR (.tup [.int a,.int a']) (.tup [.int b,.int b'])) {s with toks:=t}):wpAny (model W.prog W.w) A (keyLt' (tuples' true) u w) P E s:=by
 refine gx (ku r1) fun ad o p q k x ho hc hd s1 s2=>?_;subst x;refine gx (ku r2) fun ad' o' p' q' k' y ho' hc' hd' s1' s2'=>?_;subst y;refine xe s1.E fun z_ z=>?_;subst z;refine xe s2.E fun z_ v=>?_;subst v;refine xe s1'.E fun z_ n=>?_;subst n;refine xe s2'.E fun z_ m=>?_;subst m;refine xZ (e:=a==b) (e':=a'==b') (r:=decide (a<b∨(a=b∧a'<b'))) ho hd ho' hd' (fun Q E hq=>(SeqAt.EqAt.int_int _ _ _ _) _ _ _ _ hq) (fun he Q E hq=>lM fun t=>?_)
  (fun Q E hq=>(SeqAt.EqAt.int_int _ _ _ _) _ _ _ _ hq) (fun h1 h2=>?_) (fun h1 h2 Q E hq=>lM fun t=>?_) hP
 ·have hn:a≠b:=by simpa using he
  have:decide (a<b∨(a=b∧a'<b'))=decide (a<b):=by simp [hn]
  rw [←this];exact hq t
 ·have e1:a=b:=by simpa using h1
  have e2:a'=b':=by simpa using h2
  simp [e1,e2]
 ·have e1:a=b:=by simpa using h1
  have:decide (a<b∨(a=b∧a'<b'))=decide (a'<b'):=by simp [e1]
  rw [←this];exact hq t
theorem Hf{a b:String}(r1:aK W s.heap ρ (.tup [.str a,.int a']) u)(r2:aK W s.heap ρ (.tup [.str b,.int b']) w)(hP:∀t,P (xR (.tup [.str a,.int a']) (.tup [.str b,.int b'])) {s with toks:=t}):wpAny (model W.prog W.w) A (keyLt' (tuples' true) u w) P E s:=by
 refine gx (ku r1) fun ad o p q k y ho hc hd s1 s2=>?_;subst y;refine gx (ku r2) fun ad' o' p' q' k' z ho' hc' hd' s1' s2'=>?_;subst z;refine xe s1.E fun t1 v=>?_;subst v;refine xe s1'.E fun t2 n=>?_;subst n;refine xe s2.E fun z_ m=>?_;subst m;refine xe s2'.E fun z_ j=>?_;subst j;have irr:∀x:List Nat,¬x<x:=fun x=>List.lt_irrefl x;refine xZ (e:=Str.ofString a==Str.ofString b) (e':=a'==b') (r:=decide ((Str.ofString a).cps.toList<(Str.ofString b).cps.toList∨(a=b∧a'<b'))) ho hd ho' hd' (fun Q E hq=>(SeqAt.EqAt.str_str _ _ _ _) _ _ _ _ hq) (fun he Q E hq=>wP fun t=>?_)
  (fun Q E hq=>(SeqAt.EqAt.int_int _ _ _ _) _ _ _ _ hq) (fun h1 h2=>?_) (fun h1 h2 Q E hq=>lM fun t=>?_) hP
 ·have hn:a≠b:=by rw [kn] at he;simpa using he
  have:decide ((Str.ofString a).cps.toList<(Str.ofString b).cps.toList∨(a=b∧a'<b'))=decide ((Str.ofString a).cps.toList<(Str.ofString b).cps.toList):=by simp [hn]
  rw [←this];exact hq t
 ·have e1:a=b:=by rw [kn] at h1;simpa using h1
  have e2:a'=b':=by simpa using h2
  simp [e1,e2]
 ·have e1:a=b:=by rw [kn] at h1;simpa using h1
  have:decide ((Str.ofString a).cps.toList<(Str.ofString b).cps.toList∨(a=b∧a'<b'))=decide (a'<b'):=by
   rw [decide_eq_decide,e1];exact ⟨fun h=>h.elim (fun h=>absurd h (irr _)) (·.2),fun h=>.inr ⟨rfl,h⟩⟩
  rw [←this];exact hq t
end
theorem Gk(W:Wd)(A:Around)(ρ:Rho)(hs:cF l=true):∃κ,∀{h:Heap} {vs:List Value},aZ W h ρ l vs→Iv W A ρ h l vs κ:=by
 have hs:=(a8.1 hs).2;rcases cf.1 hs with hs | hk
 ·rcases cf.1 hs with hs | hk
  ·rcases cf.1 hs with hk | hk
   ·have hk:=cB.1 hk;refine ⟨oneType',fun {h vs} r=>⟨fun s hh h2 q=>?_,@fun P E s i j hh hi hj hP=>?_⟩⟩
    ·subst hh;exact xO (T:="int") (by decide) r h2 (fun v hv u hr s'=>(sn (hk v hv)).elim fun i e=>(e▸hr).intU (M:=fun u=>s'.TypeIs u "int") fun z_=>typeIs_int _ _ _) q
    ·subst hh;exact tt (G:=fun a b u w=>(∀t,P (xR a b) {s with toks:=t})→wpAny (model W.prog W.w) A (keyLt' oneType' u w) _ _ s) hk r hi hj (fun a b u w ha hb r1 r2 hP=>by
      refine xe (sn ha) fun a x=>?_;subst x;refine xe (sn hb) fun b y=>?_;subst y;exact lt_int r1 r2 hP) hP
   ·have hk:=cB.1 hk;refine ⟨oneType',fun {h vs} r=>⟨fun s hh h2 q=>?_,@fun P E s i j hh hi hj hP=>?_⟩⟩
    ·subst hh;exact xO (T:="str") (by decide) r h2 (fun v hv u hr s'=>(sq (hk v hv)).elim fun i e=>(e▸hr).strU (M:=fun u=>s'.TypeIs u "str") fun z_=>typeIs_str _ _ _) q
    ·subst hh;exact tt (G:=fun a b u w=>(∀t,P (xR a b) {s with toks:=t})→wpAny (model W.prog W.w) A (keyLt' oneType' u w) _ _ s) hk r hi hj (fun a b u w ha hb r1 r2 hP=>by
      refine xe (sq ha) fun a z=>?_;subst z;refine xe (sq hb) fun b n=>?_;subst n;exact FR r1 r2 hP) hP
  ·have hk:=cB.1 hk;refine ⟨tuples' true,fun {h vs} r=>⟨fun s hh h2 q=>?_,@fun P E s i j hh hi hj hP=>?_⟩⟩
   ·subst hh;refine f7 (ym (K:=fun p=>∃i t,p=.int i t) r fun v hv=>(mB (hk v hv)).elim fun i e=>e.elim fun j e=>⟨_,_,e,fun p hp=>hp.intU (M:=fun p=>∃i t,p=.int i t) fun t=>⟨_,t,rfl⟩⟩) fun fs f1 f2 f3=>?_;exact kat_kind (T:=.type "int") f1 (by omega) (fun v hv=>(f3 v hv).elim fun i e=>e.elim fun t e=>e▸xj fun s' z_=>typeIs_int _ _ _) (by decide) (by rw [show (Value.type "int" !=Value.type "tuple")=true by rfl];exact q)
   ·subst hh;exact tt (G:=fun a b u w=>(∀t,P (xR a b) {s with toks:=t})→wpAny (model W.prog W.w) A (keyLt' (tuples' true) u w) _ _ s) hk r hi hj (fun a b u w ha hb r1 r2 hP=>by
     refine Ak (mB ha) fun a a' m=>?_;subst m;refine Ak (mB hb) fun b b' k=>?_;subst k;exact He r1 r2 hP) hP
 ·have hk:=cB.1 hk;refine ⟨tuples' true,fun {h vs} r=>⟨fun s hh h2 q=>?_,@fun P E s i j hh hi hj hP=>?_⟩⟩
  ·subst hh;refine f7 (ym (K:=fun p=>∃i t,p=.str i t) r fun v hv=>(mC (hk v hv)).elim fun i e=>e.elim fun j e=>⟨_,_,e,fun p hp=>hp.strU (M:=fun p=>∃i t,p=.str i t) fun t=>⟨_,t,rfl⟩⟩) fun fs f1 f2 f3=>?_;exact kat_kind (T:=.type "str") f1 (by omega) (fun v hv=>(f3 v hv).elim fun i e=>e.elim fun t e=>e▸xj fun s' z_=>typeIs_str _ _ _) (by decide) (by rw [show (Value.type "str" !=Value.type "tuple")=true by rfl];exact q)
  ·subst hh;exact tt (G:=fun a b u w=>(∀t,P (xR a b) {s with toks:=t})→wpAny (model W.prog W.w) A (keyLt' (tuples' true) u w) _ _ s) hk r hi hj (fun a b u w ha hb r1 r2 hP=>by
    refine Ak (mC ha) fun a a' g=>?_;subst g;refine Ak (mC hb) fun b b' f=>?_;subst f;exact Hf r1 r2 hP) hP
theorem rL{h₁:Heap}{t₁:Tok}(hl:cF l=true)(R:bJ W s.heap ρ σ)(k:∀b o,s.heap.get? b=some o→h₁.get? b=some o)(hz:s.heap.objs.size≤h₁.objs.size)
  (r:aZ W s.heap ρ l vs) (hQ:Q (.obj σ.length) (σ++[.list (cz l)])) :
  wpAny (model W.prog W.w) A.in1 (newList vs >>=fun l=>holding [l] (call (.builtin "list.sort") [l]) >>=fun z_=>ret l) (fun fin s'=>∃v,fin=.done (.ret v)∧ci W ρ s Q v s') E {s with heap:=h₁,toks:=t₁}:=by
 have h64:l.length<64:=by
  unfold cF at hl;rw [Bool.and_eq_true,decide_eq_true_eq] at hl;exact hl.1
 refine af (wpAny_newList ?_ (by rw [r.length,sizeLine_eq];omega));obtain ⟨h₂,hh2⟩:∃h₂,h₂=h₁.push (seqObj "list" vs.toArray 0):=⟨_,rfl⟩
 have hD:h₂.get? h₁.objs.size=some (seqObj "list" vs.toArray 0):=by rw [hh2];exact aQ _ rfl
 have k2:∀b o,s.heap.get? b=some o→h₂.get? b=some o:=fun b o e=>by rw [hh2];exact aA _ (k b o e)
 show wpAny _ _ _ _ _ {s with heap:=h₁.push (seqObj "list" vs.toArray 0),toks:=t₁};rw [←hh2];show wpAny _ _ (holding [.ref h₁.objs.size] (call (.builtin "list.sort") [.ref h₁.objs.size]) >>=fun z_=>ret (.ref h₁.objs.size)) _ _ _;have hs2:h₂.objs.size=h₁.objs.size+1:=by rw [hh2,br]
 refine af (a9 (wpAny_call_entry slot_list_sort ⟨_,hD,rfl⟩ entry_list_sort ?_ (args_list_sort _)));refine xe (Gk W A.in1.in1 ρ hl) fun κ S=>?_;have gone:∀{b:Addr} {o:Obj},s.heap.get? b=some o→b≠h₁.objs.size:=fun e=>aN (al (bo e) hz);refine ll (B1 (s:={s with heap:=h₂,toks:=t₁}) (l:=l) (n:=0) (κ:=κ) hD r.length h64 ?_ ?_ ?_)
 ·intro h2 h1 t Q' hk hq;exact (S (h:=h1) (r.mono (fun b o e z_ z_=>hk b o (gone e) (k2 b o e)) (aB _))).kind {s with heap:=h1,toks:=t} rfl h2 (hq t)
 ·intro h2 h1 t i j Q' hi hj hk hq;exact (S (h:=h1) (r.mono (fun b o e z_ z_=>hk b o (gone e) (k2 b o e)) (aB _))).lt {s with heap:=h1,toks:=t} i j rfl hi hj hq
 ·intro h' t c p hp hps hk hg hsz2;have hsz2:h₂.objs.size≤h'.objs.size:=hsz2;refine ⟨_,rfl,ak ⟨_,rfl,?_⟩⟩;have kk:∀b o,s.heap.get? b=some o→h'.get? b=some o:=fun b o e=>hk b o (gone e) (k2 b o e);have hsz':s.heap.objs.size≤h'.objs.size:=by rw [hs2] at hsz2;omega
  have k':bg W s.heap h':=fun a o e z_ z_=>kk a o e;rw [hps] at hQ;have rr:=DZ r hp;refine ⟨_,_,_,nR (u:=h₁.objs.size) (d:=h₁.objs.size) kk hsz' hz hz,R.grow (o:=.list (p.map fun i=>l.getD i .none)) kk hsz' hz hz ⟨rfl,_,c,hg,?_⟩,.obj (a:=h₁.objs.size) (d:=h₁.objs.size) ?_,hQ⟩
  ·rw [List.toList_toArray];exact rr.mono k' (cj ..)
  ·rw [←R.len,aL (ax _)];simp
set_option tactic.hygienic true in
theorem z6(hs:sysModules<W.h₀.objs.size)(hh:A.handled=none)(R:bJ W s.heap ρ σ)(ra:aK W s.heap ρ a x)(h:uJ σ a=some l)(hl:cF l=true)(hQ:Q (.obj σ.length) (σ++[.list (cz l)])) :
  wpAny (model W.prog W.w) A (call (.builtin "sorted") [x]) (ci W ρ s Q) E s:=by
 have h64:l.length<64:=by
  unfold cF at hl;rw [Bool.and_eq_true,decide_eq_true_eq] at hl;exact hl.1
 refine Calls.call_function_entry kind_sorted plain_sorted entry_sorted (args_sorted1 _) ?_;unfold Builtin.«sorted»;refine af (m:=checkCount "sorted" 1 1 _) (ak ?_);show wpAny _ _ (collect x >>=fun vs=>newList vs >>=fun l=>holding [l] (call (.builtin "list.sort") [l]) >>=fun z_=>ret l) _ _ _;refine Bw (M:=fun a l=>aK W s.heap ρ a x→l.length<64→cF l=true→Q (.obj σ.length) (σ++[.list (cz l)])→_) h (fun n l e ra h64 hl hQ=>?_) (fun n ld i e ra h64 hl hQ=>?_) ra h64 hl hQ
 ·refine bt (R.list_at ra e) fun p ad ep hp1 hp2 q items ek ho hr hz=>?_;subst q;have hL:s.heap.IsList ad items.toList.toArray:=⟨_,ho,rfl,ek,by rw [Array.toArray_toList]⟩
  refine af (collect_list hL ?_ (by rw [hr.length,sizeLine_eq];omega));refine rL hl R (fun b o e=>?_) ?_ hr hQ
  ·rw [Heap.get?_update_ne _ _ _ _ (aN (bo e))];exact aA _ e
  ·rw [Heap.size_update,br];exact Nat.le_succ _
 ·refine bC (R.dict_at ra e) fun p ad ep hp1 hp2 y hn es ek z_ ho hr hz=>?_;subst y;have q1:(ad==sysModules)=false:=beq_eq_false_iff_ne.mpr (bN (al hs hn));rw [aJ] at h64;refine af (ll (kdu_collect (yd (es:=es) (ep:=ek) q1) hh ho (by rw [hz,sizeLine_eq];omega) fun h' tk acc k hI hsz'=>?_));exact rL hl R k hsz' (uC hr hI) hQ
end
noncomputable def k9:iM→Value
 | .len=>.builtin "len" | .list=>.type "list" | .tuple=>.type "tuple" | .sorted=>.builtin "sorted" | .max=>.builtin "max" | .int=>.type "int" | .isTuple=>.builtin "isinstance" | .isInt=>.builtin "isinstance" | .sum=>.builtin "sum"
noncomputable def lg:iM→List Value
 | .isTuple=>[.type "tuple"] | .isInt=>[.type "int"] | _=>[]
section
variable{E:Value→Shared→Prop}{c:V}{attrs:List String}
theorem gr{p:iM}{ys:List Value}{f:V→Prop}(h:nK l f)(k:∀v u,aK W s.heap ρ v u→f v→wpAny (model W.prog W.w) A (call (k9 p) (u::lg p)) (ci W ρ s Q) E s)(rl:aZ W s.heap ρ l ys):wpAny (model W.prog W.w) A (call (k9 p) (ys++lg p)) (ci W ρ s Q) E s :=
 mK (M:=fun l=>aZ W s.heap ρ l ys→wpAny (model W.prog W.w) A (call (k9 p) (ys++lg p)) (ci W ρ s Q) E s) h (fun v hv rl=>rl.consU (M:=fun ys=>wpAny _ _ (call (k9 p) (ys++lg p)) _ _ _) fun u us r0 rl=>rl.nilU (M:=fun us=>wpAny _ _ (call (k9 p) (u::us++lg p)) _ _ _) (k v u r0 hv)) rl
set_option tactic.hygienic true in
theorem D2{p:iM}{ys:List Value}(O:Fp W attrs)(hh:A.handled=none)(R:bJ W s.heap ρ σ)(rl:aZ W s.heap ρ l ys)(h:ic p l σ Q) :
  wpAny (model W.prog W.w) A (call (k9 p) (ys++lg p)) (ci W ρ s Q) E s:=by
 induction p with
 | max =>
  refine qr (M:=fun l=>aZ W s.heap ρ l ys→wpAny _ _ (call (.builtin "max") (ys++[])) _ _ _) h (fun z_ h=>h.elim) (fun v w h rl=>?_) rl;obtain ⟨u1,us,rfl,r0,rl⟩:=rl.E;obtain ⟨u2,us,rfl,r1,rl⟩:=rl.E;obtain rfl:=rl.E;exact eT (M:=fun v=>aK W s.heap ρ v u1→wpAny _ _ (call (.builtin "max") ([u1,u2]++[])) _ _ _) (f:=fun i=>zw w fun j=>Q (.int (max i j)) σ) h (fun i h r0=>eT (M:=fun w=>aK W s.heap ρ w u2→wpAny _ _ (call (.builtin "max") ([u1,u2]++[])) _ _ _) h (fun j h r1=>FT hh R r0 r1 h) r1) r0
 | len=>exact gr (p:=.len) h (fun v u r h=>bZ h fun n hn h=>tV O.sys R r hn h.1 h.2) rl
 | list=>exact gr (p:=.list) h (fun v u r h=>bZ h fun n hn h=>r5 O.sys hh R r hn h.1 h.2) rl
 | tuple=>exact gr (p:=.tuple) h (fun v u r h=>bZ h fun n hn h=>CL hh R r hn h.1 h.2) rl
 | sorted=>exact gr (p:=.sorted) h (fun v u r h=>bZ h fun n hn h=>z6 O.sys hh R r hn h.1 h.2) rl
 | int=>exact gr (p:=.int) h (fun v u r h=>FK R r h) rl
 | isTuple=>exact gr (p:=.isTuple) h (fun v u r h=>wb R r h) rl
 | isInt=>exact gr (p:=.isInt) h (fun v u r h=>Be R r h) rl
 | sum=>exact gr (p:=.sum) h (fun v u r h=>xX (M:=fun v=>aK W s.heap ρ v u→wpAny _ _ (call (.builtin "sum") [u]) _ _ _) (f:=fun n=>atL σ[n]? fun l=>_) h (fun n h r=>mi h fun l e h=>Gm hh R r e h.2.1 h.2.2) r) rl
set_option tactic.hygienic true in
theorem Ac{i:V}{u:Value}{P:Hp→Prop}{Q':Unit→Shared→Prop}(O:Fp W attrs)(hu:A.units+20<cLine)(R:bJ W s.heap ρ σ)(ra:aK W s.heap ρ v x)(ri:aK W s.heap ρ i y)(rw:aK W s.heap ρ b z)(h:dp v i b σ P)
  (hQ:∀h' t σ',bp gF ρ s ρ {s with heap:=h',toks:=t}→bJ W h' ρ σ'→P σ'→Q' () {s with heap:=h',toks:=t}) :
  wpAny (model W.prog W.w) A (setItem x y z) Q' E s:=by
 refine vg (M:=fun v i=>aK W s.heap ρ v x→aK W s.heap ρ i y→wpAny (model W.prog W.w) A (setItem x y z) Q' E s) h (fun n l k e h ra ri=>?_) (fun n l ek' e h ra ri=>?_) ra ri
 ·refine nU h fun h0 h1 hb h=>?_;refine xe ri.E fun t q=>?_;subst q;refine bt (R.list_at ra e) fun p ad ep hp1 hp2 r items ek ho hr hz=>?_;subst r;have hl:s.heap.IsList ad items:=⟨_,ho,rfl,ek,rfl⟩
  unfold big at hb;delta setItem
  try with_reducible refine a9 ?_
  first | refine af (ak ?_) | skip
  refine af (wpAny_sequenceKey hl.typeIs (by decide) ?_);refine af (wpAny_callSpecial?_slot (name:=Str.ofString "__setitem__") hl.typeIs slot_list_setitem
   (wpAny_call_entry slot_list_setitem hl.typeIs entry_list_setitem ?_ (args_list_setitem _ _ _)))
  show wpAny _ _ (Builtin.List.listSubscript? (.int k t) >>=_) _ _ s;refine af (wpAny_listSubscript_int (fitsIndex_of h0 (by omega)) ?_);refine xe (Int.eq_ofNat_of_zero_le h0) fun j m=>?_;subst m;have hj:j<items.size:=by rw [hz];omega
  refine af (af (wpAny_seqItemAt ho rfl (ak ?_)));rw [Array.getElem?_eq_getElem hj];refine af (wpAny_setSeqItemAt ho rfl ?_);refine ni (vw (f:=fun xs=>xs.setIfInBounds j z) R ep hp1 hp2 ho (by rw [Array.toList_setIfInBounds];exact hr.set j rw) s.toks) fun z_ S R'=>?_;have fin:=hQ _ _ _ S R' h
  first
   | exact af (ak (ak ⟨.none,rfl,ak fin⟩))
   | exact ak ⟨.none,rfl,ak fin⟩
 ·refine ni h fun hk hb h=>?_;refine bC (R.dict_at ra e) fun p ad ep hp1 hp2 g hn es ek z_ ho hr hz=>?_;subst g;have hT:s.TypeIs (.ref ad) "dict":=⟨_,ho,rfl⟩
  unfold big at hb;delta setItem
  try with_reducible refine a9 ?_
  refine af (wpAny_sequenceKey hT (by decide) ?_);refine af (wpAny_callSpecial?_slot (name:=Str.ofString "__setitem__") hT slot_dict_setitem
   (wpAny_call_entry slot_dict_setitem hT entry_dict_setitem ?_ (args_dict_setitem _ _ _)))
  refine af (wpAny_notOrdered_dict hT ?_);show wpAny _ _ (dictSet ad y z >>=_) _ _ s;subst hp1;exact af (po (Hg hu) R ep e hk.1 hk.2 ri rw hb fun h' t R' S=>ak ⟨.none,rfl,ak (hQ h' t _ S R' h)⟩)
end
noncomputable def cb(W:Wd)(ρ:Rho)(h:Heap)(a:Addr):Prop:=W.h₀.objs.size≤a∧a<h.objs.size∧∀(n:Nat) (p:Addr×Addr),ρ[n]?=some p→p.1≠a∧p.2≠a
section
variable{E:Value→Shared→Prop}{c:V}
theorem cb.step{ad:Addr}(h:cb W ρ s.heap ad)(S:bp X ρ s ρ' s'):cb W ρ' s'.heap ad:=by
 refine ni h fun h1 h2 h3=>?_;refine ⟨h1,al h2 S.size,fun n p e=>?_⟩;refine Or.elim (cD n ρ.length) (fun hn=>?_) (fun hn=>?_)
 ·have e':ρ[n]?=some ρ[n]:=aC hn;have:=gM S.pre e';rw [e] at this;cases this;exact h3 n _ e'
 ·have:=S.fresh n p hn e;exact ⟨bN (al h2 this.1),bN (al h2 this.2)⟩
theorem cb.new(R:bJ W s.heap ρ σ){ad:Addr}(h1:s.heap.objs.size≤ad)(h2:ad<h.objs.size):cb W ρ h ad:=by
 refine ⟨am R.size h1,h2,fun n p e=>?_⟩;refine bG (R.alive e) fun o z_ r=>?_;refine CT r.live fun q z_ q2 z_=>?_;refine bG q fun z_ q1 z_=>?_;exact ⟨aN (al (bo q1) h1),aN (al (bo q2) h1)⟩
theorem bJ.own'(R:bJ W h ρ σ){O:Addr→Prop}(hA:∀a,O a→cb W ρ h a)(hT:∀a o,O a→h.get? a=some o→¬kb o)(k:∀b o,¬O b→h.get? b=some o→h'.get? b=some o)(hz:h.objs.size≤h'.objs.size) :
  bg W h h'∧bJ W h' ρ σ:=by
 have tk:bg W h h':=fun a o e c z_=>k a o (fun q=>hT a o q e c) e;refine ⟨tk,R.len,fun n o p e ep=>?_,R.apart,R.new,am R.size hz,fun a o e=>k a o (fun q=>?_) (R.top a o e),fun a p=>?_⟩
 ·exact (R.ob n o p e ep).mono tk (aB _) (fun ob e1=>k _ _ (fun q=>((hA _ q).2.2 n p ep).1 rfl) e1) (fun ob e1=>k _ _ (fun q=>((hA _ q).2.2 n p ep).2 rfl) e1)
 ·exact absurd (bo e) (bS.mpr (hA a q).1)
 ·refine bG (R.priv a p) fun o h1 h2=>?_;exact ⟨o,k _ _ (fun q=>hT a o q h1 h2) h1,h2⟩
theorem bJ.own(R:bJ W h ρ σ){O:Addr→Prop}(hA:∀a,O a→cb W ρ h a)(hT:∀a o,O a→h.get? a=some o→o.cls≠.type "tuple")(k:∀b o,¬O b→h.get? b=some o→h'.get? b=some o)(hz:h.objs.size≤h'.objs.size) :
  bg W h h'∧bJ W h' ρ σ:=R.own' hA (fun a o q e c=>hT a o q e c.1) k hz
structure kP(W:Wd)(owned:Bool)(xs:List V)(ns:List Nat)(σ₀:Hp)(own:List Addr)(I:Addr)(St:Nat→Rho→Heap→Prop)(Mid:Nat→Rho→Heap→Value→Prop):Prop where
 apart:∀{i ρ h},St i ρ h→∀a∈own,cb W ρ h a∧∃o,h.get? a=some o∧(o.cls=.type "tuple"→W.priv a)
 mono:∀{i ρ ρ' s s' X},St i ρ s.heap→bp X ρ s ρ' s'→bg W s.heap s'.heap→(∀a∈own,∀o,s.heap.get? a=some o→s'.heap.get? a=some o)→St i ρ' s'.heap
 item:∀{A E s ρ σ i v Q},A.handled=none→St i ρ s.heap→bJ W s.heap ρ σ→bV ns σ₀ σ→xs[i]?=some v→
  (∀x s',bp (·∈own) ρ s ρ s'→bg W s.heap s'.heap→bJ W s'.heap ρ σ→aK W s'.heap ρ v x→Mid i ρ s'.heap x→Q (some x) s')→wpAny (model W.prog W.w) A (pyNext (.ref I)) Q E s
 go:∀{A E s ρ σ i x Q target},(owned=true→∃e k p,target=Expr.Tuple e k p)→Mid i ρ s.heap x→bJ W s.heap ρ σ→
  (∀s',bp (·∈own) ρ s ρ s'→bg W s.heap s'.heap→bJ W s'.heap ρ σ→St (i+1) ρ s'.heap→Q () s')→wpAny (model W.prog W.w) A (letOwnedTupleGo target (.ref I) x) Q E s
 done:∀{A E s ρ σ Q},A.handled=none→St xs.length ρ s.heap→bJ W s.heap ρ σ→bV ns σ₀ σ→
  (∀s',bp (·∈own) ρ s ρ s'→bg W s.heap s'.heap→bJ W s'.heap ρ σ→Q none s')→wpAny (model W.prog W.w) A (pyNext (.ref I)) Q E s
 self:∀{A E s ρ i Q},St i ρ s.heap→Q (.ref I) s→wpAny (model W.prog W.w) A (pyIter (.ref I)) Q E s
theorem gp{ns:List Nat}{I:Addr}{P:Nat→Rho→Heap→Prop}{cl:String}(hcl:cl≠"tuple")(hn:["enumerate","zip","dict_itemiterator","dict_reverseitemiterator","odict_iterator","itertools.zip_longest","itertools.pairwise"].contains cl=false)
  (cls:∀{i ρ h},P i ρ h→∃o vs,h.get? I=some o∧o.cls=.type cl∧o.data=.fields vs)
  (mono:∀{i ρ ρ' s s' X},P i ρ s.heap→bp X ρ s ρ' s'→bg W s.heap s'.heap→(∀o,s.heap.get? I=some o→s'.heap.get? I=some o)→P i ρ' s'.heap)
  (item:∀{A E s ρ σ i v} {Q:Option Value→Shared→Prop},A.handled=none→cb W ρ s.heap I→P i ρ s.heap→bJ W s.heap ρ σ→bV ns σ₀ σ→xs[i]?=some v→
   (∀x h' t,aK W s.heap ρ v x→Heap.SameBut I s.heap h'→(bg W s.heap h'→P (i+1) ρ h')→Q (some x) {s with heap:=h',toks:=t})→wpAny (model W.prog W.w) A (pyNext (.ref I)) Q E s)
  (done:∀{A E s ρ σ} {Q:Option Value→Shared→Prop},A.handled=none→cb W ρ s.heap I→P xs.length ρ s.heap→bJ W s.heap ρ σ→bV ns σ₀ σ→
   (∀h' t,Heap.ExtBut I s.heap h'→s.heap.objs.size≤h'.objs.size→Q none {s with heap:=h',toks:=t})→wpAny (model W.prog W.w) A (pyNext (.ref I)) Q E s)
  (self:∀{A E s ρ i} {Q:Value→Shared→Prop},P i ρ s.heap→Q (.ref I) s→wpAny (model W.prog W.w) A (pyIter (.ref I)) Q E s) :
  kP W false xs ns σ₀ [I] I (fun i ρ h=>P i ρ h∧cb W ρ h I) (fun i ρ h z_=>P (i+1) ρ h∧cb W ρ h I) where
 apart st a ha:=by
  rw [aq.mp ha];refine cS (cls st.1) fun o vs h1 h2 h3=>?_;exact ⟨st.2,o,h1,fun q=>absurd (h2.symm.trans q) (by simp [hcl])⟩
 mono st S T k:=⟨mono st.1 S T (k I (by simp)),st.2.step S⟩
 item:=fun {A E s ρ σ i v Q} hA st R sd hx hQ=>item hA st.2 st.1 R sd hx fun x h' t rx sb hp=>by
  refine cS (cls st.1) fun o vs h1 h2 h3=>?_;refine xa (R.own (O:=(·∈[I])) (h':=h') (fun a ha=>by rw [aq.mp ha];exact st.2) (fun a o' ha e=>by rw [aq.mp ha,h1] at e;cases e;rw [h2];simp [hcl]) (fun b o hb e=>(sb.2 b (by simpa using hb)).trans e) (by rw [sb.1];exact ax _)) fun tk R'=>?_;have S:bp (·∈[I]) ρ s ρ {s with heap:=h',toks:=t}:=bp.priv (X:=(·∈[I])) (t:=t) (h':=h') (fun b o hb e=>(sb.2 b (by simpa using hb)).trans e) (by rw [sb.1];exact ax _);exact hQ x _ S tk R' (rx.mono tk (aB _)) ⟨hp tk,st.2.step S⟩
 go:=fun {A E s ρ σ i x Q target} _ st R hQ=>by
  have fin:Q () s:=hQ s (bp.refl ..) (bg.refl _ _) R st;refine cS (cls st.1) fun o vs h1 h2 h3=>?_;have key:∀elts k p,wpAny (model W.prog W.w) A (letOwnedTupleGo (.Tuple elts k p) (.ref I) x) Q E s:=fun elts k p=>by
   cases x with
   | ref r =>
    refine af (wpAny_load h1 ?_);rw [h2,h3];show wpAny _ _ (if (["enumerate","zip","dict_itemiterator","dict_reverseitemiterator","odict_iterator","itertools.zip_longest","itertools.pairwise"].contains cl&&vs[0]?==some (rawInt r))=true then _ else _) Q E s;rw [hn,Bool.false_and];rw [if_neg (by decide)];exact ak fin
   | _=>exact ak fin
  cases target with
  | Tuple elts k p=>exact key elts k p
  | List elts p=>exact key elts 0 p
  | _=>exact ak fin
 done hA st R sd hQ:=done hA st.2 st.1 R sd fun h' t sb hz=>by
  refine cS (cls st.1) fun o vs h1 h2 h3=>?_;have kk:∀b o,b∉[I]→_→h'.get? b=some o:=fun b o hb e=>sb b o (by simpa using hb) e;refine xa (R.own (O:=(·∈[I])) (h':=h') (fun a ha=>by rw [aq.mp ha];exact st.2) (fun a o' ha e=>by rw [aq.mp ha,h1] at e;cases e;rw [h2];simp [hcl]) kk hz) fun tk R'=>?_;exact hQ _ (bp.priv (X:=(·∈[I])) (t:=t) (h':=h') kk hz) tk R'
 self st hq:=self st.1 hq
theorem t7{I l:Addr}(x:h.IsListIter I l i):∃o vs,h.get? I=some o∧o.cls=.type "list_iterator"∧o.data=.fields vs:=let ⟨o,h1,h2,h3⟩:=x;⟨o,_,h1,h2,h3⟩
theorem y8{I l:Addr}(e₀:σ₀[n]?=some (.list xs)) :
  ∃St Mid,kP W false xs [n] σ₀ [I] I St Mid∧∀ρ h,h.IsListIter I l 0→ρ[n]?=some (l,l)→cb W ρ h I→St 0 ρ h :=
 ⟨_,_,gp (P:=fun i ρ h=>h.IsListIter I l i∧ρ[n]?=some (l,l)) (cl:="list_iterator") (by decide) (by decide)
  (fun st=>t7 st.1)
  (fun st S z_ k=>⟨let ⟨o,h1,h2⟩:=st.1;⟨o,k o h1,h2⟩,gM S.pre st.2⟩)
  (fun {A E s ρ σ i v Q} hA ap st R sd hx hQ=>by
   have e:σ[n]?=some (.list xs):=by rw [sd n (by simp)];exact e₀
   refine bt (R.list_at (.obj st.2) e) fun p ad ep hp1 hp2 he items ek ho hr hz=>?_;cases he;refine bG (fF hr hx) fun u hu ru=>?_;exact wpAny_pyNext_list_item st.1 ⟨_,ho,rfl,ek,rfl⟩ hu fun h' it' sb=>hQ u h' s.toks ru sb fun z_=>⟨it',st.2⟩)
  (fun {A E s ρ σ Q} hA ap st R sd hQ=>by
   have e:σ[n]?=some (.list xs):=by rw [sd n (by simp)];exact e₀
   refine bt (R.list_at (.obj st.2) e) fun p ad ep hp1 hp2 he items ek ho hr hz=>?_;cases he;exact ll (wpAny_pyNext_list_end hA st.1 ⟨_,ho,rfl,ek,rfl⟩ (Array.getElem?_eq_none (by rw [hz];exact ax _)) fun h' eb hz=>hQ h' s.toks eb hz))
  (fun {A E s ρ i Q} st hq=>wpAny_pyIter_listiter st.1 hq),
 fun ρ h h1 h2 h3=>⟨⟨h1,h2⟩,h3⟩⟩
theorem qc{it t:Addr}{Q:Value→Shared→Prop}(hit:s.heap.IsTupleIter it t i)(h:Q (.ref it) s):wpAny (model W.prog W.w) A (pyIter (.ref it)) Q E s:=by
 refine wpAny_pyIter_slot hit.typeIs F.slot_tuple_iterator_iter (wpAny_call_entry F.slot_tuple_iterator_iter hit.typeIs F.entry_tuple_iterator_iter ?_ (F.args_tuple_iterator_iter_1 _));exact ak ⟨_,rfl,"tuple_iterator",_,hit.typeIs,F.slot_tuple_iterator_next.lookup,h⟩
theorem wh{I t:Addr} :
  ∃St Mid,kP W false xs [] σ₀ [I] I St Mid∧∀ρ h,h.IsTupleIter I t 0→aK W h ρ (.tup xs) (.ref t)→cb W ρ h I→St 0 ρ h :=
 ⟨_,_,gp (P:=fun i ρ h=>h.IsTupleIter I t i∧aK W h ρ (.tup xs) (.ref t)) (cl:="tuple_iterator") (by decide) (by decide)
  (fun st=>let ⟨o,h1,h2,h3⟩:=st.1;⟨o,_,h1,h2,h3⟩)
  (fun st S tk k=>⟨let ⟨o,h1,h2⟩:=st.1;⟨o,k o h1,h2⟩,st.2.mono tk S.pre⟩)
  (fun {A E s ρ σ i v Q} hA ap st R sd hx hQ=>by
   refine xa st fun st1 st2=>?_;have st2':=st2;refine cp st2.E fun z_ o items ek e ho hc hd hxx hr=>?_;cases e;refine bG (fF hr hx) fun u hu ru=>?_;exact wpAny_pyNext_tuple_item st1 ⟨o,ho,hc,ek,hd⟩ hu fun h' it' sb=>hQ u h' s.toks ru sb fun tk=>⟨it',st2'.mono tk (aB _)⟩)
  (fun {A E s ρ σ Q} hA ap st R sd hQ=>by
   refine xa st fun st1 st2=>?_;refine cp st2.E fun z_ o items ek e ho hc hd hxx hr=>?_;cases e;have hz:items.size=xs.length:=by rw [←bu,hr.length]
   exact ll (wpAny_pyNext_tuple_end hA st1 ⟨o,ho,hc,ek,hd⟩ (Array.getElem?_eq_none (by rw [hz];exact ax _)) fun h' eb hz=>hQ h' s.toks eb hz))
  (fun {A E s ρ i Q} st hq=>qc st.1 hq),
 fun ρ h h1 h2 h3=>⟨⟨h1,h2⟩,h3⟩⟩
theorem y6{l:List (V×V)}{ek:Nat}{I d:Addr}(e₀:σ₀[n]?=some (.dict l ek)) :
  ∃St Mid,kP W false (l.map (·.1)) [n] σ₀ [I] I St Mid∧∀ρ h,h.IsKeyIter I d 0 l.length ek→ρ[n]?=some (d,d)→cb W ρ h I→St 0 ρ h :=
 ⟨_,_,gp (P:=fun i ρ h=>h.IsKeyIter I d i l.length ek∧ρ[n]?=some (d,d)) (cl:="dict_keyiterator") (by decide) (by decide)
  (fun st=>let ⟨o,h1,h2,h3⟩:=st.1;⟨o,_,h1,h2,h3⟩)
  (fun st S tk k=>⟨let ⟨o,h1,h2⟩:=st.1;⟨o,k o h1,h2⟩,gM S.pre st.2⟩)
  (fun {A E s ρ σ i v Q} hA ap st R sd hx hQ=>by
   have e:σ[n]?=some (.dict l ek):=by rw [sd n (by simp)];exact e₀
   refine bC (R.dict_at (.obj st.2) e) fun p ad ep hp1 hp2 he hn es ek' e' ho hr hz=>?_;cases he;subst e';rw [List.getElem?_map] at hx;obtain ⟨⟨k,u⟩,hku,rfl⟩:=bR.mp hx;refine iF (hr.at hku) fun aa bb h1 z_ z_ h2 z_=>?_;exact uU (es:=es) (hz▸st.1) ho (by rw [←Array.getElem?_toList];exact h1) fun h' it' sb=>hQ _ h' s.toks h2 sb fun z_=>⟨hz▸it',st.2⟩)
  (fun {A E s ρ σ Q} hA ap st R sd hQ=>by
   have e:σ[n]?=some (.dict l ek):=by rw [sd n (by simp)];exact e₀
   refine bC (R.dict_at (.obj st.2) e) fun p ad ep hp1 hp2 he hn es ek' e' ho hr hz=>?_;cases he;subst e';exact yc (es:=es) hA (hz▸st.1) ho (Array.getElem?_eq_none (by rw [hz,aJ];exact ax _)) fun h' eb hz=>hQ h' s.toks eb hz)
  (fun {A E s ρ i Q} st hq=>wpAny_pyIter_keyiter st.1 hq),
 fun ρ h h1 h2 h3=>⟨⟨h1,h2⟩,h3⟩⟩
theorem nM{it:Addr}{x left step:Int}{Q:Value→Shared→Prop}(hit:IsRangeIter s.heap it x left step)(h:Q (.ref it) s):wpAny (model W.prog W.w) A (pyIter (.ref it)) Q E s:=by
 have hT:s.TypeIs (.ref it) "range_iterator":=⟨_,hit,rfl⟩
 refine wpAny_pyIter_slot hT F.slot_range_iterator_iter (wpAny_call_entry F.slot_range_iterator_iter hT F.entry_range_iterator_iter ?_ (F.args_range_iterator_iter_1 _));exact ak ⟨_,rfl,"range_iterator",_,hT,F.slot_range_iterator_next.lookup,h⟩
theorem wg{m:Nat}{I:Addr} :
  ∃St Mid,kP W false ((List.range m).map fun (i:Nat)=>V.int (i:Int)) [] σ₀ [I] I St Mid∧∀ρ h,IsRangeIter h I 0 m 1→cb W ρ h I→St 0 ρ h :=
 ⟨_,_,gp (P:=fun i ρ h=>IsRangeIter h I i ((m:Int)-i) 1) (cl:="range_iterator") (by decide) (by decide)
  (fun st=>⟨_,_,st,rfl,rfl⟩)
  (fun st S tk k=>k _ st)
  (fun {A E s ρ σ i v Q} hA ap st R sd hx hQ=>by
   have hi:i<m:=by have:=(aE.mp hx).1;simpa using this
   rw [List.getElem?_map,List.getElem?_range hi] at hx;cases hx;refine wpAny_pyNext_range_item st (by omega) fun h' it' sb=>hQ _ h' _ (.int _ _) sb fun z_=>?_;have e1:((i+1:Nat):Int)=(i:Int)+1:=by omega
   have e2:(m:Int)-((i+1:Nat):Int)=(m:Int)-i-1:=by omega
   rw [e1] at *;rw [show (m:Int)-((i:Int)+1)=(m:Int)-i-1 by omega];exact it')
  (fun {A E s ρ σ Q} hA ap st R sd hQ=>by
   rw [aJ,List.length_range] at st;exact ll (wpAny_pyNext_range_end hA st (by omega) fun h' eb hz=>hQ h' s.toks eb hz))
  (fun {A E s ρ i Q} st hq=>nM st hq),
 fun ρ h h1 h3=>⟨by simpa using h1,h3⟩⟩
end
section
variable{prog:Program}{w:World}{E:Value→Shared→Prop}
theorem ec{it l:Addr}{items}{Q:Value→Shared→Prop}(hit:s.heap.IsTupleIter it l i)
  (hl:s.heap.IsTuple l items) (hx:items[i]?=some x)
  (hQ:∀h',h'.IsTupleIter it l (i+1)→Heap.SameBut it s.heap h'→Q x {s with heap:=h'}) :
  wpAny (model prog w) A (Builtin.SmallTypes.nextOf (.ref it)) Q E s:=by
 refine f7 (id hit) fun o ho hc hd=>?_;refine yr hl fun ol hol z_ nl hdl=>?_;refine af (wpAny_callSpecial?_slot (name:=Str.ofString "__next__") hit.typeIs F.slot_tuple_iterator_next
  (wpAny_call_entry F.slot_tuple_iterator_next hit.typeIs F.entry_tuple_iterator_next ?_ (F.args_tuple_iterator_next_1 _)))
 show wpAny _ _ (field (.ref it) 0 >>=_) _ _ s;refine af (wpAny_field ho hd (x:=.ref l) rfl ?_);rw [if_neg (show ¬((Value.ref l==Value.none)=true) from b0)];refine af (wpAny_field ho hd (x:=.int i 0) rfl ?_);refine af (wpAny_seqItems hol hdl ?_);simp only [Int.toNat_natCast,hx];refine af (wpAny_setField ho hd (by simp) (ak ⟨x,rfl,ak (hQ _ ?_ (bi ..))⟩));exact ⟨_,Heap.get?_update_self _ ho (Obj.isFreed_of_fields (Obj.data_mapFields hd _)),(Obj.cls_mapFields ..).trans hc,by
  rw [Obj.data_mapFields hd];simp [rawInt]⟩
theorem fY{it l:Addr}{items}{Q:Value→Shared→Prop}(hh:A.handled=none)
  (hit:s.heap.IsTupleIter it l i) (hl:s.heap.IsTuple l items) (hx:items[i]?=none)
  (hE:∀h' e,Heap.ExtBut it s.heap h'→(∃o,h'.get? e=some o∧o.cls=.type "StopIteration")→E (.ref e) {s with heap:=h'}) :
  wpAny (model prog w) A (Builtin.SmallTypes.nextOf (.ref it)) Q E s:=by
 refine f7 (id hit) fun o ho hc hd=>?_;refine yr hl fun ol hol z_ nl hdl=>?_;refine af (wpAny_callSpecial?_slot (name:=Str.ofString "__next__") hit.typeIs F.slot_tuple_iterator_next
  (wpAny_call_entry F.slot_tuple_iterator_next hit.typeIs F.entry_tuple_iterator_next ?_ (F.args_tuple_iterator_next_1 _)))
 show wpAny _ _ (field (.ref it) 0 >>=_) _ _ s;refine af (wpAny_field ho hd (x:=.ref l) rfl ?_);rw [if_neg (show ¬((Value.ref l==Value.none)=true) from b0)];refine af (wpAny_field ho hd (x:=.int i 0) rfl ?_);refine af (wpAny_seqItems hol hdl ?_);simp only [Int.toNat_natCast,hx];refine af (wpAny_rule (af (wpAny_setField ho hd (by simp) ?_)));refine af ?_;dsimp only [newExc,newTuple];refine af (wpAny_newObj_type ?_ (by size_fits));refine af (m:=firstArgMember _ _) (wpAny_of_eq (a:=Value.none) (by first | rfl | (dsimp only [firstArgMember];rfl)) ?_);refine wpAny_newObj_type ?_ (by size_fits);dsimp only [raiseNew];refine af (wpAny_handled ?_)
 first | rw [show A.in1.handled=none from hh] | rw [hh]
 refine af (ak (wpAny_throw ?_));exact hE _ _ (((bi ..).extBut.push _).push _) ⟨_,aQ _ rfl,rfl⟩
end
theorem t5{prog:Program}{w:World}(hh:A.handled=none)(it l:Addr)(hne:l≠it)(items:Array Value) :
  Draws prog w A it [it,l] items.size (fun i v=>items[i]?=some v) (fun i h=>h.IsTupleIter it l i∧h.IsTuple l items) where
 live:=fun z_ z_ st=>let ⟨o,ho,_⟩:=st.1;⟨o,ho⟩
 frame:=fun z_ z_ z_ st hk=>⟨let ⟨o,h1,h2⟩:=st.1;⟨o,hk it (by simp) o h1,h2⟩,let ⟨o,h1,h2⟩:=st.2;⟨o,hk l (by simp) o h1,h2⟩⟩
 item:=fun i s Q E hi st hQ=>by
  refine ec st.1 st.2 (x:=items[i]) (by simp [hi]) fun h' hit' hs'=>?_;exact hQ _ h' s.toks (by simp [hi]) ⟨hit',st.2.extBut hs'.extBut hne⟩ hs'
 done:=fun s Q E st hE=>fY hh st.1 st.2 (by simp) hE
set_option tactic.hygienic true in
theorem pv(l:Addr)(o:Obj)(items:Array Value)(n:Nat)(hc:o.cls=.type "tuple")(hd:o.data=.seq items n) :
  Meets (Builtin.«enumerate.__new__» ⟨[.type "enumerate",.ref l],[]⟩) (fun z_ R s=>s.heap.get? l=some o∧
   R (.ok (.ret (.ref (s.heap.push {cls:=.type "tuple_iterator",data:=.fields #[.ref l,.int 0 0]}).objs.size)))
    {s with heap:=(s.heap.push {cls:=.type "tuple_iterator",data:=.fields #[.ref l,.int 0 0]}).push {cls:=.type "enumerate",data:=.fields #[.none,.bool false,.ref s.heap.objs.size,rawInt 0,.none,.none]}}) :=
 .of_wp fun prog w A R s h=>by
  obtain ⟨hp,g,d,tk,os⟩:=s;obtain ⟨hl,h⟩:=h;have hsub:=sub_enumerate;have hL:Heap.IsTuple (Shared.heap ⟨hp,g,d,tk,os⟩) l items:=⟨_,hl,hc,n,hd⟩
  obtain ⟨cc,dct,dt,sl⟩:=o;simp only at hc hd;subst hc hd;have hl':=hl
  wp_walk using AutoSeq1.wpAny_loadPart' hl
  refine wpAny_stack_any fun st=>ak ?_
  split
  ·rename_i c _ _ _ _ _
   cases (c==Value.type "enumerate")
   ·wp_walk using AutoSeq1.wpAny_loadPart' hl,wpAny_pyIter_tuple hL
    exact ⟨_,rfl,h⟩
   ·wp_walk using AutoSeq1.wpAny_loadPart' hl,wpAny_pyIter_tuple hL
    exact ⟨_,rfl,h⟩
  ·wp_walk using AutoSeq1.wpAny_loadPart' hl,wpAny_pyIter_tuple hL
   exact ⟨_,rfl,h⟩
section
variable{prog:Program}{w:World}{E:Value→Shared→Prop}
theorem oy{l:Addr}{Q:Value→Shared→Prop}(hL:s.heap.IsTuple l items)
  (h:∀h',IsEnum h' (s.heap.objs.size+1) s.heap.objs.size 0 .none→h'.IsTupleIter s.heap.objs.size l 0→h'.objs.size=s.heap.objs.size+2→
   (∀b o,s.heap.get? b=some o→h'.get? b=some o)→Q (.ref (s.heap.objs.size+1)) {s with heap:=h'}) :
  wpAny (model prog w) A (call (.type "enumerate") [.ref l]) Q E s:=by
 refine yr hL fun o hl hc n hd=>?_;refine callType_new F.called_enumerate (by decide) (F.typeCall_enumerate_1 _) (F.newCall_enumerate_1 _) (fun obj=>F.args_object_init_2 obj _) F.entry_enumerate_new
  (pv l o items n hc hd) ⟨hl,?_⟩
 have hz:(s.heap.push {cls:=.type "tuple_iterator",data:=.fields #[.ref l,.int 0 0]}).objs.size=s.heap.objs.size+1:=br ..;rw [hz];have he:IsEnum ((s.heap.push {cls:=.type "tuple_iterator",data:=.fields #[.ref l,.int 0 0]}).push
   {cls:=.type "enumerate",data:=.fields #[.none,.bool false,.ref s.heap.objs.size,rawInt 0,.none,.none]}) (s.heap.objs.size+1) s.heap.objs.size 0 .none:=by
  have:=aQ (s.heap.push {cls:=.type "tuple_iterator",data:=.fields #[.ref l,.int 0 0]})
   (o:={cls:=.type "enumerate",data:=.fields #[.none,.bool false,.ref s.heap.objs.size,rawInt 0,.none,.none]}) rfl
  rw [hz] at this;exact this
 refine ⟨⟨_,he,rfl⟩,h _ he ⟨_,aA _ (aQ _ rfl),rfl,rfl⟩ (by rw [br,hz]) fun b o x=>aA _ (aA _ x)⟩
end
structure xz(W:Wd)(xs:List V)(ns:List Nat)(σ₀:Hp)(e it:Addr)(P:Nat→Rho→Heap→Prop):Prop where
 live:∀{i ρ h},P i ρ h→∃o,h.get? it=some o∧o.cls≠.type "tuple"
 mono:∀{i ρ ρ' s s' X},P i ρ s.heap→bp X ρ s ρ' s'→bg W s.heap s'.heap→(∀o,s.heap.get? it=some o→s'.heap.get? it=some o)→P i ρ' s'.heap
 draws:∀{A:Around} {i:Nat} {s:Shared} {ρ:Rho} {σ:Hp},A.handled=none→P i ρ s.heap→bJ W s.heap ρ σ→bV ns σ₀ σ→cb W ρ s.heap it→(∀o:Obj,s.heap.get? e=some o→o.cls=.type "enumerate")→∃fp D St,Draws W.prog W.w A it fp xs.length D St∧St i s.heap∧e∉fp∧
  (∀v,D i v→∃u,xs[i]?=some u∧aK W s.heap ρ u v)∧∀h',St (i+1) h'→bg W s.heap h'→P (i+1) ρ h'
theorem FU{z t x:Addr}{M:Addr→Prop}(h:x∈[z,t])(h1:M z)(h2:M t):M x:=(List.mem_cons.1 h).elim (fun e=>e▸h1) fun h=>List.mem_singleton.1 h▸h2
theorem Bm{z t:Addr}(k:∀b o,b≠z→b≠t→h.get? b=some o→h'.get? b=some o):∀b o,b∉[z,t]→h.get? b=some o→h'.get? b=some o:=fun b o n=>k b o (fun q=>n (q▸ai)) fun q=>n (q▸.tail _ (.head _))
structure Gz(W:Wd)(e it:Addr)(P:Nat→Rho→Heap→Prop)(i j:Nat)(B:Heap→Prop)(ρ:Rho)(h:Heap):Prop where
 he:B h
 p:P j ρ h
 a1:cb W ρ h e
 a2:cb W ρ h it
section
variable{e it:Addr}
theorem Ga(R:bJ W h ρ σ)(a1:cb W ρ h e)(a2:cb W ρ h it)(h1:∃o,h.get? e=some o∧o.cls≠.type "tuple")(h2:∃o,h.get? it=some o∧o.cls≠.type "tuple")(kk:∀b o,b∉[e,it]→h.get? b=some o→h'.get? b=some o)(hz:h.objs.size≤h'.objs.size):bg W h h'∧bJ W h' ρ σ :=
 R.own (O:=(·∈[e,it])) (h':=h') (fun a ha=>FU ha a1 a2) (fun a o ha=>FU (M:=fun a=>h.get? a=some o→o.cls≠.type "tuple") ha (fun q=>h1.elim fun z_ g=>aX (g.1.symm.trans q)▸g.2) fun q=>h2.elim fun z_ g=>aX (g.1.symm.trans q)▸g.2) kk hz
theorem pu{i:Int}{old:Value}(he:IsEnum h e it i old):∃o,h.get? e=some o∧o.cls≠.type "tuple":=⟨_,he,show Value.type "enumerate"≠.type "tuple" by decide⟩
theorem xF{i:Int}{old:Value}(he:IsEnum h e it i old):∀o:Obj,h.get? e=some o→o.cls=.type "enumerate":=fun o q=>aX (he.symm.trans q)▸rfl
end
theorem y7{ns:List Nat}{e it:Addr}{P:Nat→Rho→Heap→Prop}(N:xz W xs ns σ₀ e it P)(hne:e≠it) :
  ∃St Mid,kP W true (xs.zipIdx.map fun p=>.tup [.int p.2,p.1]) ns σ₀ [e,it] e St Mid∧∀ρ h,IsEnum h e it 0 .none→P 0 ρ h→cb W ρ h e→cb W ρ h it→St 0 ρ h:=by
 refine ⟨fun i ρ h=>Gz W e it P i i (fun h=>∃old,IsEnum h e it i old) ρ h,fun i ρ h x=>Gz W e it P i (i+1) (fun h=>∃T item,x=.ref T∧IsEnumOut h e it ((i:Int)+1) item T) ρ h,
  ⟨?_,?_,?_,?_,?_,?_⟩,fun ρ h h1 h2 h3 h4=>⟨⟨_,h1⟩,h2,h3,h4⟩⟩
 ·intro i ρ h st a ha;exact FU (M:=fun a=>cb W ρ h a∧∃o,h.get? a=some o∧(o.cls=.type "tuple"→W.priv a)) ha ⟨st.a1,st.he.elim fun z_ q=>(pu q).imp fun z_ q=>⟨q.1,fun c=>absurd c q.2⟩⟩ ⟨st.a2,(N.live st.p).imp fun z_ q=>⟨q.1,fun c=>absurd c q.2⟩⟩
 ·intro i ρ ρ' s s' X st S tk k;exact ⟨st.he.imp fun z_ q=>k e (.head _) _ q,N.mono st.p S tk (k it (.tail _ (.head _))),st.a1.step S,st.a2.step S⟩
 ·intro A E s ρ σ i v Q hA st R sd hx hQ;refine xe st.he fun old he=>?_;refine eu (N.draws (A:=A.in1) hA st.p R sd st.a2 (xF he)) fun fp D St dr hst hef hD hnext=>?_;rw [List.getElem?_map,List.getElem?_zipIdx] at hx;refine bG (Option.map_eq_some_iff.1 hx) fun q hq hv=>?_;refine bG (Option.map_eq_some_iff.1 hq) fun w hw hq=>?_;refine wpAny_pyNext_enum_itemD dr he hst (aE.mp hw).1 hne hef fun x h' tk hP out st' hT eK keep=>?_;refine bG (hD x hP) fun u hu ru=>?_;have kk:=Bm keep;have hzz:s.heap.objs.size≤h'.objs.size:=by rw [eK];exact Nat.le_succ _
  refine xa (Ga R st.a1 st.a2 (pu he) (N.live st.p) kk hzz) fun tk' R'=>?_;have S:bp (·∈[e,it]) ρ s ρ {s with heap:=h',toks:=tk+1}:=bp.priv (X:=(·∈[e,it])) kk hzz;have hv:v=.tup [.int i,u]:=by rw [←hv,←hq,aX (hw.symm.trans hu),Nat.zero_add]
  subst hv;exact hQ _ _ S tk' R' (.tup hT rfl rfl ⟨rfl,rfl,fun p=>(R.priv _ p).elim fun z_ q=>bX _ (bo q.1)⟩ (.cons (.int _ _) (.cons (ru.mono tk' (aB _)) .nil)))
   ⟨⟨_,_,rfl,out⟩,hnext h' st' tk',st.a1.step S,st.a2.step S⟩
 ·intro A E s ρ σ i x Q target ht st R hQ;refine cY st.he fun T item y out=>?_;subst y;refine Ho (ht rfl) fun elts k p r=>?_;subst r;refine wpAny_letOwnedTupleGo_enum out fun h' he' sb=>?_;have kk:=Bm (t:=it) fun b o z z_ q=>(sb.2 b z).trans q;have hzz:s.heap.objs.size≤h'.objs.size:=by rw [sb.1];exact ax _
  refine xa (Ga R st.a1 st.a2 ⟨_,out,show Value.type "enumerate"≠.type "tuple" by decide⟩ (N.live st.p) kk hzz) fun tk' R'=>?_;have S:bp (·∈[e,it]) ρ s ρ {s with heap:=h',toks:=s.toks}:=bp.priv (X:=(·∈[e,it])) kk hzz;exact hQ _ S tk' R' ⟨⟨_,(Int.natCast_add i 1).symm▸he'⟩,N.mono st.p S tk' (fun o q=>(sb.2 it (aU hne)).trans q),st.a1.step S,st.a2.step S⟩
 ·intro A E s ρ σ Q hA st R sd hQ;refine xe st.he fun old he=>?_;have hp:=st.p;rw [aJ,List.length_zipIdx] at he hp;refine eu (N.draws (A:=A.in1) hA hp R sd st.a2 (xF he)) fun fp D St dr hst hef hD hnext=>?_;refine ll (wpAny_pyNext_enum_endD dr he hst fun h' eb hz=>?_);have kk:=Bm (z:=e) fun b o z_ z q=>eb b o z q;refine xa (Ga R st.a1 st.a2 (pu he) (N.live hp) kk hz) fun tk' R'=>?_;exact hQ _ (bp.priv (X:=(·∈[e,it])) (t:=s.toks) kk hz) tk' R'
 ·intro A E s ρ i Q st hq;exact st.he.elim fun z_ he=>wpAny_pyIter_enum he hq
theorem v7{e it l:Addr}(e₀:σ₀[n]?=some (.list xs)):xz W xs [n] σ₀ e it (fun i ρ h=>h.IsListIter it l i∧ρ[n]?=some (l,l)) where
 live st:=let ⟨o,h1,h2,_⟩:=st.1;⟨o,h1,by rw [h2];simp⟩
 mono st S tk k:=⟨let ⟨o,h1,h2⟩:=st.1;⟨o,k o h1,h2⟩,gM S.pre st.2⟩
 draws:=fun {A i s ρ σ} hA st R sd ap he=>by
  have e':σ[n]?=some (.list xs):=by rw [sd n (by simp)];exact e₀
  refine bt (R.list_at (.obj st.2) e') fun p ad ep hp1 hp2 hee items ek ho hr hz=>?_;cases hee;have hl:l≠it:=(ap.2.2 n _ st.2).1;refine ⟨_,_,_,hz▸Draws.list hA it l hl items,⟨st.1,⟨_,ho,rfl,ek,rfl⟩⟩,?_,fun v hv=>?_,fun h' st' tk=>⟨st'.1,st.2⟩⟩
  ·intro hm;simp only [List.mem_cons,an,or_false] at hm;rcases hm with rfl | rfl
   ·refine f7 st.1 fun o h1 h2 z_=>?_;rw [he o h1] at h2;simp at h2
   ·have:=he _ ho;simp at this
  ·have hi:i<xs.length:=by rw [←hz];exact (Array.getElem?_eq_some_iff.mp hv).1
   refine bG (fF hr (aC hi)) fun u hu ru=>?_;rw [hv] at hu;cases hu;exact ⟨_,aC hi,ru⟩
theorem uo{e it t:Addr}:xz W xs [] σ₀ e it (fun i ρ h=>h.IsTupleIter it t i∧aK W h ρ (.tup xs) (.ref t)) where
 live st:=let ⟨o,h1,h2,_⟩:=st.1;⟨o,h1,by rw [h2];simp⟩
 mono st S tk k:=⟨let ⟨o,h1,h2⟩:=st.1;⟨o,k o h1,h2⟩,st.2.mono tk S.pre⟩
 draws:=fun {A i s ρ σ} hA st R sd ap he=>by
  refine xa st fun st1 st2=>?_;have st2':=st2;refine cp st2.E fun z_ o items ek e ho hc hd hxx hr=>?_;cases e;have hz:items.size=xs.length:=by rw [←bu,hr.length]
  have hl:t≠it:=by
   rintro rfl;refine f7 st1 fun o' h1 h2 z_=>?_;rw [ho] at h1;cases h1;rw [hc] at h2;simp at h2
  refine ⟨_,_,_,hz▸t5 hA it t hl items,⟨st1,⟨o,ho,hc,ek,hd⟩⟩,?_,fun v hv=>?_,fun h' st' tk=>⟨st'.1,st2'.mono tk (aB _)⟩⟩
  ·intro hm;simp only [List.mem_cons,an,or_false] at hm;rcases hm with rfl | rfl
   ·refine f7 st1 fun o h1 h2 z_=>?_;rw [he o h1] at h2;simp at h2
   ·have:=he _ ho;rw [hc] at this;simp at this
  ·have hi:i<xs.length:=by rw [←hz];exact (Array.getElem?_eq_some_iff.mp hv).1
   refine bG (fF hr (aC hi)) fun u hu ru=>?_;rw [hv] at hu;cases hu;exact ⟨_,aC hi,ru⟩
noncomputable def dC(env:Env)(a:Addr):Prop:=a=env.locals∨∃n,env.cells.lookup n=some a
structure bv(W:Wd)(env:Env)(loc:Loc)(ρ:Rho)(h:Heap):Prop where
 kind:env.scope.kind=.function
 glob:env.globals=mainGlobals
 blt:env.builtins=builtinsNs
 ns:∃m,h.Ns env.locals m∧∀x v,loc x=some v→env.kindOf (Str.ofString x)=some .local→∃a,m (Str.ofString x)=some a∧aK W h ρ v a
 cel:∀n,env.kindOf n=some .cell→∃c v,env.cells.lookup n=some c∧h.IsCell c v
 val:∀x v,loc x=some v→env.kindOf (Str.ofString x)=some .cell→∃c a,env.cells.lookup (Str.ofString x)=some c∧h.IsCell c (some a)∧aK W h ρ v a
 apart:∀a,dC env a→cb W ρ h a
 alive:∀a,dC env a→∃o,h.get? a=some o∧¬kb o
 ne:∀n c,env.cells.lookup n=some c→c≠env.locals
 inj:∀n n' c,env.cells.lookup n=some c→env.cells.lookup n'=some c→n=n'
section
variable{c:V}
theorem bv.step{X:Addr→Prop}(O:bv W env loc ρ s.heap)(S:bp X ρ s ρ' s')(tk:bg W s.heap s'.heap)(hX:∀a,dC env a→¬X a):bv W env loc ρ' s'.heap:=by
 have k:∀a,dC env a→∀o,s.heap.get? a=some o→s'.heap.get? a=some o:=fun a ha o e=>S.keep a o e (hX a ha) fun n p en=>(O.apart a ha).2.2 n p en;refine ⟨O.kind,O.glob,O.blt,?_,?_,?_,fun a ha=>(O.apart a ha).step S,fun a ha=>?_,O.ne,O.inj⟩
 ·refine bG O.ns fun m h1 h2=>?_;refine ⟨m,h1.at' fun o e=>k _ (.inl rfl) o e,fun x v hv hk=>?_⟩;refine bG (h2 x v hv hk) fun u h3 h4=>?_;exact ⟨u,h3,h4.mono tk S.pre⟩
 ·intro n hn;refine xt (O.cel n hn) fun c v h1 o h2 h3=>?_;exact ⟨c,v,h1,o,k _ (.inr ⟨n,h1⟩) o h2,h3⟩
 ·intro x v hv hk;refine cS (O.val x v hv hk) fun c u h1 q h4=>?_;refine bG q fun o h2 h3=>?_;exact ⟨c,u,h1,⟨o,k _ (.inr ⟨_,h1⟩) o h2,h3⟩,h4.mono tk S.pre⟩
 ·refine bG (O.alive a ha) fun o h1 h2=>?_;exact ⟨o,k a ha o h1,h2⟩
theorem bv.step0(O:bv W env loc ρ s.heap)(R:bJ W s.heap ρ σ)(S:bp gF ρ s ρ' s'):bv W env loc ρ' s'.heap:=O.step S (S.tup0 R) fun z_ z_ h=>h
theorem bv.nocls(O:bv W env loc ρ s.heap):(env.scope.kind==.class ||(env.scope.kind==.module&&env.locals !=env.globals))=false:=by rw [O.kind];rfl
theorem bv.load{x:String}{P:Value→Shared→Prop}(O:bv W env loc ρ s.heap)(hv:loc x=some v)(hk:env.kindOf (Str.ofString x)=some .local∨env.kindOf (Str.ofString x)=some .cell)
  (h:∀a,aK W s.heap ρ v a→P a s):wpAny (model W.prog W.w) A (loadName env (Str.ofString x)) P Er s:=by
 refine Or.elim hk (fun hk=>?_) (fun hk=>?_)
 ·refine bG O.ns fun m h1 h2=>?_;refine bG (h2 x v hv hk) fun u h3 h4=>?_;exact wpAny_loadName_local O.kind hk h1 h3 (h u h4)
 ·refine cS (O.val x v hv hk) fun c u h1 h2 h3=>?_;exact wpAny_loadName_cell O.kind hk h1 h2 (h u h3)
theorem bv.weaken(O:bv W env loc ρ s.heap)(h:∀y v,loc' y=some v→loc y=some v):bv W env loc' ρ s.heap :=
 ⟨O.kind,O.glob,O.blt,let ⟨m,h1,h2⟩:=O.ns;⟨m,h1,fun x v hv hk=>h2 x v (h x v hv) hk⟩,O.cel,fun x v hv hk=>O.val x v (h x v hv) hk,O.apart,O.alive,O.ne,O.inj⟩
theorem bv.core(O:bv W env loc ρ s.heap)(R:bJ W s.heap ρ σ)(ad:Addr)(h':Heap)(t:Nat)(ho:dC env ad)(hs:Heap.SameBut ad s.heap h'):bg W s.heap h'∧bJ W h' ρ σ∧bp (fun a=>a=ad) ρ s ρ {s with heap:=h',toks:=t}:=by
 obtain ⟨tk,R'⟩:=R.own' (O:=fun a=>a=ad) (h':=h') (fun a e=>e▸O.apart ad ho) (fun a o e g=>by
  subst e;refine bG (O.alive a ho) fun o' h1 h2=>?_;rw [h1] at g;cases g;exact h2) (fun b o hb e=>(hs.2 b hb).trans e) (by rw [hs.1];exact ax _)
 exact ⟨tk,R',bp.priv (X:=fun a=>a=ad) (fun b o hb e=>(hs.2 b hb).trans e) (by rw [hs.1];exact ax _)⟩
theorem bv.storeL{x:String}{u:Value}{P:Unit→Shared→Prop}(O:bv W env loc ρ s.heap)(R:bJ W s.heap ρ σ)(ru:aK W s.heap ρ v u)(hk:env.kindOf (Str.ofString x)=some .local)
  (h:∀s',bp (fun a=>a=env.locals) ρ s ρ s'→bg W s.heap s'.heap→bJ W s'.heap ρ σ→bv W env (setL loc x v) ρ s'.heap→P () s'):wpAny (model W.prog W.w) A (storeName env (Str.ofString x) u) P Er s:=by
 refine bG O.ns fun m h1 h2=>?_;refine wpAny_storeName_local hk h1 (fun h' hn hs=>?_) O.nocls;refine ni (O.core R env.locals h' (s.toks+1) (.inl rfl) hs) fun tk R' S=>?_;refine h _ S tk R' ⟨O.kind,O.glob,O.blt,⟨_,hn,fun y w hw hky=>?_⟩,fun n hn'=>?_,fun y w hw hky=>?_,fun a ha=>(O.apart a ha).step S,fun a ha=>?_,O.ne,O.inj⟩
 ·by_cases hy:y=x
  ·subst hy;unfold setL at hw;rw [if_pos rfl] at hw;cases hw;exact ⟨u,by simp,ru.mono tk (aB _)⟩
  ·unfold setL at hw;rw [if_neg hy] at hw;refine bG (h2 y w hw hky) fun u' h3 h4=>?_;exact ⟨u',by show (if _ then _ else _)=_;rw [if_neg (fun q=>hy (cO q))];exact h3,h4.mono tk (aB _)⟩
 ·refine cY (O.cel n hn') fun c v' g1 g2=>?_;exact ⟨c,v',g1,g2.sameBut hs (O.ne n c g1)⟩
 ·have hy:y≠x:=fun e=>by rw [e,hk] at hky;simp at hky
  unfold setL at hw;rw [if_neg hy] at hw;refine cS (O.val y w hw hky) fun c u' g1 g2 g3=>?_;exact ⟨c,u',g1,g2.sameBut hs (O.ne _ c g1),g3.mono tk (aB _)⟩
 ·by_cases e:a=env.locals
  ·subst e;refine tw hn fun o es ep q1 q2 z_=>?_;exact ⟨o,q1,fun z=>xp z fun z_ z_ t=>xe t fun z_ q=>by rw [q2] at q;cases q⟩
  ·refine bG (O.alive a ha) fun o q1 q2=>?_;exact ⟨o,(hs.2 a e).trans q1,q2⟩
theorem bv.store{x:String}{u:Value}{P:Unit→Shared→Prop}(O:bv W env loc ρ s.heap)(R:bJ W s.heap ρ σ)(ru:aK W s.heap ρ v u)(hk:env.kindOf (Str.ofString x)=some .local∨env.kindOf (Str.ofString x)=some .cell)
  (h:∀s',bp (dC env) ρ s ρ s'→bg W s.heap s'.heap→bJ W s'.heap ρ σ→bv W env (setL loc x v) ρ s'.heap→P () s'):wpAny (model W.prog W.w) A (storeName env (Str.ofString x) u) P Er s:=by
 refine Or.elim hk (fun hk=>?_) (fun hk=>?_)
 ·exact O.storeL R ru hk fun s' S tk R' O'=>h s' (S.weaken fun a e=>.inl e) tk R' O'
 ·refine cY (O.cel _ hk) fun c v₀ g1 g2=>?_;refine wpAny_storeName_cell O.kind hk g1 g2 fun h' hc hs=>?_;refine ni (O.core R c h' s.toks (.inr ⟨_,g1⟩) hs) fun tk R' S=>?_;refine h _ (S.weaken fun a e=>.inr ⟨Str.ofString x,g1.trans (congrArg some (Eq.symm e))⟩) tk R' ⟨O.kind,O.glob,O.blt,?_,fun n hn'=>?_,fun y w hw hky=>?_,fun a ha=>(O.apart a ha).step S,fun a ha=>?_,O.ne,O.inj⟩
  ·refine bG O.ns fun m h1 h2=>?_;refine ⟨m,h1.sameBut hs (aU (O.ne _ c g1)),fun y w hw hky=>?_⟩;have hy:y≠x:=fun e=>by rw [e,hk] at hky;simp at hky
   unfold setL at hw;rw [if_neg hy] at hw;refine bG (h2 y w hw hky) fun u' h3 h4=>?_;exact ⟨u',h3,h4.mono tk (aB _)⟩
  ·by_cases e:n=Str.ofString x
   ·subst e;exact ⟨c,_,g1,hc⟩
   ·refine cY (O.cel n hn') fun c' v' q1 q2=>?_;have:c'≠c:=fun q=>e (O.inj _ _ c (q▸q1) g1);exact ⟨c',v',q1,q2.sameBut hs this⟩
  ·by_cases hy:y=x
   ·subst hy;unfold setL at hw;rw [if_pos rfl] at hw;cases hw;exact ⟨c,u,g1,hc,ru.mono tk (aB _)⟩
   ·unfold setL at hw;rw [if_neg hy] at hw;refine cS (O.val y w hw hky) fun c' u' q1 q2 q3=>?_;have:c'≠c:=fun q=>hy (cO (O.inj _ _ c (q▸q1) g1));exact ⟨c',u',q1,q2.sameBut hs this,q3.mono tk (aB _)⟩
  ·by_cases e:a=c
   ·subst e;refine bG hc fun o q1 q2=>?_;exact ⟨o,q1,fun z=>xp z fun z_ z_ t=>xe t fun z_ q=>by rw [q2] at q;cases q⟩
   ·refine bG (O.alive a ha) fun o q1 q2=>?_;exact ⟨o,(hs.2 a e).trans q1,q2⟩
end
theorem ft:false≠true:=b0
section
variable{β:Type}{d w:β}
theorem cH{M:Prop}{m:Nat}{f:n=m→β}(h:dite (n=m) f (fun z_=>d)=w)(hd:d≠w)(k:n=m→M):M:=if q:n=m then k q else absurd ((dif_neg q).symm.trans h) hd
variable{b:β}{l:List α}{M:List α→Prop}{g:α→List α→β}
noncomputable def dD(d:β)(l:List α)(b:β):β:=List.casesOn (motive:=fun z_=>β) l b fun z_ z_=>d
theorem bE(h:dD d l b=w)(hd:d≠w)(k:b=w→M []):M l:=List.casesOn (motive:=fun l=>dD d l b=w→M l) l k (fun _ _ (h:d=w)=>absurd h hd) h
noncomputable def c0(d:β)(l:List α)(g:α→List α→β):β:=List.casesOn (motive:=fun z_=>β) l d g
theorem bI(h:c0 d l g=w)(hd:d≠w)(k:∀x r,g x r=w→M (x::r)):M l:=List.casesOn (motive:=fun l=>c0 d l g=w→M l) l (fun (h:d=w)=>absurd h hd) k h
end
noncomputable def sQ(x:V)(g:Int→Bool):Bool:=by cases x with | int u=>exact g u | _=>exact false
theorem zC(x:V)(g:Int→Bool):sQ x g=dite (x.ctorIdx=2) (fun h=>V.int.elim x h g) fun h=>false:=by rcases x with _ | _<;>first | exact @rfl Bool false | exact rfl
theorem wM{M:V→Prop}{x:V}{g:Int→Bool}(h:sQ x g=true)(k:∀i,g i=true→M (.int i)):M x:=cH ((zC ..).symm.trans h) ft fun q=>V.int.elim (motive_1:=fun x=>sQ x g=true→M x) x q k h
noncomputable def sR(x:V)(g:String→Bool):Bool:=by cases x with | str u=>exact g u | _=>exact false
theorem zG(x:V)(g:String→Bool):sR x g=dite (x.ctorIdx=3) (fun h=>V.str.elim x h g) fun h=>false:=by rcases x with _ | _<;>first | exact @rfl Bool false | exact rfl
theorem wN{M:V→Prop}{x:V}{g:String→Bool}(h:sR x g=true)(k:∀i,g i=true→M (.str i)):M x:=cH ((zG ..).symm.trans h) ft fun q=>V.str.elim (motive_1:=fun x=>sR x g=true→M x) x q k h
noncomputable def sS(x:V)(g:List V→Bool):Bool:=by cases x with | tup u=>exact g u | _=>exact false
theorem zH(x:V)(g:List V→Bool):sS x g=dite (x.ctorIdx=4) (fun h=>V.tup.elim x h g) fun h=>false:=by rcases x with _ | _<;>first | exact @rfl Bool false | exact rfl
theorem wO{M:V→Prop}{x:V}{g:List V→Bool}(h:sS x g=true)(k:∀i,g i=true→M (.tup i)):M x:=cH ((zH ..).symm.trans h) ft fun q=>V.tup.elim (motive_1:=fun x=>sS x g=true→M x) x q k h
mutual
noncomputable def V.same:V→V→Bool
 | .int a,y=>sQ y fun b=>a==b
 | .str a,y=>sR y fun b=>a==b
 | .tup l,y=>sS y fun m=>V.sames l m
 | .none,_ | .bool _,_ | .obj _,_ | .ints _,_=>false
noncomputable def V.sames:List V→List V→Bool
 | [],y=>dD false y true
 | x::l,y=>c0 false y fun y m=>V.same x y&&V.sames l m
end
mutual
theorem V.same_eq:∀{x y:V},V.same x y=true→x=y
 | .int _,_,h=>wM (M:=fun y=>V.int _=y) h fun z_ h=>congrArg V.int (eq_of_beq h)
 | .str _,_,h=>wN (M:=fun y=>V.str _=y) h fun z_ h=>congrArg V.str (eq_of_beq h)
 | .tup _,_,h=>wO (M:=fun y=>V.tup _=y) h fun z_ h=>congrArg V.tup (V.sames_eq h)
 | .none,_,h | .bool _,_,h | .obj _,_,h | .ints _,_,h=>absurd h ft
theorem V.sames_eq:∀{x y:List V},V.sames x y=true→x=y
 | [],_,h=>bE (M:=fun y=>[]=y) h ft fun z_=>rfl
 | _::_,_,h=>bI (M:=fun y=>_::_=y) h ft fun z_ z_ h=>have h:=a8.1 h;List.cons_eq_cons.2 ⟨V.same_eq h.1,V.sames_eq h.2⟩
end
structure gB where
 gl:List (String×V)
 fns:List String
 clss:List String
 has:List (String×String)
 attrs:List String
noncomputable abbrev Nm:=List (Str×NameKind)
variable{nm:Nm}
noncomputable def iZ(nm:Nm)(id:Str):Bool:=decide (nm.lookup id=some .local) ||decide (nm.lookup id=some .cell)
noncomputable def nF(nm:Nm)(id:Str):Bool:=decide (nm.lookup id=some .globalImplicit)&&!(id==("__debug__":Str))
noncomputable def dn(nm:Nm)(names:Nm):Nm:=names.map fun (n,k)=>if (k==.free&&nm.lookup n==some .cell) then (n,.cell) else (n,k)
section
variable{β:Type}{d w:β}
noncomputable def jE(d:β)(x:Expr)(g:∀(id:Str) (p:Pos),β):β:=by cases x with | Name u v=>exact g u v | _=>exact d
theorem zy(d:β)(x:Expr)(g:∀(id:Str) (p:Pos),β):jE d x g=dite (x.ctorIdx=23) (fun h=>Expr.Name.elim x h g) fun h=>d:=by rcases x with _ | _<;>first | exact @rfl β d | exact rfl
theorem dc{x:Expr}{g:∀(id:Str) (p:Pos),β}(h:jE d x g=w)(hd:d≠w)(k:∀(id:Str) (p:Pos),g id p=w→M (.Name id p)):M x:=cH ((zy ..).symm.trans h) hd fun q=>Expr.Name.elim (motive_1:=fun x=>jE d x g=w→M x) x q k h
noncomputable def eY(d:β)(x:Expr)(g:∀(c:Const) (kd:Nat) (p:Pos),β):β:=by cases x with | Constant u v w=>exact g u v w | _=>exact d
theorem qD(d:β)(x:Expr)(g:∀(c:Const) (kd:Nat) (p:Pos),β):eY d x g=dite (x.ctorIdx=19) (fun h=>Expr.Constant.elim x h g) fun h=>d:=by rcases x with _ | _<;>first | exact @rfl β d | exact rfl
theorem et{x:Expr}{g:∀(c:Const) (kd:Nat) (p:Pos),β}(h:eY d x g=w)(hd:d≠w)(k:∀(c:Const) (kd:Nat) (p:Pos),g c kd p=w→M (.Constant c kd p)):M x:=cH ((qD ..).symm.trans h) hd fun q=>Expr.Constant.elim (motive_1:=fun x=>eY d x g=w→M x) x q k h
noncomputable def jb(d:β)(x:Expr)(g:∀(op:UnaryOp) (e:Expr) (p:Pos),β):β:=by cases x with | UnaryOp u v w=>exact g u v w | _=>exact d
theorem sP(d:β)(x:Expr)(g:∀(op:UnaryOp) (e:Expr) (p:Pos),β):jb d x g=dite (x.ctorIdx=3) (fun h=>Expr.UnaryOp.elim x h g) fun h=>d:=by rcases x with _ | _<;>first | exact @rfl β d | exact rfl
theorem eP{x:Expr}{g:∀(op:UnaryOp) (e:Expr) (p:Pos),β}(h:jb d x g=w)(hd:d≠w)(k:∀(op:UnaryOp) (e:Expr) (p:Pos),g op e p=w→M (.UnaryOp op e p)):M x:=cH ((sP ..).symm.trans h) hd fun q=>Expr.UnaryOp.elim (motive_1:=fun x=>jb d x g=w→M x) x q k h
noncomputable def mI(d:β)(x:Expr)(g:∀(l:Expr) (op:Operator) (r:Expr) (p:Pos),β):β:=by cases x with | BinOp u v w y=>exact g u v w y | _=>exact d
theorem wD(d:β)(x:Expr)(g:∀(l:Expr) (op:Operator) (r:Expr) (p:Pos),β):mI d x g=dite (x.ctorIdx=2) (fun h=>Expr.BinOp.elim x h g) fun h=>d:=by rcases x with _ | _<;>first | exact @rfl β d | exact rfl
theorem iA{x:Expr}{g:∀(l:Expr) (op:Operator) (r:Expr) (p:Pos),β}(h:mI d x g=w)(hd:d≠w)(k:∀(l:Expr) (op:Operator) (r:Expr) (p:Pos),g l op r p=w→M (.BinOp l op r p)):M x:=cH ((wD ..).symm.trans h) hd fun q=>Expr.BinOp.elim (motive_1:=fun x=>mI d x g=w→M x) x q k h
noncomputable def dH(d:β)(x:Expr)(g:∀(o:Expr) (n:Str) (p:Pos),β):β:=by cases x with | Attribute u v w=>exact g u v w | _=>exact d
theorem pR(d:β)(x:Expr)(g:∀(o:Expr) (n:Str) (p:Pos),β):dH d x g=dite (x.ctorIdx=20) (fun h=>Expr.Attribute.elim x h g) fun h=>d:=by rcases x with _ | _<;>first | exact @rfl β d | exact rfl
theorem cI{x:Expr}{g:∀(o:Expr) (n:Str) (p:Pos),β}(h:dH d x g=w)(hd:d≠w)(k:∀(o:Expr) (n:Str) (p:Pos),g o n p=w→M (.Attribute o n p)):M x:=cH ((pR ..).symm.trans h) hd fun q=>Expr.Attribute.elim (motive_1:=fun x=>dH d x g=w→M x) x q k h
noncomputable def gq(d:β)(x:Expr)(g:∀(o sl:Expr) (p:Pos),β):β:=by cases x with | Subscript u v w=>exact g u v w | _=>exact d
theorem pW(d:β)(x:Expr)(g:∀(o sl:Expr) (p:Pos),β):gq d x g=dite (x.ctorIdx=21) (fun h=>Expr.Subscript.elim x h g) fun h=>d:=by rcases x with _ | _<;>first | exact @rfl β d | exact rfl
theorem dN{x:Expr}{g:∀(o sl:Expr) (p:Pos),β}(h:gq d x g=w)(hd:d≠w)(k:∀(o sl:Expr) (p:Pos),g o sl p=w→M (.Subscript o sl p)):M x:=cH ((pW ..).symm.trans h) hd fun q=>Expr.Subscript.elim (motive_1:=fun x=>gq d x g=w→M x) x q k h
noncomputable def ko(d:β)(x:Expr)(g:∀(op:BoolOp) (xs:List Expr) (p:Pos),β):β:=by cases x with | BoolOp u v w=>exact g u v w | _=>exact d
theorem uM(d:β)(x:Expr)(g:∀(op:BoolOp) (xs:List Expr) (p:Pos),β):ko d x g=dite (x.ctorIdx=0) (fun h=>Expr.BoolOp.elim x h g) fun h=>d:=by rcases x with _ | _<;>first | exact @rfl β d | exact rfl
theorem fG{x:Expr}{g:∀(op:BoolOp) (xs:List Expr) (p:Pos),β}(h:ko d x g=w)(hd:d≠w)(k:∀(op:BoolOp) (xs:List Expr) (p:Pos),g op xs p=w→M (.BoolOp op xs p)):M x:=cH ((uM ..).symm.trans h) hd fun q=>Expr.BoolOp.elim (motive_1:=fun x=>ko d x g=w→M x) x q k h
noncomputable def ja(d:β)(x:Expr)(g:∀(l:Expr) (ops:List CmpOp) (rs:List Expr) (p:Pos),β):β:=by cases x with | Compare u v w y=>exact g u v w y | _=>exact d
theorem sH(d:β)(x:Expr)(g:∀(l:Expr) (ops:List CmpOp) (rs:List Expr) (p:Pos),β):ja d x g=dite (x.ctorIdx=15) (fun h=>Expr.Compare.elim x h g) fun h=>d:=by rcases x with _ | _<;>first | exact @rfl β d | exact rfl
theorem iJ{x:Expr}{g:∀(l:Expr) (ops:List CmpOp) (rs:List Expr) (p:Pos),β}(h:ja d x g=w)(hd:d≠w)(k:∀(l:Expr) (ops:List CmpOp) (rs:List Expr) (p:Pos),g l ops rs p=w→M (.Compare l ops rs p)):M x:=cH ((sH ..).symm.trans h) hd fun q=>Expr.Compare.elim (motive_1:=fun x=>ja d x g=w→M x) x q k h
noncomputable def oQ(d:β)(x:Expr)(g:∀(t y z:Expr) (p:Pos),β):β:=by cases x with | IfExp u v w y=>exact g u v w y | _=>exact d
theorem wI(d:β)(x:Expr)(g:∀(t y z:Expr) (p:Pos),β):oQ d x g=dite (x.ctorIdx=5) (fun h=>Expr.IfExp.elim x h g) fun h=>d:=by rcases x with _ | _<;>first | exact @rfl β d | exact rfl
theorem kr{x:Expr}{g:∀(t y z:Expr) (p:Pos),β}(h:oQ d x g=w)(hd:d≠w)(k:∀(t y z:Expr) (p:Pos),g t y z p=w→M (.IfExp t y z p)):M x:=cH ((wI ..).symm.trans h) hd fun q=>Expr.IfExp.elim (motive_1:=fun x=>oQ d x g=w→M x) x q k h
noncomputable def iC(d:β)(x:Expr)(g:∀(xs:List Expr) (kd:Nat) (p:Pos),β):β:=by cases x with | Tuple u v w=>exact g u v w | _=>exact d
theorem wL(d:β)(x:Expr)(g:∀(xs:List Expr) (kd:Nat) (p:Pos),β):iC d x g=dite (x.ctorIdx=25) (fun h=>Expr.Tuple.elim x h g) fun h=>d:=by rcases x with _ | _<;>first | exact @rfl β d | exact rfl
theorem fm{x:Expr}{g:∀(xs:List Expr) (kd:Nat) (p:Pos),β}(h:iC d x g=w)(hd:d≠w)(k:∀(xs:List Expr) (kd:Nat) (p:Pos),g xs kd p=w→M (.Tuple xs kd p)):M x:=cH ((wL ..).symm.trans h) hd fun q=>Expr.Tuple.elim (motive_1:=fun x=>iC d x g=w→M x) x q k h
noncomputable def sK(d:β)(x:Expr)(g:∀(xs:List Expr) (p:Pos),β):β:=by cases x with | List u v=>exact g u v | _=>exact d
theorem zx(d:β)(x:Expr)(g:∀(xs:List Expr) (p:Pos),β):sK d x g=dite (x.ctorIdx=24) (fun h=>Expr.List.elim x h g) fun h=>d:=by rcases x with _ | _<;>first | exact @rfl β d | exact rfl
theorem pU{x:Expr}{g:∀(xs:List Expr) (p:Pos),β}(h:sK d x g=w)(hd:d≠w)(k:∀(xs:List Expr) (p:Pos),g xs p=w→M (.List xs p)):M x:=cH ((zx ..).symm.trans h) hd fun q=>Expr.List.elim (motive_1:=fun x=>sK d x g=w→M x) x q k h
noncomputable def sJ(d:β)(x:Expr)(g:∀(ks:List (Option Expr)) (vs:List Expr) (p:Pos),β):β:=by cases x with | Dict u v w=>exact g u v w | _=>exact d
theorem zv(d:β)(x:Expr)(g:∀(ks:List (Option Expr)) (vs:List Expr) (p:Pos),β):sJ d x g=dite (x.ctorIdx=6) (fun h=>Expr.Dict.elim x h g) fun h=>d:=by rcases x with _ | _<;>first | exact @rfl β d | exact rfl
theorem pS{x:Expr}{g:∀(ks:List (Option Expr)) (vs:List Expr) (p:Pos),β}(h:sJ d x g=w)(hd:d≠w)(k:∀(ks:List (Option Expr)) (vs:List Expr) (p:Pos),g ks vs p=w→M (.Dict ks vs p)):M x:=cH ((zv ..).symm.trans h) hd fun q=>Expr.Dict.elim (motive_1:=fun x=>sJ d x g=w→M x) x q k h
noncomputable def kq(d:β)(x:Expr)(g:∀(f:Expr) (args:List Expr) (kw:List Keyword) (p:Pos),β):β:=by cases x with | Call u v w y=>exact g u v w y | _=>exact d
theorem zs(d:β)(x:Expr)(g:∀(f:Expr) (args:List Expr) (kw:List Keyword) (p:Pos),β):kq d x g=dite (x.ctorIdx=16) (fun h=>Expr.Call.elim x h g) fun h=>d:=by rcases x with _ | _<;>first | exact @rfl β d | exact rfl
theorem fZ{x:Expr}{g:∀(f:Expr) (args:List Expr) (kw:List Keyword) (p:Pos),β}(h:kq d x g=w)(hd:d≠w)(k:∀(f:Expr) (args:List Expr) (kw:List Keyword) (p:Pos),g f args kw p=w→M (.Call f args kw p)):M x:=cH ((zs ..).symm.trans h) hd fun q=>Expr.Call.elim (motive_1:=fun x=>kq d x g=w→M x) x q k h
noncomputable def ia(d:β)(x:Expr)(g:∀(y:Expr) (gs:List Comprehension) (sc:Scope) (p:Pos),β):β:=by cases x with | ListComp u v w y=>exact g u v w y | _=>exact d
theorem qE(d:β)(x:Expr)(g:∀(y:Expr) (gs:List Comprehension) (sc:Scope) (p:Pos),β):ia d x g=dite (x.ctorIdx=8) (fun h=>Expr.ListComp.elim x h g) fun h=>d:=by rcases x with _ | _<;>first | exact @rfl β d | exact rfl
theorem ib{x:Expr}{g:∀(y:Expr) (gs:List Comprehension) (sc:Scope) (p:Pos),β}(h:ia d x g=w)(hd:d≠w)(k:∀(y:Expr) (gs:List Comprehension) (sc:Scope) (p:Pos),g y gs sc p=w→M (.ListComp y gs sc p)):M x:=cH ((qE ..).symm.trans h) hd fun q=>Expr.ListComp.elim (motive_1:=fun x=>ia d x g=w→M x) x q k h
noncomputable def oS(d:β)(x:Stmt)(g:∀(v:Expr) (p:Pos),β):β:=by cases x with | Expr u v=>exact g u v | _=>exact d
theorem wJ(d:β)(x:Stmt)(g:∀(v:Expr) (p:Pos),β):oS d x g=dite (x.ctorIdx=24) (fun h=>Stmt.Expr.elim x h g) fun h=>d:=by rcases x with _ | _<;>first | exact @rfl β d | exact rfl
theorem uP{M:Stmt→Prop}{x:Stmt}{g:∀(v:Expr) (p:Pos),β}(h:oS d x g=w)(hd:d≠w)(k:∀(v:Expr) (p:Pos),g v p=w→M (.Expr v p)):M x:=cH ((wJ ..).symm.trans h) hd fun q=>Stmt.Expr.elim (motive_2:=fun x=>oS d x g=w→M x) x q k h
noncomputable def kJ(d:β)(x:Stmt)(g:∀(ts:List Expr) (v:Expr) (p:Pos),β):β:=by cases x with | Assign u v w=>exact g u v w | _=>exact d
theorem sL(d:β)(x:Stmt)(g:∀(ts:List Expr) (v:Expr) (p:Pos),β):kJ d x g=dite (x.ctorIdx=5) (fun h=>Stmt.Assign.elim x h g) fun h=>d:=by rcases x with _ | _<;>first | exact @rfl β d | exact rfl
theorem qF{M:Stmt→Prop}{x:Stmt}{g:∀(ts:List Expr) (v:Expr) (p:Pos),β}(h:kJ d x g=w)(hd:d≠w)(k:∀(ts:List Expr) (v:Expr) (p:Pos),g ts v p=w→M (.Assign ts v p)):M x:=cH ((sL ..).symm.trans h) hd fun q=>Stmt.Assign.elim (motive_2:=fun x=>kJ d x g=w→M x) x q k h
noncomputable def xY(d:β)(x:Stmt)(g:∀(t:Expr) (y z:List Stmt) (p:Pos),β):β:=by cases x with | If u v w y=>exact g u v w y | _=>exact d
theorem BN(d:β)(x:Stmt)(g:∀(t:Expr) (y z:List Stmt) (p:Pos),β):xY d x g=dite (x.ctorIdx=12) (fun h=>Stmt.If.elim x h g) fun h=>d:=by rcases x with _ | _<;>first | exact @rfl β d | exact rfl
theorem zA{M:Stmt→Prop}{x:Stmt}{g:∀(t:Expr) (y z:List Stmt) (p:Pos),β}(h:xY d x g=w)(hd:d≠w)(k:∀(t:Expr) (y z:List Stmt) (p:Pos),g t y z p=w→M (.If t y z p)):M x:=cH ((BN ..).symm.trans h) hd fun q=>Stmt.If.elim (motive_2:=fun x=>xY d x g=w→M x) x q k h
noncomputable def mJ(d:β)(x:Stmt)(g:∀(t:Expr) (y z:List Stmt) (p:Pos),β):β:=by cases x with | While u v w y=>exact g u v w y | _=>exact d
theorem uQ(d:β)(x:Stmt)(g:∀(t:Expr) (y z:List Stmt) (p:Pos),β):mJ d x g=dite (x.ctorIdx=11) (fun h=>Stmt.While.elim x h g) fun h=>d:=by rcases x with _ | _<;>first | exact @rfl β d | exact rfl
theorem sO{M:Stmt→Prop}{x:Stmt}{g:∀(t:Expr) (y z:List Stmt) (p:Pos),β}(h:mJ d x g=w)(hd:d≠w)(k:∀(t:Expr) (y z:List Stmt) (p:Pos),g t y z p=w→M (.While t y z p)):M x:=cH ((uQ ..).symm.trans h) hd fun q=>Stmt.While.elim (motive_2:=fun x=>mJ d x g=w→M x) x q k h
noncomputable def sM(d:β)(x:Stmt)(g:∀(tg it:Expr) (y z:List Stmt) (p:Pos),β):β:=by cases x with | For u v w y q=>exact g u v w y q | _=>exact d
theorem zz(d:β)(x:Stmt)(g:∀(tg it:Expr) (y z:List Stmt) (p:Pos),β):sM d x g=dite (x.ctorIdx=9) (fun h=>Stmt.For.elim x h g) fun h=>d:=by rcases x with _ | _<;>first | exact @rfl β d | exact rfl
theorem wK{M:Stmt→Prop}{x:Stmt}{g:∀(tg it:Expr) (y z:List Stmt) (p:Pos),β}(h:sM d x g=w)(hd:d≠w)(k:∀(tg it:Expr) (y z:List Stmt) (p:Pos),g tg it y z p=w→M (.For tg it y z p)):M x:=cH ((zz ..).symm.trans h) hd fun q=>Stmt.For.elim (motive_2:=fun x=>sM d x g=w→M x) x q k h
noncomputable def kK(d:β)(x:Stmt)(g:∀(v:Option Expr) (p:Pos),β):β:=by cases x with | Return u v=>exact g u v | _=>exact d
theorem sN(d:β)(x:Stmt)(g:∀(v:Option Expr) (p:Pos),β):kK d x g=dite (x.ctorIdx=3) (fun h=>Stmt.Return.elim x h g) fun h=>d:=by rcases x with _ | _<;>first | exact @rfl β d | exact rfl
theorem qG{M:Stmt→Prop}{x:Stmt}{g:∀(v:Option Expr) (p:Pos),β}(h:kK d x g=w)(hd:d≠w)(k:∀(v:Option Expr) (p:Pos),g v p=w→M (.Return v p)):M x:=cH ((sN ..).symm.trans h) hd fun q=>Stmt.Return.elim (motive_2:=fun x=>kK d x g=w→M x) x q k h
noncomputable def iB(d:β)(x:Stmt)(g:∀(p:Pos),β):β:=by cases x with | Continue u=>exact g u | _=>exact d
theorem pV(d:β)(x:Stmt)(g:∀(p:Pos),β):iB d x g=dite (x.ctorIdx=27) (fun h=>Stmt.Continue.elim x h g) fun h=>d:=by rcases x with _ | _<;>first | exact @rfl β d | exact rfl
theorem oE{M:Stmt→Prop}{x:Stmt}{g:∀(p:Pos),β}(h:iB d x g=w)(hd:d≠w)(k:∀(p:Pos),g p=w→M (.Continue p)):M x:=cH ((pV ..).symm.trans h) hd fun q=>Stmt.Continue.elim (motive_2:=fun x=>iB d x g=w→M x) x q k h
noncomputable def oP(d:β)(x:Const)(g:β):β:=by cases x with | none=>exact g | _=>exact d
theorem wG(d:β)(x:Const)(g:β):oP d x g=dite (x.ctorIdx=0) (fun h=>Const.none.elim x h g) fun h=>d:=by rcases x with _ | _<;>first | exact @rfl β d | exact rfl
theorem uO{M:Const→Prop}{x:Const}{g:β}(h:oP d x g=w)(hd:d≠w)(k:g=w→M (.none)):M x:=cH ((wG ..).symm.trans h) hd fun q=>Const.none.elim (motive:=fun x=>oP d x g=w→M x) x q k h
noncomputable def oO(d:β)(x:Const)(g:∀(b:Bool),β):β:=by cases x with | bool u=>exact g u | _=>exact d
theorem wE(d:β)(x:Const)(g:∀(b:Bool),β):oO d x g=dite (x.ctorIdx=1) (fun h=>Const.bool.elim x h g) fun h=>d:=by rcases x with _ | _<;>first | exact @rfl β d | exact rfl
theorem uN{M:Const→Prop}{x:Const}{g:∀(b:Bool),β}(h:oO d x g=w)(hd:d≠w)(k:∀(b:Bool),g b=w→M (.bool b)):M x:=cH ((wE ..).symm.trans h) hd fun q=>Const.bool.elim (motive:=fun x=>oO d x g=w→M x) x q k h
noncomputable def sG(d:β)(x:Const)(g:∀(i:Int),β):β:=by cases x with | int u=>exact g u | _=>exact d
theorem zt(d:β)(x:Const)(g:∀(i:Int),β):sG d x g=dite (x.ctorIdx=2) (fun h=>Const.int.elim x h g) fun h=>d:=by rcases x with _ | _<;>first | exact @rfl β d | exact rfl
theorem wF{M:Const→Prop}{x:Const}{g:∀(i:Int),β}(h:sG d x g=w)(hd:d≠w)(k:∀(i:Int),g i=w→M (.int i)):M x:=cH ((zt ..).symm.trans h) hd fun q=>Const.int.elim (motive:=fun x=>sG d x g=w→M x) x q k h
noncomputable def sI(d:β)(x:Const)(g:∀(s:Str),β):β:=by cases x with | str u=>exact g u | _=>exact d
theorem zu(d:β)(x:Const)(g:∀(s:Str),β):sI d x g=dite (x.ctorIdx=5) (fun h=>Const.str.elim x h g) fun h=>d:=by rcases x with _ | _<;>first | exact @rfl β d | exact rfl
theorem wH{M:Const→Prop}{x:Const}{g:∀(s:Str),β}(h:sI d x g=w)(hd:d≠w)(k:∀(s:Str),g s=w→M (.str s)):M x:=cH ((zu ..).symm.trans h) hd fun q=>Const.str.elim (motive:=fun x=>sI d x g=w→M x) x q k h
end
noncomputable def yy(x:Expr)(g:Int→Bool):Bool:=eY false x fun c z_ z_=>sG false c g
noncomputable def GN(i:Int)(x:Expr):Bool:=yy x (fun j=>i==j) ||jb false x (fun op e z_=>decide (op=.USub)&&yy e fun j=>i== -j) ||
 mI false x (fun a op b z_=>decide (op=.Pow)&&yy a (fun j=>j==10)&&yy b (fun j=>j==18)&&i==1000000000000000000)
noncomputable def GM(v:V)(x:Expr):Bool:=V.casesOn (motive_1:=fun z_=>Bool) v (eY false x fun c z_ z_=>oP false c true) (fun b=>eY false x fun c z_ z_=>oO false c fun d=>b==d) (fun i=>GN i x) (fun s=>eY false x fun c z_ z_=>sI false c fun t=>t==Str.ofString s) (fun z_=>false) (fun z_=>false) (fun z_=>false)
noncomputable def ga(x:Expr):Bool:= !(x.ctorIdx==16)
noncomputable def E4:iM→String | .len=>"len" | .list=>"list" | .tuple=>"tuple" | .sorted=>"sorted" | .max=>"max" | .int=>"int" | .isTuple=>"isinstance" | .isInt=>"isinstance" | .sum=>"sum"
noncomputable def x9:iM→Option String | .isTuple=>some "tuple" | .isInt=>some "int" | _=>none
noncomputable def Dh(nm:Nm)(p:iM)(args:List Expr):Option (List Expr) :=
 match x9 p with
 | none=>some args
 | some t=>c0 none args fun x r=>c0 none r fun y r=>dD none r (jE none y fun id z_=>if id==Str.ofString t&&nF nm id then some [x] else none)
noncomputable def Bf(nm:Nm)(x:String)(t:Expr):Bool:=jE false t fun id z_=>id==Str.ofString x&&iZ nm id
noncomputable def qX(nm:Nm)(t:Tn)(x:Expr):Bool:=Tn.casesOn (motive:=fun z_=>Bool) t (fun y=>Bf nm y x) fun y z=>iC false x fun ts z_ z_=>c0 false ts fun p r=>c0 false r fun q r=>dD false r (Bf nm y p&&Bf nm z q&&!(y==z))
noncomputable def ee(nm:Nm)(sc:Scope)(ns:List String):Bool :=
 decide (sc.kind=.function)&&(ns.all fun x=>decide (sc.names.lookup (Str.ofString x)=some .local))&&sc.names.all fun (n,k)=>match k with
  | .cell=>false
  | .local=>decide (sc.names.lookup n=some .local)&&(ns.any (fun x=>n==Str.ofString x) ||n==Str.ofString ".0")
  | .free=>decide (nm.lookup n=some .cell)
  | _=>true
noncomputable def jm(nm:Nm)(f:String)(x:Expr):Option (List Expr):=kq none x fun g args kw z_=>jE none g fun id z_=>dD none kw (if id==Str.ofString f&&nF nm id then some args else none)
noncomputable def cV(nm:Nm)(k:nc)(x:Expr):Option (List Expr):=nc.casesOn (motive:=fun z_=>Option (List Expr)) k (some [x]) (jm nm "enumerate" x) (jm nm "zip" x) (jm nm "range" x)
 (kq none x fun g args kw pos=>dH none g fun o n apos=>dD none args (dD none kw (if n==Str.ofString "values"&&ga o&&(apos.endLine==pos.line) then some [o] else none)))
noncomputable def Dz(t:Tn):Bool:=Tn.casesOn (motive:=fun z_=>Bool) t (fun z_=>true) fun z_ z_=>false
noncomputable def FY(t t':Tn):Bool:=Tn.casesOn (motive:=fun z_=>Bool) t (fun a=>Tn.casesOn (motive:=fun z_=>Bool) t' (fun b=>!(a==b)) fun z_ z_=>false) fun z_ z_=>false
noncomputable def jn(o:Option (List Expr))(g:List Expr→Bool):Bool:=Option.casesOn (motive:=fun z_=>Bool) o false g
noncomputable def yB(nm nm':Nm)(t:Tn)(k:nc)(l:List E)(g:Comprehension)(sub:List Expr→Bool):Bool:=Dz t&&decide (g.is_async=0)&&decide (l.length=1)&&qX nm' t g.target&&jn (cV nm k g.iter) sub
mutual
noncomputable def cn(P:gB)(nm:Nm):E→Expr→Bool
 | .const v,x=>GM v x
 | .var y,x=>jE false x fun id z_=>id==Str.ofString y&&iZ nm id&&!(id==("__debug__":Str))
 | .glob y v,x=>jE false x fun id z_=>id==Str.ofString y&&nF nm id&&(P.gl.lookup y).any fun w=>V.same w v
 | .attr e a,x=>dH false x fun o n z_=>n==Str.ofString a&&P.attrs.contains a&&ga o&&cn P nm e o
 | .sub e i,x=>gq false x fun o sl z_=>cn P nm e o&&cn P nm i sl
 | .cut e lo hi,x=>false
 | .bin op a b,x=>mI false x fun l op' r z_=>op'==F6 op&&cn P nm a l&&cn P nm b r
 | .not e,x=>jb false x fun op y z_=>decide (op=.Not)&&cn P nm e y
 | .and l,x=>ko false x fun op xs z_=>decide (op=.And)&&cL P nm l xs
 | .or l,x=>ko false x fun op xs z_=>decide (op=.Or)&&cL P nm l xs
 | .cmp op a b,x=>ja false x fun l ops rs z_=>c0 false ops fun op' r1=>dD false r1 (c0 false rs fun r r2=>dD false r2 (op'==q7 op&&!(behindInMarks op' r)&&cn P nm a l&&cn P nm b r))
 | .chain a b c,x=>ja false x fun l ops rs z_=>decide (ops=[.LtE,.Lt])&&c0 false rs fun m r1=>c0 false r1 fun r r2=>dD false r2 (!(behindInMarks .Lt r)&&cn P nm a l&&cn P nm b m&&cn P nm c r)
 | .ite c a b,x=>oQ false x fun t y z z_=>cn P nm c t&&cn P nm a y&&cn P nm b z
 | .tup l,x=>iC false x fun xs z_ z_=>decide (xs.length<1000)&&cL P nm l xs
 | .list l,x=>sK false x fun xs z_=>decide (xs.length<1000)&&cL P nm l xs
 | .dict l,x=>sJ false x fun ks vs z_=>decide (ks.length≤15)&&qU P nm l ks vs
 | .call f l,x=>jn (jm nm f x) fun args=>P.fns.contains f&&cL P nm l args
 | .new c l,x=>jn (jm nm c x) fun args=>P.clss.contains c&&cL P nm l args
 | .meth c e m l,x=>kq false x fun g args kw pos=>dH false g fun o n apos=>dD false kw (n==Str.ofString m&&P.has.contains (c,m)&&ga o&&(apos.endLine==pos.line)&&decide (args.length<20)&&cn P nm e o&&cL P nm l args)
 | .prim p l,x=>jn (jm nm (E4 p) x) fun args=>jn (Dh nm p args) fun as=>cL P nm l as
 | .bm b e l,x=>kq false x fun g args kw pos=>dH false g fun o n apos=>dD false kw (n==Str.ofString (HH b)&&ga o&&(apos.endLine==pos.line)&&decide (args.length<20)&&cn P nm e o&&cL P nm l args)
 | .comp elt t k l ifs,x=>ia false x fun y gs sc z_=>c0 false gs fun g r=>dD false r ((k==.over ||k==.range ||k==.values)&&ee nm sc t.names&&yB nm (dn nm sc.names) t k l g (fun as=>cL P nm l as)&&cn P (dn nm sc.names) elt y&&cL P (dn nm sc.names) ifs g.ifs)
 | .comp2 elt t k l t' k' l' ifs,x=>ia false x fun y gs sc z_=>c0 false gs fun g r=>c0 false r fun g' r'=>dD false r' (k==.over&&k'==.over&&FY t t'&&dD false g.ifs true&&ee nm sc (t.names++t'.names)&&yB nm (dn nm sc.names) t k l g (fun as=>cL P nm l as)&&yB (dn nm sc.names) (dn nm sc.names) t' k' l' g' (fun as=>cL P (dn nm sc.names) l' as)&&cn P (dn nm sc.names) elt y&&cL P (dn nm sc.names) ifs g'.ifs)
noncomputable def cL(P:gB)(nm:Nm):List E→List Expr→Bool
 | [],xs=>dD false xs true
 | e::r,xs=>c0 false xs fun x xs=>cn P nm e x&&cL P nm r xs
noncomputable def qU(P:gB)(nm:Nm):List (E×E)→List (Option Expr)→List Expr→Bool
 | [],ks,vs=>dD false ks (dD false vs true)
 | p::r,ks,vs=>c0 false ks fun k ks=>c0 false vs fun y ys=>Option.any (fun x=>cn P nm p.1 x) k&&cn P nm p.2 y&&qU P nm r ks ys
end
noncomputable def hJ(nm:Nm):List String→List Expr→Bool
 | [],ts=>dD false ts true
 | x::xs,ts=>c0 false ts fun t ts=>Bf nm x t&&hJ nm xs ts
noncomputable def pg(P:gB)(nm:Nm)(t:T)(x:Expr):Bool:=match t with
 | .name y=>Bf nm y x
 | .attr e a=>dH false x fun o n z_=>n==Str.ofString a&&P.attrs.contains a&&cn P nm e o
 | .sub e i=>gq false x fun o sl z_=>cn P nm e o&&cn P nm i sl
 | .names xs=>iC false x fun ts z_ z_=>decide (xs.length=2∨xs.length=3)&&decide (xs.Nodup)&&hJ nm xs ts
 | _=>false
noncomputable def pQ(t x:Expr):Bool:=iC true t fun z_ z_ z_=>iC true x fun vs z_ z_=>(vs.all (foldedForSure 8) ||!(vs.all (constantsAlone 8)))&&!(vs.any fun x=>x.ctorIdx==22)
noncomputable def lJ(t:Tn):Bool:=Tn.casesOn (motive:=fun z_=>Bool) t (fun z_=>false) fun z_ z_=>true
noncomputable def oK(e:E):Bool:=by cases e with | const v=>exact v.ctorIdx==0 | _=>exact false
theorem wa(e:E):oK e=dite (e.ctorIdx=0) (fun h=>E.const.elim e h fun v=>v.ctorIdx==0) fun h=>false:=by rcases e with _ | _<;>first | exact @rfl Bool false | exact rfl
theorem ur(h:oK e=true):e=.const .none:=cH ((wa e).symm.trans h) ft fun q=>E.const.elim (motive_1:=fun e=>oK e=true→e=.const .none) e q (fun v (h:(v.ctorIdx==0)=true)=>congrArg E.const (V.none.elim (motive_1:=fun v=>v=.none) v (eq_of_beq h) rfl)) h
mutual
noncomputable def GO(P:gB)(nm:Nm):S→Stmt→Bool
 | .stuck,_=>true
 | .expr e,x=>oS false x fun v z_=>kq false v (fun z_ z_ z_ z_=>true)&&cn P nm e v
 | .assign t e,x=>kJ false x fun ts v z_=>c0 false ts fun tg r=>dD false r (pg P nm t tg&&pQ tg v&&cn P nm e v)
 | .ite c a b,x=>xY false x fun t y z z_=>cn P nm c t&&k8 P nm a y&&k8 P nm b z
 | .whil c b,x=>mJ false x fun t y z z_=>dD false z (cn P nm c t&&k8 P nm b y)
 | .forr t k l b,x=>sM false x fun tg it y z z_=>dD false z (((decide (l.length=1)&&(k==.over ||k==.range ||(k==.enum&&lJ t))) ||(decide (l.length=2)&&k==.zip&&lJ t))&&qX nm t tg&&jn (cV nm k it) (fun as=>cL P nm l as)&&k8 P nm b y)
 | .ret e,x=>kK false x fun v z_=>Option.casesOn (motive:=fun z_=>Bool) v (oK e) fun v=>cn P nm e v
 | .cont,x=>iB false x fun z_=>true
noncomputable def k8(P:gB)(nm:Nm):List S→List Stmt→Bool
 | [],xs=>dD false xs true
 | s::r,xs=>s.ctorIdx==7 ||c0 false xs fun x xs=>GO P nm s x&&k8 P nm r xs
end
noncomputable def AE:List (String×Value):=[("len",.builtin "len"),("list",.type "list"),("tuple",.type "tuple"),("sorted",.builtin "sorted"),("max",.builtin "max"),("int",.type "int"),("isinstance",.builtin "isinstance"),("sum",.builtin "sum"),("range",.type "range"),("enumerate",.type "enumerate"),("zip",.type "zip")]
noncomputable def nu(x:String):Option Value:=AE.lookup x
structure kW(W:Wd)(P:gB)(fa:String×String→Option Addr)(mg mb:Str→Option Value):Prop where
 wok:Fp W P.attrs
 g:W.h₀.Ns mainGlobals mg
 b:W.h₀.Ns builtinsNs mb
 blt:∀x v,nu x=some v→mg (Str.ofString x)=none∧mb (Str.ofString x)=some v
 gl:∀x v,P.gl.lookup x=some v→∃u,mg (Str.ofString x)=some u∧aK W W.h₀ [] v u
 fn:∀f,f∈P.fns→∃a,mg (Str.ofString f)=some (.ref a)∧keepIn W.K (.ref a)=true∧fa ("",f)=some a
 meth:∀c m,(c,m)∈P.has→∃C a,W.cls c=some C∧fa (c,m)=some a∧findIn W.K (.ref C) (Str.ofString m)=some (some (.ref a))∧isFn W.K (.ref a)=true∧keepIn W.K (.ref a)=true∧plainGet W.K C (Str.ofString m)=true
 cls:∀c,c∈P.clss→∃C a,W.cls c=some C∧mg (Str.ofString c)=some (.ref C)∧makesIn W.K C=true∧keepIn W.K (.ref C)=true∧fa (c,"__init__")=some a∧findIn W.K (.ref C) "__init__"=some (some (.ref a))∧typeIn W.K (.ref a)=some (.type "function")
noncomputable abbrev Wd.at(W:Wd)(p:Addr→Prop):Wd:={W with priv:=p}
noncomputable def rS(W:Wd)(fa:String×String→Option Addr)(C:Hd)(k:Nat):Prop :=
 ∀key vs σ Q,C key vs σ Q→∃a,fa key=some a∧∀(A:Around) (s:Shared) (ρ:Rho) (vals:List Value),A.handled=none→A.depth+3*k+5≤recursionLimit→A.units+20*k+60≤cLine→
  bJ W s.heap ρ σ→aZ W s.heap ρ vs vals→codeAny (model W.prog W.w) A (.call (.ref a) ⟨vals,[]⟩) (fun r s'=>∃v,r=.ok (.ret v)∧ci W ρ s Q v s') s
structure eB(W:Wd)(P:gB)(fa:String×String→Option Addr)(mg mb:Str→Option Value)(C:Hd)(k:Nat)(A:Around):Prop where
 ok:kW W P fa mg mb
 co:∀p,kW (W.at p) P fa mg mb→rS (W.at p) fa C k
 hh:A.handled=none
 depth:A.depth+3*k+7≤recursionLimit
 units:A.units+20*k+77≤cLine
noncomputable def oX(W:Wd)(ρ:Rho)(s:Shared)(Q:List V→Hp→Prop)(vs:List Value)(s':Shared):Prop :=
 ∃ρ' σ' l,bp gF ρ s ρ' s'∧bJ W s'.heap ρ' σ'∧aZ W s'.heap ρ' l vs∧Q l σ'
noncomputable def lq(W:Wd)(ρ:Rho)(s:Shared)(Q:Bool→Hp→Prop)(b:Bool)(s':Shared):Prop :=
 ∃ρ' σ',bp gF ρ s ρ' s'∧bJ W s'.heap ρ' σ'∧Q b σ'
section
variable{P:gB}{k:Nat}{c:V}
theorem eB.room(X:eB W P fa mg mb C k A):A.units+20<cLine:=by have:=X.units;omega
theorem eB.call(X:eB W P fa mg mb C k A):rS W fa C k:=X.co W.priv X.ok
theorem lq.trans{Q:Bool→Hp→Prop}{b:Bool}{s₁:Shared}(x:bp gF ρ s ρ' s₁)(y:lq W ρ' s₁ Q b s'):lq W ρ s Q b s':=by
 refine cS y fun ρ'' σ' h1 h2 h3=>?_;exact ⟨ρ'',σ',x.trans h1,h2,h3⟩
theorem mj{m:Sem Value}{K:Value→Sem α}{Q:α→Shared→Prop}{Q1:K1}(h:wpAny (model W.prog W.w) A m (ci W ρ s Q1) Er s)
  (g:∀ρ' σ' a v s',bp gF ρ s ρ' s'→bJ W s'.heap ρ' σ'→aK W s'.heap ρ' a v→Q1 a σ'→wpAny (model W.prog W.w) A (K v) Q Er s'):wpAny (model W.prog W.w) A (m >>=K) Q Er s :=
 af (aH h (fun v s' q=>cK q fun ρ' σ' a h1 h2 h3 h4=>g ρ' σ' a v s' h1 h2 h3 h4) fun z_ z_ e=>e)
theorem mF(hn:env.scope.names=nm){id:Str}{k:NameKind}(h:nm.lookup id=some k):env.kindOf id=some k:=by
 show env.scope.names.lookup id=_;rw [hn];exact h
theorem i4(hn:env.scope.names=nm){id:Str}(h:iZ nm id=true):env.kindOf id=some .local∨env.kindOf id=some .cell:=by
 unfold iZ at h;simp only [Bool.or_eq_true,decide_eq_true_eq] at h;exact h.imp (mF hn) (mF hn)
theorem xL(hn:env.scope.names=nm){id:Str}(h:nF nm id=true):env.kindOf id=some .globalImplicit∧(id==("__debug__":Str))=false:=by
 unfold nF at h;rw [Bool.and_eq_true,decide_eq_true_eq,Bool.not_eq_true'] at h;exact ⟨mF hn h.1,h.2⟩
theorem sD{P':Value→Shared→Prop}{u:Value}{id:Str}{p:Pos}(X:eB W P fa mg mb C k A)(O:bv W env loc ρ s.heap)(R:bJ W s.heap ρ σ)(hn:env.scope.names=nm)(h:nF nm id=true)(hv:mg id=some u)(hq:P' u s) :
  wpAny (model W.prog W.w) A (eval (.Name id p) env) P' Er s:=by
 refine xa (xL hn h) fun h1 h2=>?_;refine Calls.Name_function_global O.kind h1 (Calls.loadGlobal_global (mg:=mg) ?_ hv hq) h2;rw [O.glob];exact X.ok.g.at' fun o e=>R.top _ o e
theorem km{P':Value→Shared→Prop}{u:Value}{x:String}{id:Str}{p:Pos}(X:eB W P fa mg mb C k A)(O:bv W env loc ρ s.heap)(R:bJ W s.heap ρ σ)(hn:env.scope.names=nm)(h:nF nm id=true)(hx:id=Str.ofString x)(hv:nu x=some u)(hq:P' u s) :
  wpAny (model W.prog W.w) A (eval (.Name id p) env) P' Er s:=by
 refine xa (xL hn h) fun h1 h2=>?_;refine xa (X.ok.blt x u hv) fun q1 q2=>?_;subst hx;refine Calls.Name_function_global O.kind h1 (Calls.loadGlobal_builtin (mg:=mg) (mb:=mb) ?_ q1 ?_ q2 hq) h2
 ·rw [O.glob];exact X.ok.g.at' fun o e=>R.top _ o e
 ·rw [O.blt];exact X.ok.b.at' fun o e=>R.top _ o e
theorem aG{a b:Bool}(h:(a&&b)=true):a=true∧b=true:=a8.1 h
theorem lL{b:Bool}(h:(!b)=true):b=false:=Bool.not_eq_true' b▸h
theorem pP [BEq α] [LawfulBEq α]{l:List α}{a:α}(h:l.contains a=true):a∈l:=List.contains_iff_mem.1 h
theorem j9{x:Expr}{g:Int→Bool}(h:yy x g=true)(k:∀i n p,g i=true→M (.Constant (.int i) n p)):M x :=
 et h ft fun c n p h=>wF (M:=fun c=>M (.Constant c n p)) h ft fun i h=>k i n p h
theorem Ic{i:Int}{e:Expr}(h:GN i e=true)(R:bJ W s.heap ρ σ)(hq:Q (.int i) σ):wpAny (model W.prog W.w) A (eval e env) (ci W ρ s Q) Er s:=by
 refine Or.elim (cf.1 h) (fun h=>?_) (fun h=>?_)
 ·refine Or.elim (cf.1 h) (fun h=>?_) (fun h=>?_)
  ·refine j9 (M:=fun e=>wpAny _ _ (eval e env) _ _ _) h fun j n p h=>?_;cases eq_of_beq h;exact wpAny_Constant_int (ci.tok R _ (.int _ _) hq)
  ·refine eP (M:=fun e=>wpAny _ _ (eval e env) _ _ _) h ft fun op y p h=>?_;have h:=aG h;cases aF h.1;refine j9 (M:=fun e=>wpAny _ _ (eval (.UnaryOp .USub e _) _) _ _ _) h.2 fun j n p h=>?_;cases eq_of_beq h;exact wpAny_UnaryOp (wpAny_Constant_int (PyProof.Rows.neg_int (ci.tok R _ (.int _ _) hq)))
 ·refine iA (M:=fun e=>wpAny _ _ (eval e env) _ _ _) h ft fun y op z p h=>?_;have h:=aG h;have h1:=aG h.1;have h2:=aG h1.1;cases aF h2.1;cases eq_of_beq h.2;refine j9 (M:=fun e=>wpAny _ _ (eval (.BinOp e .Pow _ _) _) _ _ _) h2.2 fun j n p h=>?_;cases eq_of_beq h;refine j9 (M:=fun e=>wpAny _ _ (eval (.BinOp _ .Pow e _) _) _ _ _) h1.2 fun j n p h=>?_;cases eq_of_beq h;refine wpAny_BinOp (wpAny_Constant_int (wpAny_Constant_int ?_));refine PySem.AutoIntOps.pow_4 (by decide) (by decide) (by decide) (by decide) (by decide +kernel) ?_;exact ci.tok R _ (.int _ _) hq
theorem Ib{e:Expr}(h:GM v e=true)(R:bJ W s.heap ρ σ)(hq:Q v σ):wpAny (model W.prog W.w) A (eval e env) (ci W ρ s Q) Er s:=by
 cases v with
 | none =>
  refine et (M:=fun e=>wpAny _ _ (eval e env) _ _ _) h ft fun c n p h=>?_;exact uO (M:=fun e=>wpAny _ _ (eval (.Constant e _ _) _) _ _ _) h ft fun z_=>wpAny_Constant_none (ci.here R .none hq)
 | bool b =>
  refine et (M:=fun e=>wpAny _ _ (eval e env) _ _ _) h ft fun c n p h=>uN (M:=fun e=>wpAny _ _ (eval (.Constant e _ _) _) _ _ _) h ft fun b h=>?_;cases eq_of_beq h;exact wpAny_Constant_bool (ci.here R (.bool _) hq)
 | int i=>exact Ic h R hq
 | str t =>
  refine et (M:=fun e=>wpAny _ _ (eval e env) _ _ _) h ft fun c n p h=>wH (M:=fun e=>wpAny _ _ (eval (.Constant e _ _) _) _ _ _) h ft fun b h=>?_;cases eq_of_beq h;exact wpAny_Constant_str (ci.tok R _ (.str _ rfl) hq)
 | _=>exact bF h
theorem xC{e:Expr}{n:Str}{whole:Sem Value}(h:ga e=true):attributeBase e n env whole=whole:=by
 cases e<;>first | rfl | exact bF h
theorem Df{a:Addr}{vs:List V}{vals:List Value}{key:String×String}(X:eB W P fa mg mb C k A)(hk:keepIn W.K (.ref a)=true)(ha:fa key=some a)(h:C key vs σ Q)(R:bJ W s.heap ρ σ)(r:aZ W s.heap ρ vs vals) :
  wpAny (model W.prog W.w) A (call (.ref a) vals) (ci W ρ s Q) Er s:=by
 refine bG (X.call key vs σ Q h) fun a' ha' f=>?_;rw [ha] at ha';cases ha';refine wpAny_call (codeAny_mono (f A s ρ vals X.hh (by have:=X.depth;omega) (by have:=X.units;omega) R r) fun r s' q=>bG q fun v e o=>?_);subst e;exact o
end
section
variable{P:gB}{k:Nat}{c:V}
theorem fU{f:String}{x:Expr}{as:List Expr}(h:jm nm f x=some as)(k:∀id p pos,id=Str.ofString f→nF nm id=true→M (.Call (.Name id p) as [] pos)):M x:=by
 refine fZ h ca fun g args kw pos h=>dc (M:=fun g=>M (.Call g args kw pos)) h ca fun id p h=>bE (M:=fun kw=>M (.Call _ args kw pos)) h ca fun h=>?_;refine Or.elim (Classical.em ((id==Str.ofString f&&nF nm id)=true)) (fun hc=>?_) (fun hc=>?_)
 ·cases (if_pos hc).symm.trans h;exact k id p pos (eq_of_beq (aG hc).1) (aG hc).2
 ·cases (if_neg hc).symm.trans h
theorem mM{o:Option (List Expr)}{g:List Expr→Bool}{M:Option (List Expr)→Prop}(h:jn o g=true)(k:∀as,g as=true→M (some as)):M o:=by
 cases o with
 | none=>exact bF h
 | some as=>exact k as h
theorem fj{f:String}{x:Expr}{g:List Expr→Bool}(h:jn (jm nm f x) g=true)(k:∀id p args pos,id=Str.ofString f→nF nm id=true→g args=true→M (.Call (.Name id p) args [] pos)):M x :=
 mM (M:=fun o=>jm nm f x=o→M x) h (fun as hg e=>fU e fun id p pos h1 h2=>k id p as pos h1 h2 hg) rfl
noncomputable def rB(x:Expr):Bool:=Nat.rec true (fun n z_=>!(n==6 ||n==8 ||n==9 ||n==21)) x.ctorIdx
theorem GK{x:Expr}{g:Int→Bool}(h:yy x g=true):rB x=true:=j9 (M:=fun x=>rB x=true) h fun z_ z_ z_ z_=>rfl
theorem nv{x:Expr}(h:cn P nm e x=true):rB x=true:=by
 cases e with
 | const v =>
  cases v with
  | int i=>exact (cf.1 h).elim (fun h=>(cf.1 h).elim GK fun h=>eP (M:=fun x=>rB x=true) h ft fun z_ z_ z_ z_=>rfl) fun h=>iA (M:=fun x=>rB x=true) h ft fun z_ z_ z_ z_ z_=>rfl
  | none | bool | str=>exact et (M:=fun x=>rB x=true) h ft fun z_ z_ z_ z_=>rfl
  | _=>exact bF h
 | call f l | new f l | prim f l=>exact fj (M:=fun x=>rB x=true) h fun z_ z_ z_ z_ z_ z_ z_=>rfl
 | cut=>exact bF h
 | var | glob=>exact dc (M:=fun x=>rB x=true) h ft fun z_ z_ z_=>rfl
 | attr=>exact cI (M:=fun x=>rB x=true) h ft fun z_ z_ z_ z_=>rfl
 | sub=>exact dN (M:=fun x=>rB x=true) h ft fun z_ z_ z_ z_=>rfl
 | bin=>exact iA (M:=fun x=>rB x=true) h ft fun z_ z_ z_ z_ z_=>rfl
 | not=>exact eP (M:=fun x=>rB x=true) h ft fun z_ z_ z_ z_=>rfl
 | and | or=>exact fG (M:=fun x=>rB x=true) h ft fun z_ z_ z_ z_=>rfl
 | cmp | chain=>exact iJ (M:=fun x=>rB x=true) h ft fun z_ z_ z_ z_ z_=>rfl
 | ite=>exact kr (M:=fun x=>rB x=true) h ft fun z_ z_ z_ z_ z_=>rfl
 | tup=>exact fm (M:=fun x=>rB x=true) h ft fun z_ z_ z_ z_=>rfl
 | list=>exact pU (M:=fun x=>rB x=true) h ft fun z_ z_ z_=>rfl
 | dict=>exact pS (M:=fun x=>rB x=true) h ft fun z_ z_ z_ z_=>rfl
 | meth | bm=>exact fZ (M:=fun x=>rB x=true) h ft fun z_ z_ z_ z_ z_=>rfl
 | comp | comp2=>exact ib (M:=fun x=>rB x=true) h ft fun z_ z_ z_ z_ z_=>rfl
theorem kN{y:Expr}{ys:List Expr}(h:cn P nm e y=true):starEach (y::ys) env=(false,eval y env)::starEach ys env:=by
 have h:=nv h;cases y<;>first | rfl | exact bF h
theorem ds:∀{l:List E} {ys:List Expr},cL P nm l ys=true→∀{pos:Pos},(backTo pos (starEach ys env)).any (·.1)=false∧(starEach ys env).all (!·.1)=true
 | [],ys,h,pos=>bE (M:=fun ys=>(backTo pos (starEach ys env)).any (·.1)=false∧(starEach ys env).all (!·.1)=true) h ft fun z_=>⟨rfl,rfl⟩
 | e::r,ys,h,pos=>bI (M:=fun ys=>(backTo pos (starEach ys env)).any (·.1)=false∧(starEach ys env).all (!·.1)=true) h ft fun y ys h=>by
  have h:=aG h;rw [kN h.1];have:=ds h.2 (pos:=pos);exact ⟨by show (false ||_)=false;rw [Bool.false_or];exact this.1,by show (true&&_)=true;rw [Bool.true_and];exact this.2⟩
theorem jl{f:Value}{args:List (Bool×Sem Value)}{Q:Args→Shared→Prop}(hp:args.any (·.1)=false)(h:wpAny (model W.prog W.w) A (spliced args) (fun vs s'=>Q ⟨vs,[]⟩ s') Er s):wpAny (model W.prog W.w) A (evalArgs f true args []) Q Er s:=by
 cases args with
 | nil =>
  refine af (aH h (fun vs s' h'=>?_) fun z_ z_ x=>x);refine a9 ?_;exact af (ak (af (ak (ak h'))))
 | cons p r =>
  obtain ⟨b,t⟩:=p;have:b=false:=by simpa using (Bool.or_eq_false_iff.mp (by simpa using hp:(b ||r.any (·.1))=false)).1
  subst this;exact Calls.evalArgs_plain h
theorem Gp{Q1:K1}{Q:Bool→Hp→Prop}{m:Sem Value}{e:Expr}(he:isTrue e env m=(do let v ←m;standAt e.pos;holding [v] (truthy v)))(h:wpAny (model W.prog W.w) A m (ci W ρ s Q1) Er s)(hq:∀v σ',Q1 v σ'→∃b,vr σ' v=some b∧Q b σ') :
  wpAny (model W.prog W.w) A (isTrue e env m) (lq W ρ s Q) Er s:=by
 refine wpAny_isTrue_value (aH h (fun v s' q=>cK q fun ρ' σ' a h1 h2 h3 h4=>?_) fun z_ z_ e=>e) he;refine bG (hq _ _ h4) fun b hb hQ=>?_;exact tq h2 h3 hb fun t=>⟨ρ',σ',h1.trans (bp.toks ..),h2,hQ⟩
theorem jH{Q1:K1}{Q:Value→Shared→Prop}{m:Sem Value}(h:wpAny (model W.prog W.w) A m (ci W ρ s Q1) Er s)
  (g:∀ρ' σ' a v s',bp gF ρ s ρ' s'→bJ W s'.heap ρ' σ'→bg W s.heap s'.heap→aK W s'.heap ρ' a v→Q1 a σ'→Q v s') (R:bJ W s.heap ρ σ):wpAny (model W.prog W.w) A m Q Er s :=
 aH h (fun v s' q=>cK q fun ρ' σ' a h1 h2 h3 h4=>g ρ' σ' a v s' h1 h2 (h1.tup0 R) h3 h4) fun z_ z_ e=>e
end
section
variable{P:gB}{k:Nat}{c:V}
theorem nJ{o:Expr}{n:Str}{apos:Pos}{args:List Expr}{Q:Value→Shared→Prop}(hn:ga o=true)(hline:(apos.endLine==pos.line)=true)(hlen:args.length<20)(hall:(backTo pos (starEach args env)).all (!·.1)=true)
  (h:wpAny (model W.prog W.w) A (eval o env) (fun ov s₁=>∀pl,wpAny (model W.prog W.w) A (getMethod ov n pl) (fun fr s₂=>wpAny (model W.prog W.w) A (callWith pos fr.1 fr.2 (backTo pos (starEach args env)) []) Q Er s₂) Er s₁) Er s) :
  wpAny (model W.prog W.w) A (eval (.Call (.Attribute o n apos) args [] pos) env) Q Er s:=by
 rw [arm_eval_Call,xC hn];refine af (aH h (fun ov s₁ h₁=>af (wpAny_standAt ?_)) fun z_ z_ e=>e);have hform:methodCallForm (args.length+([]:List Keyword).length) (backTo pos (starEach args env)) (backToKw pos (keywordEach [] env))=true:=by
  delta methodCallForm;simp only [Bool.and_eq_true,decide_eq_true_eq];refine ⟨⟨hall,rfl⟩,?_⟩;show args.length+0+0<30;omega
 have hpos:methodCallPos true o env apos pos=pure pos:=by unfold methodCallPos;simp [hline]
 delta methodCall;rw [hform];refine af (a9 ?_);exact aH (h₁ _) (fun fr s₂ h₂=>af (wpAny_of_eq hpos h₂)) fun z_ z_ e=>e
theorem tQ{l:List (Bool×Sem Value)}(h:l.all (!·.1)=true):(backTo pos l).all (!·.1)=true:=by
 delta backTo;rw [List.all_map];exact h
theorem yo{ad:Addr}{vs0:List V}{first:List Value}{key:String×String}{args:List Expr}{Q1:List V→Hp→Prop}(X:eB W P fa mg mb C k A)(R:bJ W s.heap ρ σ)(hk:keepIn W.K (.ref ad)=true)(ha:fa key=some ad)(hp:(backTo pos (starEach args env)).any (·.1)=false)
  (r0:aZ W s.heap ρ vs0 first) (h:wpAny (model W.prog W.w) A (spliced (backTo pos (starEach args env))) (oX W ρ s Q1) Er s) (hq:∀l σ',Q1 l σ'→C key (vs0++l) σ' Q) :
  wpAny (model W.prog W.w) A (callWith pos (.ref ad) first (backTo pos (starEach args env)) []) (ci W ρ s Q) Er s:=by
 refine callWith_of (P:=W.K.In) (by rw [hp];rfl) (keeps_K hk) (jl hp (aH h (fun vs s' h'=>?_) fun z_ z_ e=>e));refine cK h' fun ρ' σ' l S R' r hQ=>?_;refine ⟨R'.K X.ok.wok,aH (Df X hk ha (hq _ _ hQ) R' ((r0.mono (S.tup0 R) S.pre).append r)) (fun v s'' h''=>h''.trans S) fun z_ z_ e=>e⟩
theorem CQ{id:String}{xs0 first:List Value}{vs0:List V}{args:List Expr}{Q1:List V→Hp→Prop}(R:bJ W s.heap ρ σ)(hp:(backTo pos (starEach args env)).any (·.1)=false)
  (r0:aZ W s.heap ρ vs0 first) (h:wpAny (model W.prog W.w) A (spliced (backTo pos (starEach args env))) (oX W ρ s Q1) Er s)
  (hq:∀l vs ρ' σ' s',Q1 l σ'→bp gF ρ s ρ' s'→bJ W s'.heap ρ' σ'→aZ W s'.heap ρ' (vs0++l) (first++vs)→wpAny (model W.prog W.w) A (call (.builtin id) (first++vs)) (ci W ρ' s' Q) Er s') :
  wpAny (model W.prog W.w) A (callWith pos (.builtin id) first (backTo pos (starEach args env)) []) (ci W ρ s Q) Er s:=by
 refine Calls.callWith_builtin hp (jl hp (aH h (fun vs s' h'=>?_) fun z_ z_ e=>e));refine cK h' fun ρ' σ' l S R' r hQ=>?_;exact aH (hq l vs ρ' σ' s' hQ S R' ((r0.mono (S.tup0 R) S.pre).append r)) (fun v s'' h''=>h''.trans S) fun z_ z_ e=>e
theorem Fx{bm:BM}{o:Expr}{apos:Pos}{args:List Expr}{Q1:K1}{Q2:V→List V→Hp→Prop}(X:eB W P fa mg mb C k A)(R:bJ W s.heap ρ σ)(hn:ga o=true)(hline:(apos.endLine==pos.line)=true)(hlen:args.length<20)(hall:(starEach args env).all (!·.1)=true)(hp:(backTo pos (starEach args env)).any (·.1)=false)
  (ho:wpAny (model W.prog W.w) A (eval o env) (ci W ρ s Q1) Er s)
  (hargs:∀a ρ' σ' s',Q1 a σ'→bp gF ρ s ρ' s'→bJ W s'.heap ρ' σ'→F2 bm σ' a=true∧wpAny (model W.prog W.w) A (spliced (backTo pos (starEach args env))) (oX W ρ' s' (Q2 a)) Er s')
  (hq:∀a l σ',Q2 a l σ'→vF bm a l σ' Q):wpAny (model W.prog W.w) A (eval (.Call (.Attribute o (Str.ofString (HH bm)) apos) args [] pos) env) (ci W ρ s Q) Er s:=by
 refine nJ hn hline hlen (tQ hall) (aH ho (fun ov s₁ h₁ pl=>?_) fun z_ z_ e=>e);refine cK h₁ fun ρ₁ σ₁ a S R₁ ra hQ=>?_;refine xa (hargs a ρ₁ σ₁ s₁ hQ S R₁) fun hb ha=>?_;refine xa (GJ R₁ ra hb) fun hT hd=>?_;refine getMethod_builtin hT (AF bm) (Db bm) (Dc bm) hd ?_;refine aH (CQ (vs0:=[a]) (xs0:=[]) R₁ hp (.cons ra .nil) ha fun l vs ρ' σ' s' hQ' S' R' r=>?_) (fun v s'' h''=>h''.trans S) fun z_ z_ e=>e;refine cS r.E fun z_ z_ e0 r1 r2=>?_;cases e0;exact GI X.ok.wok.sys X.room R' r1 r2 (hq _ _ _ hQ')
theorem BF{cl m:String}{o:Expr}{apos:Pos}{args:List Expr}{Q1:K1}{Q2:V→List V→Hp→Prop}(X:eB W P fa mg mb C k A)(R:bJ W s.heap ρ σ)(hm:(cl,m)∈P.has)(hn:ga o=true)(hline:(apos.endLine==pos.line)=true)(hlen:args.length<20)(hall:(starEach args env).all (!·.1)=true)(hp:(backTo pos (starEach args env)).any (·.1)=false)
  (ho:wpAny (model W.prog W.w) A (eval o env) (ci W ρ s Q1) Er s)
  (hargs:∀a ρ' σ' s',Q1 a σ'→bp gF ρ s ρ' s'→bJ W s'.heap ρ' σ'→∃n at',a=.obj n∧σ'[n]?=some (.inst cl at')∧mu at' m=none∧wpAny (model W.prog W.w) A (spliced (backTo pos (starEach args env))) (oX W ρ' s' (Q2 a)) Er s')
  (hq:∀a l σ',Q2 a l σ'→C (cl,m) (a::l) σ' Q):wpAny (model W.prog W.w) A (eval (.Call (.Attribute o (Str.ofString m) apos) args [] pos) env) (ci W ρ s Q) Er s:=by
 refine nJ hn hline hlen (tQ hall) (aH ho (fun ov s₁ h₁ pl=>?_) fun z_ z_ e=>e);refine cK h₁ fun ρ₁ σ₁ a S R₁ ra hQ=>?_;refine ik (hargs a ρ₁ σ₁ s₁ hQ S R₁) fun n at' q hat hnone ha=>?_;subst q;refine gw (X.ok.meth cl m hm) fun CC ad c1 c2 c3 c4 c5 c6=>?_;refine lT (R₁.inst_at ra hat) fun p ep x C' es kk h1 h2 h3 h4=>?_;subst x;rw [c1] at h1;cases h1;have hl:=(ul (n:=m) h4).2 hnone;refine method_fn (R₁.K X.ok.wok) (InstAt.mk' h2 h3) (plainGet_of c6).1 (plainGet_of c6).2 c3 (beq_iff_eq.mp c4) (by show (lookIn _ (dictOf es kk)).map _=_;rw [lookIn_dict,hl];rfl) ?_;exact aH (yo (vs0:=[.obj n]) X R₁ c5 c2 hp (.cons ra .nil) ha fun l σ' h'=>hq _ l σ' h') (fun v s'' h''=>h''.trans S) fun z_ z_ e=>e
end
theorem Af(C:Addr)(args:List Value)(kw:List (Str×Value)):(Code.builtin "type.__call__" ⟨.ref C::args,kw⟩).weight=1:=rfl
theorem Cz(C:Addr)(args:List Value)(kw:List (Str×Value)):(Code.builtin "type.__call__" ⟨.ref C::args,kw⟩).cUnits=1:=rfl
section
variable{P:gB}{k:Nat}{c:V}
theorem FZ{cl:String}{CC:Addr}{vs:List V}{vals:List Value}(X:eB W P fa mg mb C k A)(hc:cl∈P.clss)(hC:W.cls cl=some CC)(R:bJ W s.heap ρ σ)(r:aZ W s.heap ρ vs vals)
  (h:C (cl,"__init__") (.obj σ.length::vs) (σ++[.inst cl []]) fun v σ'=>v=.none∧Q (.obj σ.length) σ'):wpAny (model W.prog W.w) A (call (.ref CC) vals) (ci W ρ s Q) Er s:=by
 refine Al (X.ok.cls cl hc) fun C' ad c1 c2 c3 c4 c5 c6 c7=>?_;rw [hC] at c1;cases c1;have KX:=R.K X.ok.wok;refine bG (X.call _ _ _ _ h) fun ad' ha' f=>?_;rw [c5] at ha';cases ha';obtain ⟨hp,g,d,t,os⟩:=s;refine wpAny_call (make_core (makes_of KX c3) (looks_findIn KX c6) (fun self=>bind_fn KX self c7) (.inl (by rfl)) ?_);have hk:∀b o,hp.get? b=some o→((hp.push emptyDict).push (instObj CC hp.objs.size)).get? b=some o:=fun b o e=>aA _ (aA _ e);have hz:hp.objs.size≤((hp.push emptyDict).push (instObj CC hp.objs.size)).objs.size:=by rw [br,br];omega
 have e1:((hp.push emptyDict).push (instObj CC hp.objs.size)).get? (hp.objs.size+1)=some (instObj CC hp.objs.size):=by
  have:=aQ (hp.push emptyDict) (o:=instObj CC hp.objs.size) rfl;rw [br] at this;exact this
 have e2:((hp.push emptyDict).push (instObj CC hp.objs.size)).get? hp.objs.size=some (dictOf [] 0):=aA _ (aQ _ rfl);have R':bJ W ((hp.push emptyDict).push (instObj CC hp.objs.size)) (ρ++[(hp.objs.size+1,hp.objs.size)]) (σ++[.inst cl []]) :=
  R.grow (o:=.inst cl []) hk hz (Nat.le_succ _) (ax _) ⟨CC,[],0,hC,e1,e2,.nil,by decide⟩
 have S:bp gF ρ ⟨hp,g,d,t,os⟩ (ρ++[(hp.objs.size+1,hp.objs.size)]) ⟨(hp.push emptyDict).push (instObj CC hp.objs.size),g,d,t,os⟩:=nR (s:=⟨hp,g,d,t,os⟩) (t:=t) hk hz (Nat.le_succ _) (ax _);have self:aK W ((hp.push emptyDict).push (instObj CC hp.objs.size)) (ρ++[(hp.objs.size+1,hp.objs.size)]) (.obj σ.length) (.ref (hp.objs.size+1)):=by
  refine .obj (d:=hp.objs.size) ?_;rw [←R.len,aL (ax _)];simp
 refine codeAny_mono (f _ _ _ (.ref (hp.objs.size+1)::vals) ?_ ?_ ?_ R' (.cons self (r.mono (fun b o e z_ z_=>hk b o e) (cj ..)))) fun r s' q=>bG q fun v e o=>?_
 ·exact X.hh
 ·have:=Af CC vals [];have:=X.depth;show A.depth+(Code.builtin "type.__call__" ⟨.ref CC::vals,[]⟩).weight+3*k+5≤_;omega
 ·have:=Cz CC vals [];have:=X.units;show A.units+(Code.builtin "type.__call__" ⟨.ref CC::vals,[]⟩).cUnits+20*k+60≤_;omega
 ·subst e;refine eu o fun ρ'' σ'' a' S' R'' ra x hQ=>?_;subst x;cases ra;exact ⟨rfl,ρ'',σ'',.obj σ.length,S.trans S',R'',self.mono (S'.tup0 R') S'.pre,hQ⟩
theorem DO{cl:String}{CC:Addr}{args:List Expr}{Q1:List V→Hp→Prop}(X:eB W P fa mg mb C k A)(R:bJ W s.heap ρ σ)(hc:cl∈P.clss)(hC:W.cls cl=some CC)(hk:keepIn W.K (.ref CC)=true)(hp:(backTo pos (starEach args env)).any (·.1)=false)
  (h:wpAny (model W.prog W.w) A (spliced (backTo pos (starEach args env))) (oX W ρ s Q1) Er s) (hq:∀l σ',Q1 l σ'→C (cl,"__init__") (.obj σ'.length::l) (σ'++[.inst cl []]) fun v σ''=>v=.none∧Q (.obj σ'.length) σ'') :
  wpAny (model W.prog W.w) A (callWith pos (.ref CC) [] (backTo pos (starEach args env)) []) (ci W ρ s Q) Er s:=by
 refine callWith_of (P:=W.K.In) (by rw [hp];rfl) (keeps_K hk) (jl hp (aH h (fun vs s' h'=>?_) fun z_ z_ e=>e));refine cK h' fun ρ' σ' l S R' r hQ=>?_;refine ⟨R'.K X.ok.wok,aH (FZ X hc hC R' r (hq _ _ hQ)) (fun v s'' h''=>h''.trans S) fun z_ z_ e=>e⟩
theorem El{o sl:Expr}{Q1:K1}{Q2:V→K1}(X:eB W P fa mg mb C k A)(R:bJ W s.heap ρ σ)
  (ho:wpAny (model W.prog W.w) A (eval o env) (ci W ρ s Q1) Er s)
  (hi:∀a ρ' σ' s',Q1 a σ'→bp gF ρ s ρ' s'→bJ W s'.heap ρ' σ'→wpAny (model W.prog W.w) A (eval sl env) (ci W ρ' s' (Q2 a)) Er s')
  (hq:∀a i σ',Q2 a i σ'→∃w,kc σ' a i=some w∧Q w σ'):wpAny (model W.prog W.w) A (eval (.Subscript o sl pos) env) (ci W ρ s Q) Er s:=by
 rw [eval_Subscript];refine mj ho fun ρ₁ σ₁ a v s₁ S R₁ ra hQ=>?_;refine af (a9 (aH (hi a ρ₁ σ₁ s₁ hQ S R₁) (fun i s₂ h₂=>?_) fun z_ z_ e=>e));refine cK h₂ fun ρ₂ σ₂ b S₂ R₂ rb hQ₂=>?_;refine bG (hq _ _ _ hQ₂) fun w hw hQw=>?_;have ra':=ra.mono (S₂.tup0 R₁) S₂.pre;refine af (wpAny_standAt (af (A7 R₂ ra' (uu hw) ?_)));have key:wpAny (model W.prog W.w) A (getItem v i) (fun r s₃=>wpAny (model W.prog W.w) A (letTemporaryGo o v r >>=fun z_=>pure r) (ci W ρ s Q) Er s₃) Er s₂ :=
  aH (DC X.ok.wok.sys X.room R₂ ra' rb hw hQw) (fun r s₃ h₃=>af (wpAny_letTemporaryGo (ak (h₃.trans (S.trans S₂))))) fun z_ z_ e=>e
 unfold subscripted;refine af ?_
 split
 ·exact wpAny_operating key
 ·contradiction
 ·exact wpAny_operating key
end
section
variable{E:Value→Shared→Prop}
theorem CP{d:Addr}{es:Array DictEntry}{ep:Nat}{Q:Value→Shared→Prop}(hd:(d==sysModules)=false)(ho:gG s.heap d es ep)
  (hQ:Q (.ref s.heap.objs.size) {s with heap:=s.heap.push {cls:=.type "dict_values",data:=.fields #[.ref d]}}) :
  wpAny (model W.prog W.w) A (call (.builtin "dict.values") [.ref d]) Q E s:=by
 have hT:s.TypeIs (.ref d) "dict":=⟨_,ho,rfl⟩
 refine wpAny_call_entry F.slot_dict_values hT F.entry_dict_values ?_ (F.args_dict_values_1 _);refine af ?_;refine af (wpAny_notOrdered_dict hT ?_);refine ak ?_;refine af (gn (fun q=>absurd q (by rw [hd];simp)) fun z_=>ak ?_);exact af (wpAny_newObj_type (ak ⟨_,rfl,hQ⟩))
theorem CO{v d:Addr}{es:Array DictEntry}{ep:Nat}{Q:Value→Shared→Prop}(hv:s.heap.IsValuesView v d)(ho:gG s.heap d es ep)
  (hQ:Q (.ref s.heap.objs.size) {s with heap:=s.heap.push {cls:=.type "dict_valueiterator",data:=.fields #[.ref d,.int 0 0,.int es.size 0,.int ep 0]}}) :
  wpAny (model W.prog W.w) A (pyIter (.ref v)) Q E s:=by
 refine f7 (id hv) fun ov hov hcv hdv=>?_;refine wpAny_pyIter_slot hv.typeIs F.slot_dict_values_iter (wpAny_call_entry F.slot_dict_values_iter hv.typeIs F.entry_dict_values_iter ?_ (F.args_dict_values_iter_1 _));refine af (ak ?_);refine af ?_;refine af (wpAny_field hov hdv (x:=.ref d) rfl (ak ?_));refine af ?_;refine af (wpAny_dictEntries ho rfl ?_);refine af (wpAny_dictEpoch ho rfl ?_);have hown:Builtin.Dict_items.ownsTuple "dict_valueiterator"=false:=by decide
 simp only [hown,Bool.false_eq_true,if_false];exact wpAny_newObj_type (ak ⟨_,rfl,"dict_valueiterator",_,⟨_,aQ _ rfl,rfl⟩,F.slot_dict_valueiterator_next.lookup,hQ⟩)
theorem qd{it d:Addr}{ep:Nat}{Q:Value→Shared→Prop}(hit:s.heap.IsValIter it d i n ep)(h:Q (.ref it) s):wpAny (model W.prog W.w) A (pyIter (.ref it)) Q E s:=by
 refine wpAny_pyIter_slot hit.typeIs F.slot_dict_valueiterator_iter (wpAny_call_entry F.slot_dict_valueiterator_iter hit.typeIs entry_dict_valueiterator_iter ?_ (F.args_dict_valueiterator_iter_1 _));exact ak ⟨_,rfl,"dict_valueiterator",_,hit.typeIs,F.slot_dict_valueiterator_next.lookup,h⟩
theorem CN{it d:Addr}{ep:Nat}{es:Array DictEntry}{e:DictEntry}{Q:Option Value→Shared→Prop}(hit:s.heap.IsValIter it d i es.size ep)
  (hod:gG s.heap d es ep) (hx:es[i]?=some e)
  (hQ:∀h',h'.IsValIter it d (i+1) es.size ep→Heap.SameBut it s.heap h'→Q (some e.val) {s with heap:=h'}) :
  wpAny (model W.prog W.w) A (pyNext (.ref it)) Q E s:=by
 refine f7 (id hit) fun o ho hc hd=>?_;refine af (wpAny_attempt (wpAny_callSpecial?_slot (name:=Str.ofString "__next__") hit.typeIs F.slot_dict_valueiterator_next
  (wpAny_call_entry F.slot_dict_valueiterator_next hit.typeIs F.entry_dict_valueiterator_next ?_ (F.args_dict_valueiterator_next_1 _))))
 refine af (ak (af (af ?_)))
 first | refine af (wpAny_typeNameOfWhole_valiter hit.typeIs (ak ?_)) | refine af (wpAny_typeNameOf_valiter hit.typeIs (ak ?_))
 refine af (wpAny_fieldsOf ho hd ?_);have hown:Builtin.Dict_items.ownsTuple "dict_valueiterator"=false:=by decide
 rw [hown,if_neg b0];show wpAny _ _ (if (Value.ref d==Value.none)=true then _ else _) _ _ s;rw [if_neg (show ¬((Value.ref d==Value.none)=true) from b0)];refine af (ak (af (wpAny_dictEntries hod rfl ?_)));rw [if_neg (by simp)];refine af (ak (af (wpAny_dictEpoch hod rfl ?_)));rw [if_neg (by simp)];refine ak ?_;dsimp only;rw [if_neg (Int.not_lt.2 (Int.natCast_nonneg i)),Int.toNat_natCast,hx];refine af ?_
 first | refine af (wpAny_typeNameOfWhole_valiter hit.typeIs (ak ?_)) | refine af (wpAny_typeNameOf_valiter hit.typeIs (ak ?_))
 refine af (wpAny_isOneOf_valiter hit.typeIs ?_);show wpAny _ _ (setField (.ref it) 1 (rawInt ((i:Int)+1)) >>=_) _ _ s;refine af (wpAny_setField ho hd (by simp) ?_);have hit':(s.heap.update it (Obj.mapFields (·.setIfInBounds 1 (rawInt ((i:Int)+1))))).IsValIter it d (i+1) es.size ep :=
  ⟨_,Heap.get?_update_self _ ho (Obj.isFreed_of_fields (Obj.data_mapFields hd _)),(Obj.cls_mapFields ..).trans hc,by rw [Obj.data_mapFields hd];simp [rawInt]⟩
 refine af (a9 ?_);refine af (wpAny_isOneOf_valiter (s:={s with heap:=s.heap.update it (Obj.mapFields (·.setIfInBounds 1 (rawInt ((i:Int)+1))))}) hit'.typeIs ?_);refine af (wpAny_isOneOf_valiter (s:={s with heap:=s.heap.update it (Obj.mapFields (·.setIfInBounds 1 (rawInt ((i:Int)+1))))}) hit'.typeIs ?_);exact ak (ak ⟨_,rfl,ak (hQ _ hit' (bi ..))⟩)
theorem EB{it d:Addr}{ep:Nat}{es:Array DictEntry}{Q:Option Value→Shared→Prop}(hh:A.handled=none)(hit:s.heap.IsValIter it d i es.size ep)
  (hod:gG s.heap d es ep) (hx:es[i]?=none)
  (hQ:∀h',Heap.ExtBut it s.heap h'→s.heap.objs.size≤h'.objs.size→Q none {s with heap:=h'}):wpAny (model W.prog W.w) A (pyNext (.ref it)) Q E s:=by
 refine f7 (id hit) fun o ho hc hd=>?_;refine af (wpAny_attempt (wpAny_callSpecial?_slot (name:=Str.ofString "__next__") hit.typeIs F.slot_dict_valueiterator_next
  (wpAny_call_entry F.slot_dict_valueiterator_next hit.typeIs F.entry_dict_valueiterator_next ?_ (F.args_dict_valueiterator_next_1 _))))
 refine af (ak (af (af ?_)))
 first | refine af (wpAny_typeNameOfWhole_valiter hit.typeIs (ak ?_)) | refine af (wpAny_typeNameOf_valiter hit.typeIs (ak ?_))
 refine af (wpAny_fieldsOf ho hd ?_);have hown:Builtin.Dict_items.ownsTuple "dict_valueiterator"=false:=by decide
 rw [hown,if_neg b0];show wpAny _ _ (if (Value.ref d==Value.none)=true then _ else _) _ _ s;rw [if_neg (show ¬((Value.ref d==Value.none)=true) from b0)];refine af (ak (af (wpAny_dictEntries hod rfl ?_)));rw [if_neg (by simp)];refine af (ak (af (wpAny_dictEpoch hod rfl ?_)));rw [if_neg (by simp)];refine ak ?_;dsimp only;rw [if_neg (Int.not_lt.2 (Int.natCast_nonneg i)),Int.toNat_natCast,hx];refine af ?_
 first | refine af (wpAny_typeNameOfWhole_valiter hit.typeIs (ak ?_)) | refine af (wpAny_typeNameOf_valiter hit.typeIs (ak ?_))
 show wpAny _ _ (setField (.ref it) 0 .none >>=_) _ _ s;refine af (wpAny_setField ho hd (by simp) ?_);refine af ?_;dsimp only [newExc,newTuple];refine af (wpAny_newObj_type ?_ (by size_fits));refine af (m:=firstArgMember _ _) (wpAny_of_eq (a:=Value.none) (by first | rfl | (dsimp only [firstArgMember];rfl)) ?_);refine wpAny_newObj_type ?_ (by size_fits);dsimp only [raiseNew];refine af (wpAny_handled ?_);rw [show A.in1.handled=none from hh];refine af (ak (wpAny_throw ?_));refine af (wpAny_isInstance (T:="StopIteration") (b:=true) ⟨_,aQ _ rfl,rfl⟩ isSubtype_stop ?_);refine ak (hQ _ (((bi ..).extBut.push _).push _) ?_);rw [br,br,(bi ..).1];omega
end
section
variable{E:Value→Shared→Prop}{c:V}
theorem y9{l:List (V×V)}{ek:Nat}{I d:Addr}(e₀:σ₀[n]?=some (.dict l ek)) :
  ∃St Mid,kP W false (l.map (·.2)) [n] σ₀ [I] I St Mid∧∀ρ h,h.IsValIter I d 0 l.length ek→ρ[n]?=some (d,d)→cb W ρ h I→St 0 ρ h :=
 ⟨_,_,gp (P:=fun i ρ h=>h.IsValIter I d i l.length ek∧ρ[n]?=some (d,d)) (cl:="dict_valueiterator") (by decide) (by decide)
  (fun st=>let ⟨o,h1,h2,h3⟩:=st.1;⟨o,_,h1,h2,h3⟩)
  (fun st S tk k=>⟨let ⟨o,h1,h2⟩:=st.1;⟨o,k o h1,h2⟩,gM S.pre st.2⟩)
  (fun {A E s ρ σ i v Q} hA ap st R sd hx hQ=>by
   have e:σ[n]?=some (.dict l ek):=by rw [sd n (by simp)];exact e₀
   refine bC (R.dict_at (.obj st.2) e) fun p ad ep hp1 hp2 he hn es ek' e' ho hr hz=>?_;cases he;subst e';rw [List.getElem?_map] at hx;obtain ⟨⟨k,u⟩,hku,rfl⟩:=bR.mp hx;refine iF (hr.at hku) fun aa bb h1 z_ z_ z_ h2=>?_;exact CN (es:=es) (hz▸st.1) ho (by rw [←Array.getElem?_toList];exact h1) fun h' it' sb=>hQ _ h' s.toks h2 sb fun z_=>⟨hz▸it',st.2⟩)
  (fun {A E s ρ σ Q} hA ap st R sd hQ=>by
   have e:σ[n]?=some (.dict l ek):=by rw [sd n (by simp)];exact e₀
   refine bC (R.dict_at (.obj st.2) e) fun p ad ep hp1 hp2 he hn es ek' e' ho hr hz=>?_;cases he;subst e';exact EB (es:=es) hA (hz▸st.1) ho (Array.getElem?_eq_none (by rw [hz,aJ];exact ax _)) fun h' eb hz=>hQ h' s.toks eb hz)
  (fun {A E s ρ i Q} st hq=>qd st.1 hq),
 fun ρ h h1 h2 h3=>⟨⟨h1,h2⟩,h3⟩⟩
end
noncomputable def qK(W:Wd)(b₀:Nat)(ρ:Rho)(σ:Hp)(s:Shared)(own':Bool)(xs:List V)(ns:List Nat)(xv:Value):Prop :=
 ∀(A:Around) (E:Value→Shared→Prop) (Q:Value→Shared→Prop),A.handled=none→
  (∀I s' own St Mid,bp gF ρ s ρ s'→bJ W s'.heap ρ σ→kP W own' xs ns σ own I St Mid→St 0 ρ s'.heap→(∀a∈own,b₀≤a)→Q (.ref I) s')→wpAny (model W.prog W.w) A (pyIter xv) Q E s
noncomputable def CZ(W:Wd)(ρ:Rho)(s:Shared)(own':Bool)(Q:List V→List Nat→Hp→Prop)(xv:Value)(s':Shared):Prop :=
 ∃ρ' σ' xs ns,bp gF ρ s ρ' s'∧bJ W s'.heap ρ' σ'∧Q xs ns σ'∧qK W s.heap.objs.size ρ' σ' s' own' xs ns xv
section
variable{P:gB}{k:Nat}{c:V}
theorem cy(ob:Obj)(b:Addr)(o:Obj)(e:h.get? b=some o):(h.push ob).get? b=some o:=aA _ e
theorem dA(ob:Obj):h.objs.size≤(h.push ob).objs.size:=by rw [br];exact Nat.le_succ _
theorem ig{ob:Obj}(R:bJ W s.heap ρ σ):cb W ρ (s.heap.push ob) s.heap.objs.size:=cb.new R (ax _) (by rw [br];exact bY _)
theorem pX{m:Nat}(h:n≤m):∀b∈[m],n≤b:=fun b hb=>aq.mp hb▸h
theorem oU{ad:Addr}(ep:ρ[n]?=some p)(h1:p.1=ad)(h2:p.2=ad):ρ[n]?=some (ad,ad):=ep.trans (congrArg some (Prod.ext h1 h2))
set_option tactic.hygienic true in
theorem qf{p:List V×List Nat}{b₀:Nat}(hs:sysModules<W.h₀.objs.size)(R:bJ W s.heap ρ σ)(hb:b₀≤s.heap.objs.size)(ra:aK W s.heap ρ a x)(h:dm .over [a] σ=some p):qK W b₀ ρ σ s false p.1 p.2 x:=by
 refine we (M:=fun a p=>aK W s.heap ρ a x→qK W b₀ ρ σ s false p.1 p.2 x) h (fun l ra A E Q hA hQ=>?_) (fun n l e ra A E Q hA hQ=>?_) (fun n l ekk e ra A E Q hA hQ=>?_) ra
 ·have ra':=ra;refine cp ra.E fun ad o items ek q ho hc hd hx hr=>?_;subst q;refine cY (wh (W:=W) (xs:=l) (σ₀:=σ) (I:=s.heap.objs.size) (t:=ad)) fun St Mid it hst=>?_;exact wpAny_pyIter_tuple ⟨o,ho,hc,ek,hd⟩ (hQ _ _ [s.heap.objs.size] St Mid (cR (t:=s.toks) (cy _) (dA _)) (R.keep (cy _) (dA _)) it (hst _ _ ⟨_,aQ _ rfl,rfl,rfl⟩ (ra'.mono (fun b o e z_ z_=>cy _ b o e) (aB _)) (ig R)) (pX hb))
 ·refine bt (R.list_at ra e) fun p ad ep hp1 hp2 w items ek ho hr hzz=>?_;subst w;refine cY (y8 (W:=W) (I:=s.heap.objs.size) (l:=ad) e) fun St Mid it hst=>?_;exact wpAny_pyIter_list ⟨_,ho,rfl,ek,rfl⟩ (hQ _ _ [s.heap.objs.size] St Mid (cR (t:=s.toks) (cy _) (dA _)) (R.keep (cy _) (dA _)) it (hst _ _ ⟨_,aQ _ rfl,rfl,rfl⟩ (oU ep hp1 hp2) (ig R)) (pX hb))
 ·refine bC (R.dict_at ra e) fun p ad ep hp1 hp2 y hn es ek ekq ho hr hzz=>?_;subst y;subst ekq;refine cY (y6 (W:=W) (I:=s.heap.objs.size) (d:=ad) e) fun St Mid it hst=>?_;exact uV (beq_eq_false_iff_ne.mpr (bN (al hs hn))) ho (hQ _ _ [s.heap.objs.size] St Mid (cR (t:=s.toks) (cy _) (dA _)) (R.keep (cy _) (dA _)) it (hst _ _ ⟨_,aQ _ rfl,rfl,by rw [hzz];rfl⟩ (oU ep hp1 hp2) (ig R)) (pX hb))
theorem sW{l:List (V×V)}{ek:Nat}{d v:Addr}{b₀:Nat}(R:bJ W s.heap ρ σ)(hb:b₀≤s.heap.objs.size)(e:σ[n]?=some (.dict l ek))(ep:ρ[n]?=some (d,d))(hv:s.heap.IsValuesView v d):qK W b₀ ρ σ s false (l.map (·.2)) [n] (.ref v):=by
 intro A E Q hA hQ;refine bC (R.dict_at (.obj ep) e) fun p ad ep' hp1 hp2 he hn es ek' ekq ho hr hzz=>?_;cases he;subst ekq;refine cY (y9 (W:=W) (I:=s.heap.objs.size) (d:=d) e) fun St Mid it hst=>?_;exact CO hv ho (hQ _ _ [s.heap.objs.size] St Mid (cR (t:=s.toks) (cy _) (dA _)) (R.keep (cy _) (dA _)) it (hst _ _ ⟨_,aQ _ rfl,rfl,by rw [hzz];rfl⟩ ep (ig R)) (pX hb))
theorem uW{n:Int}{ns:List Nat}{b₀:Nat}{u t v:Tok}{r:Addr}(R:bJ W s.heap ρ σ)(hb:b₀≤s.heap.objs.size)(hr:IsRange s.heap r 0 n 1 u t v)(h:dm .range [.int n] σ=some (xs,ns)):qK W b₀ ρ σ s false xs ns (.ref r):=by
 intro A E Q hA hQ;have h:(if 0≤n∧n<1000000 then some ((List.range n.toNat).map fun (i:Nat)=>V.int (i:Int),[]) else none)=some (xs,ns):=h
 split at h
 ·rename_i hn
  cases h;have e1:Builtin.Range.rangeSize 0 n 1=((n.toNat:Nat):Int):=by
   delta Builtin.Range.rangeSize;rw [if_pos (by decide)];refine Or.elim (Classical.em ((0:Int)<n)) (fun h0=>?_) (fun h0=>?_)
   ·rw [if_pos h0,Int.sub_zero,Int.ediv_one,Int.sub_add_cancel];exact (Int.toNat_of_nonneg (Int.le_of_lt h0)).symm
   ·rw [if_neg h0,Int.le_antisymm (Int.not_lt.mp h0) hn.1];rfl
  have hsm:Builtin.Range.small 0 n 1=true:=by
   delta Builtin.Range.small;rw [e1];dsimp only [Builtin.Range.rangeFitsLong,Bool.and_eq_true,Bool.or_eq_true,decide_eq_true_eq,beq_iff_eq];have h1:(1:Int)>0:=by decide
   skip;simp;exact FP hn
  refine cY (wg (W:=W) (m:=n.toNat) (σ₀:=σ) (I:=s.heap.objs.size)) fun St Mid it hst=>?_;exact wpAny_pyIter_range hr hsm (hQ _ _ [s.heap.objs.size] St Mid (cR (t:=s.toks) (cy _) (dA _)) (R.keep (cy _) (dA _)) it (hst _ _ (by rw [e1];exact aQ _ rfl) (ig R)) (pX hb))
 ·exact ca h
end
section
variable{P:gB}{k:Nat}{c:V}
set_option tactic.hygienic true in
theorem AQ{Q2:List V→List Nat→Hp→Prop}{ρ₁:Rho}{s₁:Shared}{p:List V×List Nat}(R:bJ W s₁.heap ρ₁ σ)(ra:aK W s₁.heap ρ₁ a x)(h:dm .enum [a] σ=some p)(hq:Q2 p.1 p.2 σ)(S:bp gF ρ s ρ₁ s₁) :
  wpAny (model W.prog W.w) A (call (.type "enumerate") [x]) (CZ W ρ s true Q2) Er s₁:=by
 have fin:∀(h':Heap) (e it:Addr) {xs ys:List V} {ns:List Nat} {N:Nat→Rho→Heap→Prop} (hxs:xs=ys.zipIdx.map fun p=>.tup [.int p.2,p.1]),(∀b o,s₁.heap.get? b=some o→h'.get? b=some o)→h'.objs.size=s₁.heap.objs.size+2→e=s₁.heap.objs.size+1→it=s₁.heap.objs.size→IsEnum h' e it 0 .none→
   xz W ys ns σ e it N→N 0 ρ₁ h'→Q2 xs ns σ→CZ W ρ s true Q2 (.ref e) {s₁ with heap:=h'}:=fun h' e it xs ys ns N hxs kk eK he hi hE I hN hq=>by
  have hz:s₁.heap.objs.size≤h'.objs.size:=by rw [eK];exact aW _ _
  refine ⟨ρ₁,σ,xs,ns,S.trans (cR (t:=s₁.toks) kk hz),R.keep kk hz,hq,fun A E Q hA hQ=>?_⟩;subst hxs;refine cY (y7 I (by rw [he,hi];exact Nat.succ_ne_self _)) fun St Mid it' hst=>?_;refine wpAny_pyIter_enum hE (hQ _ _ [e,it] St Mid (bp.refl ..) (R.keep kk hz) it' (hst _ _ hE hN ?_ ?_) ?_)
  ·exact cb.new R (by rw [he];exact Nat.le_succ _) (by rw [he,eK];exact bY _)
  ·exact cb.new R (by rw [hi];exact ax _) (by rw [hi,eK];exact Nat.lt_add_of_pos_right (by decide))
  ·intro a ha;have:=S.size;simp only [List.mem_cons,an,or_false] at ha;rcases ha with rfl | rfl
   ·rw [he];exact bD this
   ·rw [hi];exact this
 refine wc (M:=fun a p=>aK W s₁.heap ρ₁ a x→Q2 p.1 p.2 σ→wpAny (model W.prog W.w) A (call (.type "enumerate") [x]) (CZ W ρ s true Q2) Er s₁) h (fun l ra hq=>?_) (fun n l e ra hq=>?_) ra hq
 ·have ra':=ra;refine cp ra.E fun ad o items ek q ho hc hd hx hr=>?_;subst q;exact oy ⟨o,ho,hc,ek,hd⟩ fun h' hE hI eK kk=>fin h' _ _ rfl kk eK rfl rfl hE uo ⟨hI,ra'.mono (fun b o e z_ z_=>kk b o e) (aB _)⟩ hq
 ·refine bt (R.list_at ra e) fun p ad ep hp1 hp2 y items ek ho hr hzz=>?_;subst y;exact call_enumerate_list ⟨_,ho,rfl,ek,rfl⟩ fun h' hE hI eK kk=>fin h' _ _ rfl kk eK rfl rfl hE (v7 e) ⟨hI,oU ep hp1 hp2⟩ hq
noncomputable def D0:nc→Bool | .enum=>true | .zip=>true | _=>false
theorem n7{it:Expr}{as:List Expr}{M:Expr→List Expr→Prop}(h:cV nm .values it=some as)(k:∀o apos pos,ga o=true→(apos.endLine==pos.line)=true→M (.Call (.Attribute o (Str.ofString "values") apos) [] [] pos) [o]):M it as:=by
 refine fZ (M:=fun e=>M e as) h ca fun g args kw pos h=>cI (M:=fun g=>M (.Call g args kw pos) as) h ca fun o n apos h=>bE (M:=fun e=>M (.Call _ e kw pos) as) h ca fun h=>bE (M:=fun e=>M (.Call _ _ e pos) as) h ca fun h=>?_;refine Or.elim (Classical.em ((n==Str.ofString "values"&&ga o&&(apos.endLine==pos.line))=true)) (fun hc=>?_) (fun hc=>?_)
 ·cases (if_pos hc).symm.trans h;have h1:=aG hc;have h2:=aG h1.1;cases eq_of_beq h2.1;exact k o apos pos h2.2 h1.2
 ·cases (if_neg hc).symm.trans h
set_option tactic.hygienic true in
theorem Ej{kk:nc}{it x':Expr}{Q1:K1}{Q2:List V→List Nat→Hp→Prop}(X:eB W P fa mg mb C k A)(hn:env.scope.names=nm)(R:bJ W s.heap ρ σ)(O:bv W env loc ρ s.heap)(hit:cV nm kk it=some [x'])(hst:starEach [x'] env=[(false,eval x' env)])(hk:kk=.over∨kk=.range∨kk=.enum∨kk=.values)
  (h:∀{Er},wpAny (model W.prog W.w) A (eval x' env) (ci W ρ s Q1) Er s) (hq:∀v σ',Q1 v σ'→dh (dm kk [v] σ') fun p=>Q2 p.1 p.2 σ') :
  wpAny (model W.prog W.w) A (eval it env) (CZ W ρ s (D0 kk) Q2) Er s:=by
 have one:∀(pos:Pos) (T:String) (Qf:Value→Shared→Prop),(∀ρ₁ σ₁ a v s₁,bp gF ρ s ρ₁ s₁→bJ W s₁.heap ρ₁ σ₁→aK W s₁.heap ρ₁ a v→Q1 a σ₁→wpAny (model W.prog W.w) A (call (.type T) [v]) Qf Er s₁)→
   wpAny (model W.prog W.w) A (callWith pos (.type T) [] (backTo pos (starEach [x'] env)) []) Qf Er s:=fun pos T Qf g=>by
  rw [hst];refine PySem.callWith_type (by rfl) (Calls.evalArgs_plain ?_);refine Calls.spliced_cons (aH h (fun v s₁ q=>cK q fun ρ₁ σ₁ a S R₁ ra hQ=>?_) fun z_ z_ e=>e);exact ak (g ρ₁ σ₁ a v s₁ S R₁ ra hQ)
 rcases hk with rfl | rfl | rfl | rfl
 ·cases hit;refine aH h (fun v s₁ x=>cK x fun ρ₁ σ₁ a S R₁ ra hQ=>?_) fun z_ z_ e=>e;exact bZ (hq _ _ hQ) fun p hi hQ2=>⟨ρ₁,σ₁,p.1,p.2,S,R₁,hQ2,qf X.ok.wok.sys R₁ S.size ra hi⟩
 ·refine fU (M:=fun it=>wpAny _ _ (eval it env) _ _ _) hit fun id p pos hid hg=>?_;refine wpAny_Call_NameR (km X O R hn hg hid rfl (one pos "range" _ fun ρ₁ σ₁ a v s₁ S R₁ ra hQ=>?_));refine bZ (hq _ _ hQ) fun p hi hQ2=>uv (M:=fun a=>aK W s₁.heap ρ₁ a v→_) hi (fun n hi ra=>?_) ra;refine xe ra.E fun t y=>?_;subst y;refine call_range_1 ?_;have S2:=S.trans (cR (s:=s₁) (ρ:=ρ₁) (t:=s₁.toks+1+1) (cy {cls:=.type "range",data:=.fields #[.int 0 s₁.toks,.int n t,.int 1 (s₁.toks+1)]}) (dA _));exact ⟨ρ₁,σ₁,p.1,p.2,S2,R₁.keep (cy _) (dA _),hQ2,uW (R₁.keep (cy _) (dA _)) S2.size (aQ _ rfl) hi⟩
 ·refine fU (M:=fun it=>wpAny _ _ (eval it env) _ _ _) hit fun id p pos hid hg=>?_;refine wpAny_Call_NameR (km X O R hn hg hid rfl (one pos "enumerate" _ fun ρ₁ σ₁ a v s₁ S R₁ ra hQ=>?_));exact bZ (hq _ _ hQ) fun p hi hQ2=>AQ R₁ ra hi hQ2 S
 ·generalize hx:[x']=as at hit;refine n7 (M:=fun it as=>[x']=as→wpAny _ _ (eval it env) _ _ _) hit (fun o apos pos h1 h2 he=>?_) hx;cases he;refine nJ h1 h2 (by decide) rfl (aH h (fun v s₁ z pl=>cK z fun ρ₁ σ₁ a S R₁ ra hQ=>?_) fun z_ z_ e=>e);refine bZ (hq _ _ hQ) fun p hi hQ2=>sr (M:=fun a p=>aK W s₁.heap ρ₁ a v→Q2 p.1 p.2 σ₁→_) hi (fun n l ek e ra hQ2=>?_) ra hQ2;refine bC (R₁.dict_at ra e) fun p ad ep hp1 hp2 u hn' es ek' ekq ho hr hzz=>?_;subst u;have q1:(ad==sysModules)=false:=beq_eq_false_iff_ne.mpr (bN (al X.ok.wok.sys hn'));refine getMethod_builtin (T:="dict") ⟨_,ho,rfl⟩ F.plainAttrs_dict F.slot_dict_values F.type_dict_values (fun b hb=>by cases hb;exact ⟨_,ho,rfl⟩) ?_;refine Calls.callWith_builtin (by rfl) (jl (by rfl) ?_);refine ak (CP q1 ho ?_);have S2:=S.trans (cR (s:=s₁) (ρ:=ρ₁) (t:=s₁.toks) (cy {cls:=.type "dict_values",data:=.fields #[.ref ad]}) (dA _));exact ⟨ρ₁,σ₁,_,_,S2,R₁.keep (cy _) (dA _),hQ2,sW (R₁.keep (cy _) (dA _)) S2.size e (oU ep hp1 hp2) ⟨_,aQ _ rfl,rfl,rfl⟩⟩
end
section
variable{P:gB}{k:Nat}{c:V}
structure dB(W:Wd)(env:Env)(D:Addr)(loc:Loc)(ρ:Rho)(σ:Hp)(s:Shared)(acc:List V):Prop where
 rep:bJ W s.heap ρ σ
 eok:bv W env loc ρ s.heap
 apart:cb W ρ s.heap D
 ne:¬dC env D
 obj:∃items ep,s.heap.get? D=some ⟨.type "list",none,.seq items ep,#[]⟩∧aZ W s.heap ρ acc items.toList
theorem dB.step{X:Addr→Prop}{D:Addr}{acc:List V}{σ':Hp}(H:dB W env D loc ρ σ s acc)(S:bp X ρ s ρ' s')(tk:bg W s.heap s'.heap)(R':bJ W s'.heap ρ' σ')(hX:∀a,X a→a≠D∧¬dC env a):dB W env D loc ρ' σ' s' acc where
 rep:=R'
 eok:=H.eok.step S tk fun a ha hx=>(hX a hx).2 ha
 apart:=H.apart.step S
 ne:=H.ne
 obj:=by
  refine cY H.obj fun items ep h1 h2=>?_;exact ⟨items,ep,S.keep _ _ h1 (fun hx=>(hX _ hx).1 rfl) H.apart.2.2,h2.mono tk S.pre⟩
theorem dB.app{D:Addr}{acc:List V}{Q:Value→Shared→Prop}(H:dB W env D loc ρ σ s acc)(ra:aK W s.heap ρ a x)(hz:acc.length<big)
  (h:∀s',bp (fun z=>z=D) ρ s ρ s'→bg W s.heap s'.heap→dB W env D loc ρ σ s' (acc++[a])→Q .none s'):wpAny (model W.prog W.w) A (call (.builtin "list.append") [.ref D,x]) Q Er s:=by
 refine cY H.obj fun items ep h1 h2=>?_;have eK:items.size=acc.length:=by rw [←bu,h2.length]
 refine call_meets F.slot_list_append ⟨_,h1,rfl⟩ F.entry_list_append (F.args_list_append_2 _ _) (PySem.list_append D items ep _ (by rw [eK];exact gJ hz)) ⟨h1,?_⟩;have sb:Heap.SameBut D s.heap (s.heap.update D (Obj.mapSeq fun l=>l.push x)):=bi ..;refine xa (H.rep.own (O:=fun z=>z=D) (h':=s.heap.update D (Obj.mapSeq fun l=>l.push x)) (fun z e=>e▸H.apart) (fun z o e g=>by subst e;rw [h1] at g;cases g;simp) (fun b o hb e=>(sb.2 b hb).trans e) (by rw [sb.1];exact ax _)) fun tk R'=>?_;have S:bp (fun z=>z=D) ρ s ρ {s with heap:=s.heap.update D (Obj.mapSeq fun l=>l.push x),toks:=s.toks}:=bp.priv (X:=fun z=>z=D) (fun b o hb e=>(sb.2 b hb).trans e) (by rw [sb.1];exact ax _);refine h _ S tk ⟨R',H.eok.step S tk fun z hz e=>H.ne (e▸hz),H.apart.step S,H.ne,?_⟩;refine xe (Obj.data_mapSeq (o:=⟨.type "list",none,.seq items ep,#[]⟩) rfl fun l=>l.push x) fun q hq=>?_;have fr:(Obj.mapSeq (fun l=>l.push x) ⟨.type "list",none,.seq items ep,#[]⟩).isFreed=false:=Obj.isFreed_of_seq hq;refine ⟨_,q,?_,by rw [Array.toList_push];exact (h2.mono tk (aB _)).append (.cons (ra.mono tk (aB _)) .nil)⟩;rw [Heap.get?_update_self _ h1 fr];dsimp only [Obj.mapSeq] at hq ⊢
 simpa using hq
theorem Ay{D:Addr}(R:bJ W h ρ σ)(ap:cb W ρ h D)(r:il W h (ρ++[(D,D)]) (D,D) o):bJ W h (ρ++[(D,D)]) (σ++[o]) where
 len:=by simp [R.len]
 ob n o' p e ep:=by
  refine Or.elim (cD n σ.length) (fun hn=>?_) (fun hn=>?_)
  ·rw [au hn] at e;rw [au (by rw [R.len];exact hn)] at ep;exact (R.ob n o' p e ep).mono (bg.refl _ _) (cj ..) (fun z_ e=>e) (fun z_ e=>e)
  ·have:n=σ.length:=by
    have:=(aE.mp e).1;simp at this;omega
   subst this;rw [aL (ax _)] at e;rw [aL (by rw [R.len];exact ax _),R.len] at ep;simp at e ep;subst e ep;exact r
 apart m n p q hmn ep eq:=by
  have newp:∀(m:Nat) (p:Addr×Addr),¬m<ρ.length→(ρ++[(D,D)])[m]?=some p→m=ρ.length∧p=(D,D):=fun m p hm e=>by
   have l:=(aE.mp e).1;simp at l;have:m=ρ.length:=by omega
   subst this;rw [aL (ax _)] at e;simp at e;exact ⟨rfl,e.symm⟩
  by_cases hm:m<ρ.length<;>rcases Classical.em (n<ρ.length) with hn | hn
  ·rw [au hm] at ep;rw [au hn] at eq;exact R.apart m n p q hmn ep eq
  ·refine xa (newp n q hn eq) fun z_ w=>?_;subst w;rw [au hm] at ep;have:=ap.2.2 m p ep;exact ⟨this.1,this.1,this.2,this.2⟩
  ·refine xa (newp m p hm ep) fun z_ x=>?_;subst x;rw [au hn] at eq;have:=ap.2.2 n q eq;exact ⟨this.1.symm,this.2.symm,this.1.symm,this.2.symm⟩
  ·exact absurd ((newp m p hm ep).1.trans (newp n q hn eq).1.symm) hmn
 new n p ep:=by
  refine Or.elim (cD n ρ.length) (fun hn=>?_) (fun hn=>?_)
  ·rw [au hn] at ep;exact R.new n p ep
  ·have l:=(aE.mp ep).1;simp at l;have:n=ρ.length:=by omega
   subst this;rw [aL (ax _)] at ep;simp at ep;subst ep;exact ⟨ap.1,ap.1⟩
 size:=R.size
 top:=R.top
 priv:=R.priv
theorem lQ{D:Addr}(S:bp X ρ s ρ' s')(hD:s.heap.objs.size≤D):bp X ρ s (ρ'++[(D,D)]) s' where
 pre:=S.pre.trans (cj ..)
 fresh n p hn e:=by
  refine Or.elim (cD n ρ'.length) (fun h=>?_) (fun h=>?_)
  ·rw [au h] at e;exact S.fresh n p hn e
  ·rw [aL h] at e;have:n-ρ'.length=0:=by
    have:=(aE.mp e).1;simp at this;omega
   rw [this] at e;simp at e;subst e;exact ⟨hD,hD⟩
 keep a o e hx hp:=S.keep a o e hx hp
 same:=S.same
 size:=S.size
end
noncomputable abbrev iE(ifs:List Expr)(env:Env):Sem Bool:=forIn ifs true fun c r=>if r=true then do let ok ←isTrue c env (eval c env);pure (ForInStep.yield ok) else pure (ForInStep.yield r)
section
variable{P:gB}{k:Nat}{c:V}
theorem oz{elt t1 i1 target iter:Expr}{ifs:List Expr}{scope:Scope}{it acc:Value}:compTurn (.ListComp elt [⟨t1,i1,[],0⟩,⟨target,iter,ifs,0⟩] scope pos) 1 it acc env=(do
  standAt iter.pos
  match ←pyNext it with
  | none=>pure (.done .next)
  | some v =>
    letOwnedTupleGo target it v
    assign target env v
    let mut ok:=true
    for c in ifs do
     if ok then ok ←isTrue c env (eval c env)
    if ok then
     (do let _ ←call (.builtin "list.append") [acc,←eval elt env])
    again (.compLoop (.ListComp elt [⟨t1,i1,[],0⟩,⟨target,iter,ifs,0⟩] scope pos) 1 it acc env)):=by rfl
theorem pj{elt target iter t2 i2:Expr}{ifs:List Expr}{scope:Scope}{it acc:Value}:compTurn (.ListComp elt [⟨target,iter,[],0⟩,⟨t2,i2,ifs,0⟩] scope pos) 0 it acc env=(do
  standAt iter.pos
  match ←pyNext it with
  | none=>pure (.done .next)
  | some v =>
    letOwnedTupleGo target it v
    assign target env v
    let x ←eval i2 env
    standAt i2.pos
    let x ←foldedSetIterable i2 env x
    let _ ←runOwn (.compStart (.ListComp elt [⟨target,iter,[],0⟩,⟨t2,i2,ifs,0⟩] scope pos) 1 (←holding [x] (pyIter x)) acc env) env
    again (.compLoop (.ListComp elt [⟨target,iter,[],0⟩,⟨t2,i2,ifs,0⟩] scope pos) 0 it acc env)):=by rfl
theorem uI{elt t1 i1 target iter:Expr}{ifs:List Expr}{scope:Scope}{it acc:Value}{R:Result→Shared→Prop}(I:Nat→Shared→Prop)
  (turn:∀n s,I n s→wpAny (model W.prog W.w) A (pyNext it) (fun r s₁=>match r with
   | none=>R (.ok .next) s₁
   | some v=>wpAny (model W.prog W.w) A (assign target env v) (fun z_ s₂ =>
     wpAny (model W.prog W.w) A (iE ifs env) (fun ok s₃ =>
      if ok=true then wpAny (model W.prog W.w) A (eval elt env) (fun x s₄ =>
       wpAny (model W.prog W.w) A (call (.builtin "list.append") [acc,x]) (fun z_ s₅=>∃m,m<n∧I m s₅) (notedBy (model W.prog W.w) A env fun e s'=>R (.error e) s') s₄) (notedBy (model W.prog W.w) A env fun e s'=>R (.error e) s') s₃
      else ∃m,m<n∧I m s₃) (notedBy (model W.prog W.w) A env fun e s'=>R (.error e) s') s₂) (notedBy (model W.prog W.w) A env fun e s'=>R (.error e) s') s₁) (notedBy (model W.prog W.w) A env fun e s'=>R (.error e) s') s)
  (n:Nat) (h:I n s) (ht:∀v,letOwnedTupleGo target it v=pure ():=by intro _;rfl) :
  codeAny (model W.prog W.w) A (.compLoop (.ListComp elt [⟨t1,i1,[],0⟩,⟨target,iter,ifs,0⟩] scope pos) 1 it acc env) R s:=by
 refine codeAny_loop rfl I (fun n s hI=>?_) n h;show wpAny _ A ((compTurn (.ListComp elt [⟨t1,i1,[],0⟩,⟨target,iter,ifs,0⟩] scope pos) 1 it acc env).onRaise (fun x=>do noteFrame x env;theTreesLotGoes x)) _ _ s;refine wpAny_noted ?_;rw [oz];refine af (wpAny_standAt (af (aH (turn n s hI) (fun r s₁ h₁=>?_) fun z_ z_ h'=>h')))
 cases r with
 | none=>exact ak h₁
 | some v =>
  refine af (wpAny_of_eq (ht v) ?_);refine af (aH h₁ (fun z_ s₂ h₂=>af (aH h₂ (fun ok s₃ h₃=>?_) fun z_ z_ h'=>h')) fun z_ z_ h'=>h')
  cases ok with
  | false=>exact ak ⟨rfl,h₃⟩
  | true =>
   exact af (af (aH h₃ (fun x s₄ h₄=>af (aH h₄ (fun z_ s₅ h₅=>ak (ak ⟨rfl,h₅⟩)) fun z_ z_ h'=>h')) fun z_ z_ h'=>h'))
theorem wA{elt target iter t2 i2:Expr}{ifs:List Expr}{scope:Scope}{it acc:Value}{R:Result→Shared→Prop}(I:Nat→Shared→Prop)(hs:∀x,foldedSetIterable i2 env x=pure x)
  (turn:∀n s,I n s→wpAny (model W.prog W.w) A (pyNext it) (fun r s₁=>match r with
   | none=>R (.ok .next) s₁
   | some v=>wpAny (model W.prog W.w) A (assign target env v) (fun z_ s₂ =>
     wpAny (model W.prog W.w) A (eval i2 env) (fun x s₃=>wpAny (model W.prog W.w) A (pyIter x) (fun it2 s₄ =>
      codeAny (model W.prog W.w) A (.compStart (.ListComp elt [⟨target,iter,[],0⟩,⟨t2,i2,ifs,0⟩] scope pos) 1 it2 acc env) (fun r s₅=>(∃f,r=.ok f)∧∃m,m<n∧I m s₅) s₄)
      (notedBy (model W.prog W.w) A env fun e s'=>R (.error e) s') s₃) (notedBy (model W.prog W.w) A env fun e s'=>R (.error e) s') s₂) (notedBy (model W.prog W.w) A env fun e s'=>R (.error e) s') s₁) (notedBy (model W.prog W.w) A env fun e s'=>R (.error e) s') s)
  (n:Nat) (h:I n s) (ht:∀v,letOwnedTupleGo target it v=pure ():=by intro _;rfl) :
  codeAny (model W.prog W.w) A (.compLoop (.ListComp elt [⟨target,iter,[],0⟩,⟨t2,i2,ifs,0⟩] scope pos) 0 it acc env) R s:=by
 refine codeAny_loop rfl I (fun n s hI=>?_) n h;show wpAny _ A ((compTurn (.ListComp elt [⟨target,iter,[],0⟩,⟨t2,i2,ifs,0⟩] scope pos) 0 it acc env).onRaise (fun x=>do noteFrame x env;theTreesLotGoes x)) _ _ s;refine wpAny_noted ?_;rw [pj];refine af (wpAny_standAt (af (aH (turn n s hI) (fun r s₁ h₁=>?_) fun z_ z_ h'=>h')))
 cases r with
 | none=>exact ak h₁
 | some v =>
  refine af (wpAny_of_eq (ht v) ?_);refine af (aH h₁ (fun z_ s₂ h₂=>af (aH h₂ (fun x s₃ h₃=>af (wpAny_standAt (af (wpAny_of_eq (hs x) ?_)))) fun z_ z_ h'=>h')) fun z_ z_ h'=>h');refine af (a9 (aH h₃ (fun it2 s₄ h₄=>?_) fun z_ z_ h'=>h'));refine af (wpAny_runOwn (h:=none) ?_);refine codeAny_mono (R:=fun r s₅=>(∃f,r=.ok f)∧∃m,m<n∧I m s₅) ?_ fun r s₅ q=>xa q fun y hm=>xe y fun f e=>?_
  ·have:A.mark none=A:=by obtain ⟨hd,d,fr,gs,u⟩:=A;rfl
   rw [this];exact h₄
  ·subst e;exact ak ⟨rfl,hm⟩
end
theorem rQ{M:Model}{m:Sem α}{Q':α→Shared→Prop}{E E':Value→Shared→Prop}{P':Prop}{Q:Unit→Shared→Prop}(h:wpAny M A (pure ()) Q E s)(hq:Q () s→P')(g:P'→wpAny M A m Q' E' s):wpAny M A m Q' E' s :=
 fun Γ p hΓ=>g (hq (h Γ p hΓ)) Γ p hΓ
noncomputable abbrev mV(C:Hd)(elt:E)(ifs:List E):Nat→Loc→Hp→(List V→Hp→Prop)→Prop:=eW (iK C ifs) (ev C elt)
section
variable{P:gB}{k:Nat}{c:V}
theorem kP.kept{owned:Bool}{ns:List Nat}{own:List Addr}{I:Addr}{St:Nat→Rho→Heap→Prop}(It:kP W owned xs ns σ₀ own I St Mid)(st:St i ρ s.heap)(S:bp X ρ s ρ' s')(tk:bg W s.heap s'.heap)(hX:∀a∈own,¬X a):St i ρ' s'.heap :=
 It.mono st S tk fun a ha o e=>S.keep a o e (hX a ha) (It.apart st a ha).1.2.2
theorem dB.store{D:Addr}{acc:List V}{x:String}{u:Value}{P':Unit→Shared→Prop}(H:dB W env D loc ρ σ s acc)(ru:aK W s.heap ρ v u)(hk:env.kindOf (Str.ofString x)=some .local)
  (h:∀s',bp (fun a=>a=env.locals) ρ s ρ s'→bg W s.heap s'.heap→dB W env D (setL loc x v) ρ σ s' acc→P' () s'):wpAny (model W.prog W.w) A (storeName env (Str.ofString x) u) P' Er s :=
 H.eok.storeL H.rep ru hk fun s' S tk R' O'=>h s' S tk ⟨R',O',H.apart.step S,H.ne,by
  refine cY H.obj fun items ep h1 h2=>?_;exact ⟨items,ep,S.keep _ _ h1 (fun hx=>H.ne (.inl hx)) H.apart.2.2,h2.mono tk (aB _)⟩⟩
theorem dB.weaken{D:Addr}{acc:List V}{loc':Loc}(H:dB W env D loc ρ σ s acc)(h:∀y v,loc' y=some v→loc y=some v):dB W env D loc' ρ σ s acc :=
 ⟨H.rep,H.eok.weaken h,H.apart,H.ne,H.obj⟩
noncomputable abbrev XX(env:Env)(D:Addr)(own:List Addr):Addr→Prop:=fun a=>a=D∨a=env.locals∨a∈own
noncomputable def rR(W:Wd)(env:Env)(D:Addr)(L:Loc)(own:List Addr)(St:Nat→Rho→Heap→Prop)(xs:List V)(gd:Hp→Prop)(x:String)(turn:Nat→Loc→Hp→(List V→Hp→Prop)→Prop)(acc0:List V)(Q:List V→Hp→Prop)(ρ₀:Rho)(s₀:Shared)(n:Nat)(s':Shared):Prop :=
 ∃ρ' σ' acc i,i≤xs.length∧n=xs.length-i∧bp (XX env D own) ρ₀ s₀ ρ' s'∧bg W s₀.heap s'.heap∧dB W env D L ρ' σ' s' (acc0++acc)∧St i ρ' s'.heap∧dL gd (.name x) L turn acc0.length (xs.drop i) acc σ' Q
noncomputable def CV(W:Wd)(env:Env)(D:Addr)(L:Loc)(own:List Addr)(acc0:List V)(Q:List V→Hp→Prop)(ρ₀:Rho)(s₀:Shared)(s':Shared):Prop :=
 ∃ρ' σ' acc,bp (XX env D own) ρ₀ s₀ ρ' s'∧bg W s₀.heap s'.heap∧dB W env D L ρ' σ' s' (acc0++acc)∧Q acc σ'
variable{D I:Addr}{L:Loc}{own:List Addr}{ns:List Nat}{St:Nat→Rho→Heap→Prop}{xn:String}{p:Pos}{acc0:List V}{Qc:List V→Hp→Prop}{ρ₀:Rho}{s₀:Shared}
theorem rN{turn:Nat→Loc→Hp→(List V→Hp→Prop)→Prop}(It:kP W false xs ns σ₀ own I St Mid)(hown:∀a∈own,a≠D∧¬dC env a)(hx:env.kindOf (Str.ofString xn)=some .local)(hh:A.handled=none)
  {n:Nat} (h:rR W env D L own St xs (bV ns σ₀) xn turn acc0 Qc ρ₀ s₀ n s)
  {Rn:Shared→Prop} {Rs:Shared→Prop} (h0:∀s₁,CV W env D L own acc0 Qc ρ₀ s₀ s₁→Rn s₁)
  (h1:∀ρ₁ s₁ σ₁ acc i v,n=xs.length-i→i<xs.length→bp (XX env D own) ρ₀ s₀ ρ₁ s₁→bg W s₀.heap s₁.heap→dB W env D (setL L xn v) ρ₁ σ₁ s₁ (acc0++acc)→St (i+1) ρ₁ s₁.heap→
   (turn (acc0.length+acc.length) (setL L xn v) σ₁ fun ys σ=>acc0.length+acc.length+ys.length<big∧dL (bV ns σ₀) (.name xn) L turn acc0.length (xs.drop (i+1)) (acc++ys) σ Qc)→Rs s₁) :
  wpAny (model W.prog W.w) A (pyNext (.ref I)) (fun r s₁=>match r with
   | none=>Rn s₁
   | some v=>wpAny (model W.prog W.w) A (assign (.Name (Str.ofString xn) p) env v) (fun z_ s₂=>Rs s₂) Er s₁) Er s:=by
 refine ox h fun ρ₁ σ₁ acc i hi hn S tk H st hw=>?_;have zJ:∀a∈own,¬(a=env.locals):=fun a ha e=>(hown a ha).2 (.inl e);refine Or.elim (cD i xs.length) (fun hlt=>?_) (fun hge=>?_)
 ·rw [List.drop_eq_getElem_cons hlt] at hw;refine xa hw fun sd hw=>?_;refine It.item hh st H.rep sd (aC hlt) fun u s₁ S1 tk1 R1 ru mid=>?_;have H1:dB W env D L ρ₁ σ₁ s₁ (acc0++acc):=H.step S1 tk1 R1 fun a ha=>hown a ha;have gg:=It.go (A:=A) (E:=fun z_ z_=>True) (target:=.Name (Str.ofString xn) p) (Q:=fun z_ s'=>s'=s₁→St (i+1) ρ₁ s₁.heap) (fun e=>by exact bF e) mid R1 fun s' z_ z_ z_ st' e=>e▸st';refine rQ gg (fun e=>e rfl) fun st1=>?_;refine wpAny_assign_Name (H1.store ru hx fun s₂ S2 tk2 H2=>?_);refine h1 ρ₁ s₂ σ₁ acc i _ hn hlt ((S.trans (S1.weaken fun a ha=>.inr (.inr ha))).trans (S2.weaken fun a ha=>.inr (.inl ha))) ((tk.trans tk1).trans tk2) H2 (It.kept st1 S2 tk2 zJ) hw
 ·have hi':i=xs.length:=Nat.le_antisymm hi hge;subst hi';rw [List.drop_length] at hw;refine It.done hh st H.rep hw.1 fun s₁ S1 tk1 R1=>?_;exact h0 s₁ ⟨ρ₁,σ₁,acc,S.trans (S1.weaken fun a ha=>.inr (.inr ha)),tk.trans tk1,H.step S1 tk1 R1 fun a ha=>hown a ha,hw.2⟩
theorem q6{elt:E}{ifs:List E}{elt':Expr}{ifs':List Expr}(It:kP W false xs ns σ₀ own I St Mid)(hown:∀a∈own,a≠D∧¬dC env a)(hx:env.kindOf (Str.ofString xn)=some .local)(hL:L xn=none)(hh:A.handled=none)
  (hts:∀{ρ σ s loc' Q Er},bv W env loc' ρ s.heap→bJ W s.heap ρ σ→iK C ifs loc' σ Q→wpAny (model W.prog W.w) A (iE ifs' env) (lq W ρ s Q) Er s)
  (helt:∀{ρ σ s loc' Q Er},bv W env loc' ρ s.heap→bJ W s.heap ρ σ→ev C elt loc' σ Q→wpAny (model W.prog W.w) A (eval elt' env) (ci W ρ s Q) Er s)
  {RR:Shared→Prop} (hRR:∀s₁,CV W env D L own acc0 Qc ρ₀ s₀ s₁→RR s₁) (n:Nat) (s:Shared) (h:rR W env D L own St xs (bV ns σ₀) xn (mV C elt ifs) acc0 Qc ρ₀ s₀ n s) :
  wpAny (model W.prog W.w) A (pyNext (.ref I)) (fun r s₁=>match r with
   | none=>RR s₁
   | some v=>wpAny (model W.prog W.w) A (assign (.Name (Str.ofString xn) p) env v) (fun z_ s₂ =>
     wpAny (model W.prog W.w) A (iE ifs' env) (fun ok s₃ =>
      if ok=true then wpAny (model W.prog W.w) A (eval elt' env) (fun x s₄ =>
       wpAny (model W.prog W.w) A (call (.builtin "list.append") [.ref D,x]) (fun z_ s₅=>∃m,m<n∧rR W env D L own St xs (bV ns σ₀) xn (mV C elt ifs) acc0 Qc ρ₀ s₀ m s₅) Er s₄) Er s₃
      else ∃m,m<n∧rR W env D L own St xs (bV ns σ₀) xn (mV C elt ifs) acc0 Qc ρ₀ s₀ m s₃) Er s₂) Er s₁) Er s:=by
 have hid:∀v y w,L y=some w→setL L xn v y=some w:=fun v y w e=>by
  unfold setL;refine Or.elim (Classical.em (y=xn)) (fun q=>?_) (fun q=>?_)
  ·subst q;rw [hL] at e;exact ca e
  ·rw [if_neg q];exact e
 have zJ:∀a∈own,¬(a=D):=fun a ha e=>(hown a ha).1 e;refine rN It hown hx hh h hRR fun ρ₁ s₁ σ₁ acc i v hn hlt S tk H st ht=>?_;refine aH (hts H.eok H.rep ht) (fun ok s₂ z=>cS z fun ρ₂ σ₂ S2 R2 hq=>?_) fun z_ z_ e=>e;have tk2:=S2.tup0 H.rep;have H2:dB W env D (setL L xn v) ρ₂ σ₂ s₂ (acc0++acc):=H.step S2 tk2 R2 fun a ha=>ha.elim;have st2:St (i+1) ρ₂ s₂.heap:=It.kept st S2 tk2 fun z_ z_ e=>e
 cases ok with
 | false =>
  rw [if_neg (by decide)];refine xa hq fun z_ hq=>?_;rw [bn] at hq;exact ⟨xs.length-(i+1),Bz hn hlt,ρ₂,σ₂,acc,i+1,hlt,rfl,S.trans S2.any,tk.trans tk2,H2.weaken (hid v),st2,hq⟩
 | true =>
  rw [if_pos rfl];refine aH (helt H2.eok R2 hq) (fun y s₃ u=>cK u fun ρ₃ σ₃ w S3 R3 rw' hq=>?_) fun z_ z_ e=>e;have tk3:=S3.tup0 R2;have H3:dB W env D (setL L xn v) ρ₃ σ₃ s₃ (acc0++acc):=H2.step S3 tk3 R3 fun a ha=>ha.elim;have st3:St (i+1) ρ₃ s₃.heap:=It.kept st2 S3 tk3 fun z_ z_ e=>e;refine xa hq fun hb hq=>?_;refine H3.app rw' (by rw [aO];dsimp only [List.length_singleton] at hb;exact Nat.lt_of_succ_lt hb) fun s₄ S4 tk4 H4=>?_;refine ⟨xs.length-(i+1),Bz hn hlt,ρ₃,σ₃,acc++[w],i+1,hlt,rfl,((S.trans S2.any).trans S3.any).trans (S4.weaken fun a ha=>.inl ha),((tk.trans tk2).trans tk3).trans tk4,?_,It.kept st3 S4 tk4 zJ,hq⟩;rw [←aR];exact H4.weaken (hid v)
end
noncomputable def fu(env:Env):List (Str×NameKind)→List (Str×Addr)→List (Str×Addr)
 | [],cs=>cs
 | (n,k)::r,cs=>fu env r (if (k==NameKind.free)=true then (match env.cells.lookup n with | some c=>(n,c)::cs | none=>cs) else cs)
theorem lF{env:Env}:∀{names:List (Str×NameKind)} {cs:List (Str×Addr)},(∀n,(n,NameKind.free)∈names→∃c,env.cells.lookup n=some c)→
  (forIn names cs fun x r=>if (x.2==NameKind.free)=true then do let c ←cellOf env x.1;pure (ForInStep.yield ((x.1,c)::r)) else pure (ForInStep.yield r))=(pure (fu env names cs):Sem (List (Str×Addr)))
 | [],cs,_=>rfl
 | (n,k)::r,cs,h=>by
  rw [List.forIn_cons]
  cases hk:(k==NameKind.free) with
  | true =>
   have:k=.free:=by simpa using hk
   subst this;refine xe (h n ai) fun c hc=>?_;have ih:=lF (env:=env) (names:=r) (cs:=(n,c)::cs) fun m hm=>h m (aj _ hm);dsimp only [cellOf,fu];rw [hc];exact ih
  | false =>
   have ih:=lF (env:=env) (names:=r) (cs:=cs) fun m hm=>h m (aj _ hm);dsimp only [fu];rw [hk];exact ih
theorem vS{sc:Scope}(h:∀n,(n,NameKind.free)∈sc.names→∃c,env.cells.lookup n=some c):closureFor sc env=pure (fu env sc.names []):=by
 have:=lF (env:=env) (names:=sc.names) (cs:=[]) h;refine Eq.trans (congrArg (·>>=_) (?_:_=(pure (fu env sc.names []):Sem (List (Str×Addr))))) rfl;exact this
theorem iV{env:Env}:∀{names:List (Str×NameKind)} {cs:List (Str×Addr)},(∀n c,cs.lookup n=some c→env.cells.lookup n=some c)→
  (∀n c,(fu env names cs).lookup n=some c→env.cells.lookup n=some c)∧(∀n,((n,NameKind.free)∈names∨(cs.lookup n).isSome)→∀c,env.cells.lookup n=some c→(fu env names cs).lookup n=some c)
 | [],cs,h=>⟨h,fun n hn c hc=>by
  refine Or.elim hn (fun hn=>?_) (fun hn=>?_)
  ·cases hn
  ·refine xe (Option.isSome_iff_exists.mp hn) fun c' e=>?_;have:=h n c' e;rw [hc] at this;cases this;exact e⟩
 | (m,k)::r,cs,h=>by
  dsimp only [fu]
  cases hk:(k==NameKind.free) with
  | true =>
   have:k=.free:=by simpa using hk
   subst this;rw [if_pos rfl]
   cases hc:env.cells.lookup m with
   | some c =>
    have h':∀n c',((m,c)::cs).lookup n=some c'→env.cells.lookup n=some c':=fun n c' e=>by
     rw [List.lookup_cons] at e
     cases q:n==m with
     | true=>rw [q] at e;cases e;rw [eq_of_beq q];exact hc
     | false=>rw [q] at e;exact h n c' e
    refine xa (iV (env:=env) (names:=r) (cs:=(m,c)::cs) h') fun h1 h2=>?_;refine ⟨h1,fun n hn c' hc'=>h2 n ?_ c' hc'⟩;refine Or.elim hn (fun hn=>?_) (fun hn=>?_)
    ·refine Or.elim (aP.mp hn) (fun e=>?_) (fun hn=>?_)
     ·cases e;right;simp
     ·exact .inl hn
    ·right;rw [List.lookup_cons]
     cases q:n==m with
     | true=>rfl
     | false=>exact hn
   | none =>
    refine xa (iV (env:=env) (names:=r) (cs:=cs) h) fun h1 h2=>?_;refine ⟨h1,fun n hn c' hc'=>h2 n ?_ c' hc'⟩;refine Or.elim hn (fun hn=>?_) (fun hn=>?_)
    ·refine Or.elim (aP.mp hn) (fun e=>?_) (fun hn=>?_)
     ·cases e;rw [hc] at hc';exact ca hc'
     ·exact .inl hn
    ·exact .inr hn
  | false =>
   rw [if_neg (by decide)];refine xa (iV (env:=env) (names:=r) (cs:=cs) h) fun h1 h2=>?_;refine ⟨h1,fun n hn c' hc'=>h2 n ?_ c' hc'⟩;refine Or.elim hn (fun hn=>?_) (fun hn=>?_)
   ·refine Or.elim (aP.mp hn) (fun e=>?_) (fun hn=>?_)
    ·cases e;simp at hk
    ·exact .inl hn
   ·exact .inr hn
theorem mP{nm:Nm}{n:Str}:∀{names:Nm},(dn nm names).lookup n=(names.lookup n).map fun k=>if (k==NameKind.free&&nm.lookup n==some NameKind.cell)=true then NameKind.cell else k
 | []=>rfl
 | (m,k)::r=>by
  have ih:=mP (nm:=nm) (n:=n) (names:=r);unfold dn at ih ⊢;rw [List.map_cons];have e:(if (k==NameKind.free&&nm.lookup m==some NameKind.cell)=true then (m,NameKind.cell) else (m,k))=(m,if (k==NameKind.free&&nm.lookup m==some NameKind.cell)=true then NameKind.cell else k):=by split<;>rfl
  show List.lookup n ((if (k==NameKind.free&&nm.lookup m==some NameKind.cell)=true then (m,NameKind.cell) else (m,k))::_)=_;rw [e,List.lookup_cons,List.lookup_cons]
  cases q:n==m with
  | true=>rw [←eq_of_beq q];rfl
  | false=>exact ih
theorem eQ{sc:Scope}{ns:List String}(h:ee nm sc ns=true):sc.kind=.function∧(∀x∈ns,sc.names.lookup (Str.ofString x)=some .local)∧
  (∀y∈sc.names,y.2≠.cell)∧(∀y∈sc.names,y.2=.local→sc.names.lookup y.1=some .local)∧(∀n,(n,NameKind.local)∈sc.names→(∃x∈ns,n=Str.ofString x)∨n=Str.ofString ".0")∧(∀n,(n,NameKind.free)∈sc.names→nm.lookup n=some .cell):=by
 unfold ee at h;simp only [Bool.and_eq_true,decide_eq_true_eq,List.all_eq_true] at h;refine xa h fun q h3=>?_;refine xa q fun h1 h2=>?_;refine ⟨h1,h2,fun y hy e=>?_,fun y hy e=>?_,fun n hn=>?_,fun n hn=>?_⟩
 ·obtain ⟨n,k⟩:=y;subst e;have:=h3 _ hy;exact bF this
 ·obtain ⟨n,k⟩:=y;subst e;have:=h3 _ hy;simp at this;exact this.1
 ·have:=h3 _ hn;simp only [Bool.and_eq_true,Bool.or_eq_true,List.any_eq_true,beq_iff_eq] at this;exact this.2
 ·have:=h3 _ hn;simpa using this
section
variable{P:gB}{k:Nat}{c:V}
theorem iD{sc:Scope}{cl:List (Str×Addr)}{Ca:Addr}(hn:env.scope.names=nm)(hk:env.scope.kind=.function):(compEnvC sc cl Ca env).scope.names=dn nm sc.names:=by
 refine List.map_congr_left fun y hy=>?_;obtain ⟨n,k⟩:=y;show (if (k==NameKind.free&&env.scope.kind==.function&&env.kindOf n==some .cell)=true then _ else _)=_;rw [hk,show env.kindOf n=nm.lookup n by rw [←hn];rfl];simp
theorem mem_of_lookup{n:Str}{k:NameKind}:∀{l:Nm},l.lookup n=some k→(n,k)∈l
 | [],h=>by exact ca h
 | (m,k')::r,h=>by
  rw [List.lookup_cons] at h
  cases q:n==m with
  | true=>rw [q] at h;cases h;rw [eq_of_beq q];exact ai
  | false=>rw [q] at h;exact aj _ (mem_of_lookup h)
theorem bv.comp{sc:Scope}{ns:List String}{Ca:Addr}(O:bv W env loc ρ s.heap)(hn:env.scope.names=nm)(hs:ee nm sc ns=true)(hns:s.heap.Ns Ca fun z_=>none)(ap:cb W ρ s.heap Ca)(hne:¬dC env Ca) :
  bv W (compEnvC sc (fu env sc.names []) Ca env) (cw ns loc) ρ s.heap:=by
 refine CS (eQ hs) fun h1 h2 h3 h4 h5 h6=>?_;have nmk:∀n,env.kindOf n=nm.lookup n:=fun n=>by rw [←hn];rfl
 have kk:∀n,(compEnvC sc (fu env sc.names []) Ca env).kindOf n=(sc.names.lookup n).map fun k=>if (k==NameKind.free&&nm.lookup n==some NameKind.cell)=true then NameKind.cell else k:=fun n=>by
  show (compEnvC sc (fu env sc.names []) Ca env).scope.names.lookup n=_;rw [iD hn O.kind,mP]
 refine xa (iV (env:=env) (names:=sc.names) (cs:=[]) (fun n c e=>by exact ca e)) fun c1 c2=>?_;have isCell:∀n,(compEnvC sc (fu env sc.names []) Ca env).kindOf n=some .cell→env.kindOf n=some .cell∧(n,NameKind.free)∈sc.names:=fun n e=>by
  rw [kk] at e;refine bG (bR.mp e) fun k hk e=>?_;have mem:=mem_of_lookup hk
  split at e
  ·rename_i hc
   simp only [Bool.and_eq_true,beq_iff_eq] at hc;rw [nmk];refine ⟨hc.2,?_⟩;rw [hc.1] at mem;exact mem
  ·subst e;exact absurd rfl (h3 _ mem)
 have hLo:∀y v,cw ns loc y=some v→loc y=some v:=fun y v e=>by
  unfold cw at e;split at e
  ·exact ca e
  ·exact e
 refine tw (id hns) fun oC esC epC ho hd z_=>?_;have ownc:∀a,dC (compEnvC sc (fu env sc.names []) Ca env) a→a=Ca∨dC env a:=fun a ha=>by
  refine Or.elim ha (fun e=>?_) (fun w=>xe w fun n e=>?_)
  ·exact .inl e
  ·exact .inr (.inr ⟨n,c1 n a e⟩)
 refine ⟨h1,O.glob,O.blt,⟨_,hns,fun y v hv hk=>?_⟩,fun n e=>?_,fun y v hv e=>?_,fun a ha=>?_,fun a ha=>?_,fun n c e q=>?_,fun n n' c e e'=>O.inj n n' c (c1 _ _ e) (c1 _ _ e')⟩
 ·rw [kk] at hk;refine bG (bR.mp hk) fun k hk e=>?_;have mem:=mem_of_lookup hk
  split at e
  ·cases e
  ·subst e;unfold cw at hv;refine Or.elim (h5 _ mem) (fun z=>bG z fun x hx e=>?_) (fun e=>?_)
   ·rw [cO e,if_pos (.inl hx)] at hv;exact ca hv
   ·rw [cO e,if_pos (.inr rfl)] at hv;exact ca hv
 ·refine xa (isCell n e) fun e1 e2=>?_;refine cY (O.cel n e1) fun c v q1 q2=>?_;exact ⟨c,v,c2 n (.inl e2) c q1,q2⟩
 ·refine xa (isCell _ e) fun e1 e2=>?_;refine cS (O.val y v (hLo y v hv) e1) fun c u q1 q2 q3=>?_;exact ⟨c,u,c2 _ (.inl e2) c q1,q2,q3⟩
 ·refine Or.elim (ownc a ha) (fun e=>?_) (fun e=>?_)
  ·exact e▸ap
  ·exact O.apart a e
 ·refine Or.elim (ownc a ha) (fun e=>?_) (fun e=>?_)
  ·subst e;exact ⟨oC,ho,fun t=>xp t fun z_ z_ r=>xe r fun z_ q=>by rw [hd] at q;cases q⟩
  ·exact O.alive a e
 ·subst q;exact hne (.inr ⟨n,c1 n _ e⟩)
noncomputable def tG(W:Wd)(ρ:Rho)(s:Shared)(Q:K1)(acc:Value)(Ca:Addr)(s':Shared):Prop :=
 ∃ρ' σ' a,bp gF ρ s ρ' s'∧bJ W s'.heap ρ' σ'∧aK W s'.heap ρ' a acc∧Q a σ'∧(∃m,s'.heap.Ns Ca m)∧cb W ρ' s'.heap Ca∧s.heap.objs.size≤Ca
theorem pk{e:Expr}{sc:Scope}{ns:List String}{it:Expr}{Q2:List V→List Nat→Hp→Prop}{RRR:Value→Addr→Result→Shared→Prop}(O:bv W env loc ρ s.heap)(R:bJ W s.heap ρ σ)(hn:env.scope.names=nm)(hs:ee nm sc ns=true)(hh:A.handled=none)
  (hsrc:wpAny (model W.prog W.w) A (eval it env) (CZ W ρ s false Q2) Er s)
  (h:∀I own St Mid ρ₁ σ₁ xs ms s₁ D Ca,bp gF ρ s ρ₁ s₁→dB W (compEnvC sc (fu env sc.names []) Ca env) D (cw ns loc) ρ₁ σ₁ s₁ []→kP W false xs ms σ₁ own I St Mid→St 0 ρ₁ s₁.heap→
   (∀a∈own,a≠D∧¬dC (compEnvC sc (fu env sc.names []) Ca env) a)→(∀a,XX (compEnvC sc (fu env sc.names []) Ca env) D own a→s.heap.objs.size≤a)→Q2 xs ms σ₁→
   codeAny (model W.prog W.w) A (.compStart e 0 (.ref I) (.ref D) (compEnvC sc (fu env sc.names []) Ca env)) (RRR (.ref D) Ca) s₁) :
  wpAny (model W.prog W.w) A (eval it env) (fun xv s₁=>wpAny (model W.prog W.w) A (pyIter xv) (fun it s₂=>wpAny (model W.prog W.w) A (newList []) (fun acc s₃ =>
   wpAny (model W.prog W.w) A (newFunctionEnv sc env.globals (fu env sc.names []) [] env.qual none .none (some env)) (fun cenv s₄ =>
    codeAny (model W.prog W.w) A (.compStart e 0 it acc {cenv with scope:=relabel sc env}) (RRR acc cenv.locals) s₄) Er s₃) Er s₂) Er s₁) Er s:=by
 refine CS (eQ hs) fun h1 h2 h3 h4 h5 h6=>?_;refine aH hsrc (fun xv s₁ x=>m9 x fun ρ₁ σ₁ xs ms S1 R1 hq rdy=>?_) fun z_ z_ e=>e;refine rdy A Er _ hh fun I s₂ own St Mid S2 R2 It st ho=>?_;refine wpAny_newObj_type (wpAny_newFunctionEnv h3 (by intro y hy;simp at hy) (fun h₁ hns₁ hsb₁=>?_) h1);dsimp only at hns₁ hsb₁ ⊢;generalize hH2:s₂.heap.push {cls:=.type "list",dict:=none,data:=.seq ([]:List Value).toArray}=H2 at hns₁ hsb₁ ⊢;have hC:H2.objs.size=s₂.heap.objs.size+1:=by rw [←hH2,br]
 have eK:h₁.objs.size=s₂.heap.objs.size+2:=by rw [hsb₁.1,br,hC]
 have hCD:¬(s₂.heap.objs.size=H2.objs.size):=by rw [hC];exact aN (bY _)
 have kk:∀b o,s₂.heap.get? b=some o→h₁.get? b=some o:=fun b o e =>
  hsb₁.extBut b o (by rw [hC];exact aN (Nat.lt_succ_of_lt (bo e))) (aA _ (hH2▸aA _ e))
 have hz:s₂.heap.objs.size≤h₁.objs.size:=by rw [eK];exact aW _ _
 have hD:h₁.get? s₂.heap.objs.size=some ⟨.type "list",none,.seq #[] 0,#[]⟩:=hsb₁.extBut _ _ hCD (aA _ (hH2▸aQ _ rfl));have S3:bp gF ρ₁ s₂ ρ₁ {s₂ with heap:=h₁,toks:=s₂.toks+([]:List (Str×Value)).length}:=cR kk hz;have R3:bJ W h₁ ρ₁ σ₁:=R2.keep kk hz;have tk3:bg W s₂.heap h₁:=fun b o e z_ z_=>kk b o e;have SS:bp gF ρ s ρ₁ {s₂ with heap:=h₁,toks:=s₂.toks+([]:List (Str×Value)).length}:=(S1.trans S2).trans S3;have O3:bv W env loc ρ₁ h₁:=O.step0 R SS;have apD:cb W ρ₁ h₁ s₂.heap.objs.size:=cb.new R2 (ax _) (by rw [eK];exact Nat.lt_add_of_pos_right (by decide));have apC:cb W ρ₁ h₁ H2.objs.size:=cb.new R2 (by rw [hC];exact Nat.le_succ _) (by rw [eK,hC];exact bY _);have s2:s.heap.objs.size≤s₂.heap.objs.size:=am S1.size S2.size;have old:∀a,dC env a→a<s.heap.objs.size:=fun a ha=>(O.apart a ha).2.1;have neE:∀a,s.heap.objs.size≤a→¬dC env a:=fun a ha q=>absurd (old a q) (bS.mpr ha);have hCs:s.heap.objs.size≤H2.objs.size:=by rw [hC];exact bD s2
 have O4:=bv.comp (s:={s₂ with heap:=h₁}) O3 hn hs (by simpa using hns₁) apC (neE _ hCs);have own4:∀a,dC (compEnvC sc (fu env sc.names []) H2.objs.size env) a→a=H2.objs.size∨dC env a:=fun a ha=>by
  refine Or.elim ha (fun e=>?_) (fun z=>xe z fun n e=>?_)
  ·exact .inl e
  ·exact .inr (.inr ⟨n,(iV (env:=env) (names:=sc.names) (cs:=[]) (fun n c e=>by exact ca e)).1 n a e⟩)
 have ownlt:∀a∈own,a<s₂.heap.objs.size:=fun a ha=>(It.apart st a ha).1.2.1;refine h I own St Mid ρ₁ σ₁ xs ms _ s₂.heap.objs.size H2.objs.size SS ⟨R3,O4,apD,fun q=>?_,⟨_,_,hD,.nil⟩⟩ It (It.kept st S3 tk3 fun z_ z_ e=>e) (fun a ha=>⟨aN (ownlt a ha),fun q=>?_⟩) (fun a ha=>?_) hq
 ·refine Or.elim (own4 _ q) (fun e=>?_) (fun e=>?_)
  ·exact hCD e
  ·exact neE _ s2 e
 ·refine Or.elim (own4 _ q) (fun e=>?_) (fun e=>?_)
  ·have:=ownlt a ha;rw [e,hC] at this;exact absurd this (bS.mpr (Nat.le_succ _))
  ·exact neE _ (ho a ha) e
 ·refine Or.elim ha (fun e=>?_) (fun u=>Or.elim u (fun e=>?_) (fun e=>?_))
  ·rw [e];exact s2
  ·rw [e];exact hCs
  ·exact ho a e
theorem tZ{D Ca:Addr}{sc:Scope}{cl:List (Str×Addr)}{own:List Addr}{L:Loc}{ρ₁:Rho}{s₁:Shared}(S:bp gF ρ s ρ₁ s₁)(hX:∀a,XX (compEnvC sc cl Ca env) D own a→s.heap.objs.size≤a)
  (h:CV W (compEnvC sc cl Ca env) D L own [] (fun acc σ=>Q (.obj σ.length) (σ++[.list acc])) ρ₁ s₁ s'):tG W ρ s Q (.ref D) Ca s':=by
 refine cK h fun ρ' σ' acc S' tk H hq=>?_;rw [List.nil_append] at H;refine cY H.obj fun items ep ho hr=>?_;have S2:bp gF ρ s ρ' s':=(S.any.trans S').drop fun a ha=>.inr (hX a ha);refine bG H.eok.ns fun m hm z_=>?_;have apC:=H.eok.apart Ca (.inl rfl);have neq:¬D=Ca:=fun e=>H.ne (.inl e);have rO:il W s'.heap (ρ'++[(D,D)]) (D,D) (.list acc):=⟨rfl,items,ep,ho,hr.mono (bg.refl _ _) (cj ..)⟩
 refine ⟨ρ'++[(D,D)],σ'++[.list acc],.obj σ'.length,lQ S2 (hX D (.inl rfl)),Ay H.rep H.apart rO,.obj (d:=D) ?_,hq,⟨m,hm⟩,⟨apC.1,apC.2.1,fun n p e=>?_⟩,hX Ca (.inr (.inl rfl))⟩
 ·rw [←H.rep.len,aL (ax _)];simp
 ·refine Or.elim (cD n ρ'.length) (fun hl=>?_) (fun hl=>?_)
  ·rw [au hl] at e;exact apC.2.2 n p e
  ·rw [aL hl] at e;have:n-ρ'.length=0:=by have:=(aE.mp e).1;simp at this;omega
   rw [this] at e;simp at e;subst e;exact ⟨neq,neq⟩
end
section
variable{P:gB}{k:Nat}{c:V}
theorem iH{elt g0 target iter:Expr}{i0:Expr}{ifs:List Expr}{scope:Scope}{it acc:Value}{R:Result→Shared→Prop}
  (h0:codeAny (model W.prog W.w) A (.compLoop (.ListComp elt [⟨g0,i0,[],0⟩,⟨target,iter,ifs,0⟩] scope pos) 1 it acc env) R s)
  (h:wpAny (model W.prog W.w) A (pyIter it) (fun it' s'=>codeAny (model W.prog W.w) A (.compLoop (.ListComp elt [⟨g0,i0,[],0⟩,⟨target,iter,ifs,0⟩] scope pos) 1 it' acc env) R s')
   (notedBy (model W.prog W.w) A env fun x s'=>R (.error x) s') s) :
  codeAny (model W.prog W.w) A (.compStart (.ListComp elt [⟨g0,i0,[],0⟩,⟨target,iter,ifs,0⟩] scope pos) 1 it acc env) R s:=by
 refine codeAny_of_tree ?_;refine wpAny_notedAt ?_;refine af (wpAny_askSetting (wpAny_ite ?_))
 split
 ·first
   | exact af (ak (ak (And.intro rfl h0)))
   | exact ak (And.intro rfl h0)
 ·first
   | exact af (wpAny_rule (af (wpAny_standAt (af (aH h (fun it' s' h'=>ak (And.intro rfl h')) fun z_ z_ x=>x)))))
   | (refine af (wpAny_rule ?_);show wpAny _ _ (standAt iter.pos >>=_) _ _ s;exact af (wpAny_standAt (af (aH h (fun it' s' h'=>ak (And.intro rfl h')) fun z_ z_ x=>x))))
theorem yE{elt:E}{ifs:List E}{elt' it:Expr}{ifs':List Expr}{xn:String}{p:Pos}{sc:Scope}{RRR:Value→Addr→Result→Shared→Prop}(O:bv W env loc ρ s.heap)(R:bJ W s.heap ρ σ)(hn:env.scope.names=nm)(hs:ee nm sc [xn]=true)(hh:A.handled=none)
  (hsrc:wpAny (model W.prog W.w) A (eval it env) (CZ W ρ s false fun xs ms σ=>dL (bV ms σ) (.name xn) (cw [xn] loc) (mV C elt ifs) 0 xs [] σ (hV Q)) Er s)
  (hts:∀{env ρ σ s loc' Q Er},env.scope.names=dn nm sc.names→bv W env loc' ρ s.heap→bJ W s.heap ρ σ→iK C ifs loc' σ Q→wpAny (model W.prog W.w) A (iE ifs' env) (lq W ρ s Q) Er s)
  (helt:∀{env ρ σ s loc' Q Er},env.scope.names=dn nm sc.names→bv W env loc' ρ s.heap→bJ W s.heap ρ σ→ev C elt loc' σ Q→wpAny (model W.prog W.w) A (eval elt' env) (ci W ρ s Q) Er s)
  (hR:∀acc Ca s',tG W ρ s Q acc Ca s'→RRR acc Ca (.ok .next) s') :
  wpAny (model W.prog W.w) A (eval it env) (fun xv s₁=>wpAny (model W.prog W.w) A (pyIter xv) (fun it₂ s₂=>wpAny (model W.prog W.w) A (newList []) (fun acc s₃ =>
   wpAny (model W.prog W.w) A (newFunctionEnv sc env.globals (fu env sc.names []) [] env.qual none .none (some env)) (fun cenv s₄ =>
    codeAny (model W.prog W.w) A (.compStart (.ListComp elt' [⟨.Name (Str.ofString xn) p,it,ifs',0⟩] sc pos) 0 it₂ acc {cenv with scope:=relabel sc env}) (RRR acc cenv.locals) s₄) Er s₃) Er s₂) Er s₁) Er s:=by
 refine pk O R hn hs hh hsrc fun I own St Mid ρ₁ σ₁ xs ms s₁ D Ca S H It st hown hX hq=>?_;have hk:(compEnvC sc (fu env sc.names []) Ca env).kindOf (Str.ofString xn)=some .local:=lookup_relabel_local ((eQ hs).2.1 xn ai);have hL:cw [xn] loc xn=none:=if_pos (.inl ai);have loop:codeAny (model W.prog W.w) A (.compLoop (.ListComp elt' [⟨.Name (Str.ofString xn) p,it,ifs',0⟩] sc pos) 0 (.ref I) (.ref D) (compEnvC sc (fu env sc.names []) Ca env)) (RRR (.ref D) Ca) s₁:=by
  refine codeAny_compLoop_tests (rR W (compEnvC sc (fu env sc.names []) Ca env) D (cw [xn] loc) own St xs (bV ms σ₁) xn (mV C elt ifs) [] (hV Q) ρ₁ s₁)
   (fun n s₂ hI=>q6 It hown hk hL hh (fun O' R' h'=>hts (iD hn O.kind) O' R' h') (fun O' R' h'=>helt (iD hn O.kind) O' R' h') (fun s₃ he=>hR _ _ _ (tZ S hX he)) n s₂ hI) xs.length
   ⟨ρ₁,σ₁,[],0,aS _,rfl,bp.refl ..,bg.refl _ _,H,st,hq⟩
 exact codeAny_compStart_list loop (It.self st loop)
noncomputable abbrev ot(C:Hd)(l':List E)(k':nc)(xn':String)(elt:E)(ifs:List E):Nat→Loc→Hp→(List V→Hp→Prop)→Prop:=su k' (.name xn') (pz C l') (mV C elt ifs)
theorem yG{elt:E}{ifs l':List E}{k':nc}{elt' it it2:Expr}{ifs':List Expr}{xn xn':String}{p p':Pos}{sc:Scope}{RRR:Value→Addr→Result→Shared→Prop}(O:bv W env loc ρ s.heap)(R:bJ W s.heap ρ σ)(hn:env.scope.names=nm)(hs:ee nm sc [xn,xn']=true)(hne:xn≠xn')(hh:A.handled=none)
  (hsrc:wpAny (model W.prog W.w) A (eval it env) (CZ W ρ s false fun xs ms σ=>dL (bV ms σ) (.name xn) (cw [xn,xn'] loc) (ot C l' k' xn' elt ifs) 0 xs [] σ (hV Q)) Er s)
  (hs2:∀env x,foldedSetIterable it2 env x=pure x)
  (hsrc2:∀{env ρ σ s loc' Q2 Er},env.scope.names=dn nm sc.names→bv W env loc' ρ s.heap→bJ W s.heap ρ σ→(pz C l' loc' σ fun vs' σ=>dh (dm k' vs' σ) fun q=>Q2 q.1 q.2 σ)→wpAny (model W.prog W.w) A (eval it2 env) (CZ W ρ s false Q2) Er s)
  (hts:∀{env ρ σ s loc' Q Er},env.scope.names=dn nm sc.names→bv W env loc' ρ s.heap→bJ W s.heap ρ σ→iK C ifs loc' σ Q→wpAny (model W.prog W.w) A (iE ifs' env) (lq W ρ s Q) Er s)
  (helt:∀{env ρ σ s loc' Q Er},env.scope.names=dn nm sc.names→bv W env loc' ρ s.heap→bJ W s.heap ρ σ→ev C elt loc' σ Q→wpAny (model W.prog W.w) A (eval elt' env) (ci W ρ s Q) Er s)
  (hR:∀acc Ca s',tG W ρ s Q acc Ca s'→RRR acc Ca (.ok .next) s') :
  wpAny (model W.prog W.w) A (eval it env) (fun xv s₁=>wpAny (model W.prog W.w) A (pyIter xv) (fun it₂ s₂=>wpAny (model W.prog W.w) A (newList []) (fun acc s₃ =>
   wpAny (model W.prog W.w) A (newFunctionEnv sc env.globals (fu env sc.names []) [] env.qual none .none (some env)) (fun cenv s₄ =>
    codeAny (model W.prog W.w) A (.compStart (.ListComp elt' [⟨.Name (Str.ofString xn) p,it,[],0⟩,⟨.Name (Str.ofString xn') p',it2,ifs',0⟩] sc pos) 0 it₂ acc {cenv with scope:=relabel sc env}) (RRR acc cenv.locals) s₄) Er s₃) Er s₂) Er s₁) Er s:=by
 refine pk O R hn hs hh hsrc fun I own St Mid ρ₁ σ₁ xs ms s₁ D Ca S H It st hown hX hq=>?_;have hk:(compEnvC sc (fu env sc.names []) Ca env).kindOf (Str.ofString xn)=some .local:=lookup_relabel_local ((eQ hs).2.1 xn ai);have hk':(compEnvC sc (fu env sc.names []) Ca env).kindOf (Str.ofString xn')=some .local:=lookup_relabel_local ((eQ hs).2.1 xn' (by simp));have hL:cw [xn,xn'] loc xn=none:=if_pos (.inl ai);have hL':cw [xn,xn'] loc xn'=none:=if_pos (.inl (by simp));have hnn:=iD (cl:=fu env sc.names []) (sc:=sc) (Ca:=Ca) hn O.kind;generalize hce:compEnvC sc (fu env sc.names []) Ca env=cenv at *;have loop:codeAny (model W.prog W.w) A (.compLoop (.ListComp elt' [⟨.Name (Str.ofString xn) p,it,[],0⟩,⟨.Name (Str.ofString xn') p',it2,ifs',0⟩] sc pos) 0 (.ref I) (.ref D) cenv) (RRR (.ref D) Ca) s₁:=by
  refine wA (rR W cenv D (cw [xn,xn'] loc) own St xs (bV ms σ₁) xn (ot C l' k' xn' elt ifs) [] (hV Q) ρ₁ s₁) (hs2 _) (fun n s₂ hI=>?_) xs.length
   ⟨ρ₁,σ₁,[],0,aS _,rfl,bp.refl ..,bg.refl _ _,H,st,hq⟩
  refine rN It hown hk hh hI (fun s₃ he=>hR _ _ _ (by subst hce;exact tZ S hX he)) fun ρ₃ s₃ σ₃ acc i v hni hlt S3 tk3 H3 st3 ht=>?_;rw [List.nil_append] at H3;rw [List.length_nil,Nat.zero_add] at ht;refine aH (hsrc2 (Q2:=fun ys ms' σ=>dL (bV ms' σ) (.name xn') (setL (cw [xn,xn'] loc) xn v) (mV C elt ifs) acc.length ys [] σ fun ys σ=>acc.length+ys.length<big∧dL (bV ms σ₁) (.name xn) (cw [xn,xn'] loc) (ot C l' k' xn' elt ifs) 0 (xs.drop (i+1)) (acc++ys) σ (hV Q)) hnn H3.eok H3.rep ht) (fun xv s₄ z=>m9 z fun ρ₄ σ₄ ys ms4 S4 R4 hq4 rdy=>?_) fun z_ z_ e=>e;refine rdy A _ _ hh fun I5 s₅ own5 St5 Mid5 S5 R5 It5 st5 ho5=>?_;have S35:bp gF ρ₃ s₃ ρ₄ s₅:=S4.trans S5;have tk35:=S35.tup0 H3.rep;have H5:dB W cenv D (setL (cw [xn,xn'] loc) xn v) ρ₄ σ₄ s₅ acc:=H3.step S35 tk35 R5 fun a ha=>ha.elim;have stO:St (i+1) ρ₄ s₅.heap:=It.kept st3 S35 tk35 fun z_ z_ e=>e;have Gw:∀a,s₃.heap.objs.size≤a→¬dC cenv a:=fun a ha q=>absurd (H3.eok.apart a q).2.1 (bS.mpr ha);have hown5:∀a∈own5,a≠D∧¬dC cenv a:=fun a ha=>⟨fun e=>absurd (e▸H3.apart.2.1:(a:Nat)<s₃.heap.objs.size) (bS.mpr (ho5 a ha)),Gw a (ho5 a ha)⟩
  have hLx:setL (cw [xn,xn'] loc) xn v xn'=none:=by unfold setL;rw [if_neg (aU hne)];exact hL'
  have fin:∀(r:Result) s₆,(∃f,r=Except.ok f∧CV W cenv D (setL (cw [xn,xn'] loc) xn v) own5 acc (fun ys σ=>acc.length+ys.length<big∧dL (bV ms σ₁) (.name xn) (cw [xn,xn'] loc) (ot C l' k' xn' elt ifs) 0 (xs.drop (i+1)) (acc++ys) σ (hV Q)) ρ₄ s₅ s₆)→
    (∃f,r=Except.ok f)∧∃m,m<n∧rR W cenv D (cw [xn,xn'] loc) own St xs (bV ms σ₁) xn (ot C l' k' xn' elt ifs) [] (hV Q) ρ₁ s₁ m s₆:=fun r s₆ u=>bG u fun f hr t=>eu t fun ρ₆ σ₆ ys' S6 tk6 H6 hb hq6=>by
   refine ⟨⟨f,hr⟩,xs.length-(i+1),Bz hni hlt,ρ₆,σ₆,acc++ys',i+1,hlt,rfl,S3.trans ((S35.any.trans S6).drop fun a ha=>?_),(tk3.trans tk35).trans tk6,?_,It.kept stO S6 tk6 fun a ha q=>?_,hq6⟩
   ·refine Or.elim ha (fun e=>?_) (fun k=>Or.elim k (fun e=>?_) (fun e=>?_))
    ·exact .inl (.inl e)
    ·exact .inl (.inr (.inl e))
    ·exact .inr (ho5 a e)
   ·rw [List.nil_append];exact H6.weaken fun y w e=>by
     unfold setL;by_cases q:y=xn
     ·subst q;rw [hL] at e;cases e
     ·rw [if_neg q];exact e
   ·refine Or.elim q (fun e=>?_) (fun j=>Or.elim j (fun e=>?_) (fun e=>?_))
    ·exact (hown a ha).1 e
    ·exact (hown a ha).2 (.inl e)
    ·exact absurd (It.apart st3 a ha).1.2.1 (bS.mpr (ho5 a e))
  have loop2:codeAny (model W.prog W.w) A (.compLoop (.ListComp elt' [⟨.Name (Str.ofString xn) p,it,[],0⟩,⟨.Name (Str.ofString xn') p',it2,ifs',0⟩] sc pos) 1 (.ref I5) (.ref D) cenv)
    (fun r s₆=>(∃f,r=Except.ok f)∧∃m,m<n∧rR W cenv D (cw [xn,xn'] loc) own St xs (bV ms σ₁) xn (ot C l' k' xn' elt ifs) [] (hV Q) ρ₁ s₁ m s₆) s₅:=by
   refine uI (rR W cenv D (setL (cw [xn,xn'] loc) xn v) own5 St5 ys (bV ms4 σ₄) xn' (mV C elt ifs) acc (fun ys σ=>acc.length+ys.length<big∧dL (bV ms σ₁) (.name xn) (cw [xn,xn'] loc) (ot C l' k' xn' elt ifs) 0 (xs.drop (i+1)) (acc++ys) σ (hV Q)) ρ₄ s₅)
    (fun n6 s₆ hI6=>q6 It5 hown5 hk' hLx hh (fun O' R' h'=>hts hnn O' R' h') (fun O' R' h'=>helt hnn O' R' h') (fun s₇ he=>fin _ _ ⟨_,rfl,he⟩) n6 s₆ hI6) ys.length
    ⟨ρ₄,σ₄,[],0,aS _,rfl,bp.refl ..,bg.refl _ _,by rw [bn];exact H5,st5,hq4⟩
  exact iH loop2 (It5.self st5 loop2)
 exact codeAny_compStart_list loop (It.self st loop)
end
noncomputable abbrev cg(W:Wd)(P:gB)(C:Hd)(A:Around)(e:E):Prop:=∀{x:Expr} {nm:Nm} {env:Env} {loc:Loc} {ρ:Rho} {σ:Hp} {s:Shared} {Q:K1} {Er:Value→Shared→Prop},
 cn P nm e x=true→env.scope.names=nm→bv W env loc ρ s.heap→bJ W s.heap ρ σ→ev C e loc σ Q→wpAny (model W.prog W.w) A (eval x env) (ci W ρ s Q) Er s
noncomputable abbrev gS(W:Wd)(P:gB)(C:Hd)(A:Around)(l:List E):Prop:=∀{xs:List Expr} {pos:Pos} {nm:Nm} {env:Env} {loc:Loc} {ρ:Rho} {σ:Hp} {s:Shared} {Q:List V→Hp→Prop} {Er:Value→Shared→Prop},
 cL P nm l xs=true→env.scope.names=nm→bv W env loc ρ s.heap→bJ W s.heap ρ σ→pz C l loc σ Q→wpAny (model W.prog W.w) A (spliced (backTo pos (starEach xs env))) (fun vs s'=>vs.length=xs.length∧oX W ρ s Q vs s') Er s
inductive nV(W:Wd)(h:Heap)(ρ:Rho):List (V×V)→List (Value×Value)→Prop
 | nil:nV W h ρ [] []
 | cons {a b:V} {x y:Value} {l:List (V×V)} {r:List (Value×Value)}:aK W h ρ a x→aK W h ρ b y→nV W h ρ l r→nV W h ρ ((a,b)::l) ((x,y)::r)
theorem nV.mono{W:Wd}{h h':Heap}{ρ ρ':Rho}(k:bg W h h')(p:ρ <+:ρ'){l:List (V×V)}{r:List (Value×Value)}(x:nV W h ρ l r):nV W h' ρ' l r:=by
 induction x with
 | nil=>exact .nil
 | cons a b _ ih=>exact .cons (a.mono k p) (b.mono k p) ih
noncomputable abbrev Fn(W:Wd)(ρ:Rho)(s:Shared)(Q:List (V×V)→Hp→Prop)(vs:List (Value×Value))(s':Shared):Prop :=
 ∃ρ' σ' l,bp gF ρ s ρ' s'∧bJ W s'.heap ρ' σ'∧nV W s'.heap ρ' l vs∧Q l σ'
noncomputable abbrev tJ(W:Wd)(P:gB)(C:Hd)(A:Around)(l:List (E×E)):Prop:=∀{ks:List (Option Expr)} {vs:List Expr} {pos:Pos} {nm:Nm} {env:Env} {loc:Loc} {ρ:Rho} {σ:Hp} {s:Shared} {Q:List (V×V)→Hp→Prop} {Er:Value→Shared→Prop},
 qU P nm l ks vs=true→env.scope.names=nm→bv W env loc ρ s.heap→bJ W s.heap ρ σ→FG C l loc σ Q→wpAny (model W.prog W.w) A (evalPairs (pairTrees ks vs env pos)) (Fn W ρ s Q) Er s
noncomputable abbrev iG(W:Wd)(P:gB)(C:Hd)(A:Around)(e:E):Prop:=∀{x:Expr} {nm:Nm} {env:Env} {loc:Loc} {ρ:Rho} {σ:Hp} {s:Shared} {Q:Bool→Hp→Prop} {Er:Value→Shared→Prop},
 cn P nm e x=true→env.scope.names=nm→bv W env loc ρ s.heap→bJ W s.heap ρ σ→tF C e loc σ Q→wpAny (model W.prog W.w) A (isTrue x env (eval x env)) (lq W ρ s Q) Er s
noncomputable abbrev lW(W:Wd)(P:gB)(C:Hd)(A:Around)(l:List E):Prop:=∀{xs:List Expr} {nm:Nm} {env:Env} {loc:Loc} {ρ:Rho} {σ:Hp} {s:Shared} {Q:Bool→Hp→Prop} {Er:Value→Shared→Prop},
 cL P nm l xs=true→env.scope.names=nm→bv W env loc ρ s.heap→bJ W s.heap ρ σ→iK C l loc σ Q→wpAny (model W.prog W.w) A (allTrue .And xs env) (lq W ρ s Q) Er s∧wpAny (model W.prog W.w) A (iE xs env) (lq W ρ s Q) Er s
noncomputable abbrev tM(W:Wd)(P:gB)(C:Hd)(A:Around)(l:List E):Prop:=∀{xs:List Expr} {nm:Nm} {env:Env} {loc:Loc} {ρ:Rho} {σ:Hp} {s:Shared} {Q:Bool→Hp→Prop} {Er:Value→Shared→Prop},
 cL P nm l xs=true→env.scope.names=nm→bv W env loc ρ s.heap→bJ W s.heap ρ σ→CG C l loc σ Q→wpAny (model W.prog W.w) A (allTrue .Or xs env) (lq W ρ s Q) Er s
noncomputable abbrev nq(W:Wd)(P:gB)(C:Hd)(A:Around)(l:List E):Prop:=∀{xs:List Expr} {pos:Pos} {nm:Nm} {env:Env} {loc:Loc} {ρ:Rho} {σ:Hp} {s:Shared} {Q:K1} {Er:Value→Shared→Prop},
 cL P nm l xs=true→env.scope.names=nm→bv W env loc ρ s.heap→bJ W s.heap ρ σ→AS C l loc σ Q→wpAny (model W.prog W.w) A (boolOp pos .And (evalEach xs env)) (ci W ρ s Q) Er s
noncomputable abbrev qL(W:Wd)(P:gB)(C:Hd)(A:Around)(l:List E):Prop:=∀{xs:List Expr} {pos:Pos} {nm:Nm} {env:Env} {loc:Loc} {ρ:Rho} {σ:Hp} {s:Shared} {Q:K1} {Er:Value→Shared→Prop},
 cL P nm l xs=true→env.scope.names=nm→bv W env loc ρ s.heap→bJ W s.heap ρ σ→FF C l loc σ Q→wpAny (model W.prog W.w) A (boolOp pos .Or (evalEach xs env)) (ci W ρ s Q) Er s
section
variable{P:gB}{k:Nat}{c:V}
theorem zU:cg W P C A (.const v):=fun {x nm env loc ρ σ s Q Er} hc hn O R h=>by
 exact Ib hc R h
theorem yh{y:String}:cg W P C A (.var y):=fun {x nm env loc ρ σ s Q Er} hc hn O R h=>by
 refine dc (M:=fun x=>wpAny _ _ (eval x env) _ _ _) hc ft fun id p hc=>bZ h fun v hv hq=>?_;have h1:=aG hc;have h2:=aG h1.1;cases eq_of_beq h2.1;exact wpAny_Name (O.load hv (i4 hn h2.2) fun a ra=>ci.here R ra hq) (lL h1.2)
theorem Cf(X:eB W P fa mg mb C k A){y:String}:cg W P C A (.glob y v):=fun {x nm env loc ρ σ s Q Er} hc hn O R h=>by
 refine dc (M:=fun x=>wpAny _ _ (eval x env) _ _ _) hc ft fun id p hc=>?_;have h1:=aG hc;have h2:=aG h1.1;cases eq_of_beq h2.1;refine bG ((Option.any_eq_true ..).1 h1.2) fun w e h3=>?_;cases V.same_eq h3;refine bG (X.ok.gl y _ e) fun u hu ru=>?_;exact sD X O R hn h2.2 hu (ci.here R (ru.mono (fun a o e z_ z_=>R.top a o e) List.nil_prefix) h)
theorem uZ(X:eB W P fa mg mb C k A){at':String}(ih:cg W P C A e):cg W P C A (.attr e at'):=fun {x nm env loc ρ σ s Q Er} hc hn O R h=>by
 refine cI (M:=fun x=>wpAny _ _ (eval x env) _ _ _) hc ft fun o n p hc=>?_;have h4:=aG hc;have h3:=aG h4.1;have h2:=aG h3.1;cases eq_of_beq h2.1;rw [arm_eval_Attribute,xC h3.2];refine mj (ih h4.2 hn O R h) fun ρ₁ σ₁ a v s₁ S R₁ ra h=>bZ h fun w hw hq=>?_;refine af (wpAny_standAt (af (a9 (aH (C7 X.ok.wok (pP h2.2) R₁ ra hw hq) (fun r s₂ h₂=>?_) fun z_ z_ e=>e))));exact af (wpAny_letTemporaryGo (ak (h₂.trans S)))
theorem yg(X:eB W P fa mg mb C k A){i:E}(ih:cg W P C A e)(ih':cg W P C A i):cg W P C A (.sub e i):=fun {x nm env loc ρ σ s Q Er} hc hn O R h=>by
 refine dN (M:=fun x=>wpAny _ _ (eval x env) _ _ _) hc ft fun o sl p hc=>?_;have hc:=aG hc;exact El X R (ih hc.1 hn O R h) (fun a ρ' σ' s' hq S R'=>ih' hc.2 hn (O.step0 R S) R' hq) fun a i σ' h=>um h
theorem tu{l r:E}{lx rx:Expr}{Z:V→V→Hp→Prop}(ih:cg W P C A l)(ih':cg W P C A r)(hl:cn P nm l lx=true)(hr:cn P nm r rx=true)(hn:env.scope.names=nm)(O:bv W env loc ρ s.heap)(R:bJ W s.heap ρ σ)
  (h:ev C l loc σ fun v σ=>ev C r loc σ fun w σ=>Z v w σ) {Qf:Value→Value→Shared→Prop} (hq:∀ρ' σ' v w x y s',bp gF ρ s ρ' s'→bJ W s'.heap ρ' σ'→aK W s'.heap ρ' v x→aK W s'.heap ρ' w y→Z v w σ'→Qf x y s') :
  wpAny (model W.prog W.w) A (eval lx env) (fun x s₁=>wpAny (model W.prog W.w) A (eval rx env) (fun y s₂=>Qf x y s₂) Er s₁) Er s :=
 jH (ih hl hn O R h) (fun ρ₁ σ₁ v x s₁ S R₁ z_ rv h₁=>jH (ih' hr hn (O.step0 R S) R₁ h₁) (fun ρ₂ σ₂ w y s₂ S₂ R₂ tk rw' h₂=>hq ρ₂ σ₂ v w x y s₂ (S.trans S₂) R₂ (rv.mono tk S₂.pre) rw' h₂) R₁) R
theorem D9{op:EE}{l r:E}(ih:cg W P C A l)(ih':cg W P C A r):cg W P C A (.bin op l r):=fun {x nm env loc ρ σ s Q Er} hc hn O R h=>by
 refine iA (M:=fun x=>wpAny _ _ (eval x env) _ _ _) hc ft fun lx op' rx p hc=>?_;have h3:=aG hc;have h2:=aG h3.1;cases eq_of_beq h2.1;exact wpAny_BinOp (tu ih ih' h2.2 h3.2 hn O R h fun ρ' σ' v w x y s' S R' rv rw' hz=>aH (Fv R' rv rw' hz) (fun z_ z_ o=>o.trans S) fun z_ z_ e=>e)
theorem Eg(X:eB W P fa mg mb C k A)(ih:cg W P C A e):cg W P C A (.not e):=fun {x nm env loc ρ σ s Q Er} hc hn O R h=>by
 refine eP (M:=fun x=>wpAny _ _ (eval x env) _ _ _) hc ft fun op y p hc=>?_;have hc:=aG hc;cases aF hc.1;refine wpAny_UnaryOp (jH (ih hc.2 hn O R h) (fun ρ₁ σ₁ v x s₁ S R₁ z_ rv h=>bZ h fun b hb hq=>not_value (tq R₁ rv hb fun t=>?_)) R);exact (ci.tok R₁ t (.bool _) hq).trans S
theorem tY{op:CU}{l r:E}{x:Expr}(hc:cn P nm (.cmp op l r) x=true)(k:∀lx op' rx p,op'=q7 op→behindInMarks op' rx=false→cn P nm l lx=true→cn P nm r rx=true→M (.Compare lx [op'] [rx] p)):M x :=
 iJ hc ft fun lx ops rs p hc=>bI (M:=fun x=>M (.Compare lx x rs p)) hc ft fun op' r1 hc=>bE (M:=fun x=>M (.Compare lx (op'::x) rs p)) hc ft fun hc =>
  bI (M:=fun x=>M (.Compare lx [op'] x p)) hc ft fun rx r2 hc=>bE (M:=fun x=>M (.Compare lx [op'] (rx::x) p)) hc ft fun hc =>
  have h3:=aG hc;have h2:=aG h3.1;have h1:=aG h2.1
  k lx op' rx p (eq_of_beq h1.1) (lL h1.2) h2.2 h3.2
theorem Ea(X:eB W P fa mg mb C k A){op:CU}{l r:E}(ih:cg W P C A l)(ih':cg W P C A r):cg W P C A (.cmp op l r):=fun {x nm env loc ρ σ s Q Er} hc hn O R h=>by
 refine tY (M:=fun x=>wpAny _ _ (eval x env) _ _ _) hc fun lx op' rx p e h1 h2 h3=>?_;subst e;exact wpAny_Compare1 (tu ih ih' h2 h3 hn O R h fun ρ' σ' v w x y s' S R' rv rw' h=>bZ h fun r hr hq=>aH (AJ X.ok.wok.sys X.room R' rv rw' hr hq) (fun z_ z_ o=>o.trans S) fun z_ z_ e=>e) h1
theorem ka(X:eB W P fa mg mb C k A){op:CU}{r:Bool}{Q':Value→Shared→Prop}(R:bJ W s.heap ρ σ)(ra:aK W s.heap ρ a x)(rb:aK W s.heap ρ b y)(h:ml op σ a b=some r)
  (hq:∀ρ' s',bp gF ρ s ρ' s'→bJ W s'.heap ρ' σ→Q' (.bool r) s'):wpAny (model W.prog W.w) A (compareOp (q7 op) x y) Q' Er s:=by
 refine aH (AJ (Q:=fun v σ'=>v=.bool r∧σ'=σ) X.ok.wok.sys X.room R ra rb h (by exact ⟨rfl,rfl⟩)) (fun v s' q=>eu q fun ρ' σ' a S R' ra e1 e2=>?_) fun z_ z_ e=>e;subst e1 e2;cases ra;exact hq ρ' s' S R'
theorem qT{a b c:E}{x:Expr}(hc:cn P nm (.chain a b c) x=true)(k:∀lx mx rx p,behindInMarks .Lt rx=false→cn P nm a lx=true→cn P nm b mx=true→cn P nm c rx=true→M (.Compare lx [.LtE,.Lt] [mx,rx] p)):M x :=
 iJ hc ft fun lx ops rs p hc =>
  have h0:=aG hc
  bI (M:=fun x=>M (.Compare lx ops x p)) h0.2 ft fun mx r1 hc=>bI (M:=fun x=>M (.Compare lx ops (_::x) p)) hc ft fun rx r2 hc=>bE (M:=fun x=>M (.Compare lx ops (_::_::x) p)) hc ft fun hc =>
  have h3:=aG hc;have h2:=aG h3.1;have h1:=aG h2.1
  aF h0.1▸k lx mx rx p (lL h1.1) h1.2 h2.2 h3.2
theorem zS(X:eB W P fa mg mb C k A){a b c:E}(iha:cg W P C A a)(ihb:cg W P C A b)(ihc:cg W P C A c):cg W P C A (.chain a b c):=fun {x nm env loc ρ σ s Q Er} hc hn O R h=>by
 refine qT (M:=fun x=>wpAny _ _ (eval x env) _ _ _) hc fun lx mx rx p h0 h1 h2 h3=>?_
 ·refine Compare_chain (jH (iha h1 hn O R h) (fun ρ₁ σ₁ u ux s₁ S R₁ z_ ru h₁=>?_) R) h0;have O1:=O.step0 R S;refine chain_link (jH (ihb h2 hn O1 R₁ h₁) (fun ρ₂ σ₂ v vx s₂ S₂ R₂ tk rv h=>bZ h fun r hr h₂=>?_) R₁);refine ka (op:=.le) X R₂ (ru.mono tk S₂.pre) rv hr fun ρ₃ s₃ S₃ R₃=>wpAny_truthy_bool ?_
  cases r with
  | false=>exact (ci.here R₃ (.bool _) h₂).trans ((S.trans S₂).trans S₃)
  | true =>
   rw [if_pos rfl];have S12:=(S.trans S₂).trans S₃;refine chain_last (jH (ihc h3 hn (O.step0 R S12) R₃ h₂) (fun ρ₄ σ₄ w wx s₄ S₄ R₄ tk₄ rw' h=>bZ h fun r hr h₄=>?_) R₃);exact ka (op:=.lt) X R₄ (rv.mono ((S₃.tup0 R₂).trans tk₄) (S₃.pre.trans S₄.pre)) rw' hr fun ρ₅ s₅ S₅ R₅=>(ci.here R₅ (.bool _) h₄).trans ((S12.trans S₄).trans S₅)
theorem Ed{c a b:E}(ihc:iG W P C A c)(iha:cg W P C A a)(ihb:cg W P C A b):cg W P C A (.ite c a b):=fun {x nm env loc ρ σ s Q Er} hc hn O R h=>by
 refine kr (M:=fun x=>wpAny _ _ (eval x env) _ _ _) hc ft fun t y z p hc=>?_;have h3:=aG hc;have h1:=aG h3.1;refine wpAny_IfExp (aH (ihc h1.1 hn O R h) (fun r s₁ q=>cS q fun ρ₁ σ₁ S R₁ hq=>?_) fun z_ z_ e=>e)
 cases r with
 | true=>exact aH (iha h1.2 hn (O.step0 R S) R₁ hq) (fun z_ z_ o=>o.trans S) fun z_ z_ e=>e
 | false=>exact aH (ihb h3.2 hn (O.step0 R S) R₁ hq) (fun z_ z_ o=>o.trans S) fun z_ z_ e=>e
theorem gS.out{l:List E}(ih:gS W P C A l){xs:List Expr}{Q:List V→Hp→Prop}(hc:cL P nm l xs=true)(hn:env.scope.names=nm)(O:bv W env loc ρ s.heap)(R:bJ W s.heap ρ σ)(h:pz C l loc σ Q) :
  wpAny (model W.prog W.w) A (spliced (backTo pos (starEach xs env))) (oX W ρ s Q) Er s:=aH (ih hc hn O R h) (fun z_ z_ o=>o.2) fun z_ z_ e=>e
theorem Ef:gS W P C A []:=fun {xs pos nm env loc ρ σ s Q Er} hc hn O R h=>by
 exact bE (M:=fun xs=>wpAny _ _ (spliced (backTo pos (starEach xs env))) (fun vs s'=>vs.length=xs.length∧oX W ρ s Q vs s') _ _) hc ft fun z_=>wpAny_items_nil ⟨rfl,ρ,σ,[],bp.refl ..,R,.nil,h⟩
theorem B9{l:List E}(ih:cg W P C A e)(ihl:gS W P C A l):gS W P C A (e::l):=fun {xs pos nm env loc ρ σ s Q Er} hc hn O R h=>by
 refine bI (M:=fun xs=>wpAny _ _ (spliced (backTo pos (starEach xs env))) (fun vs s'=>vs.length=xs.length∧oX W ρ s Q vs s') _ _) hc ft fun y ys hc=>?_;have hc:=aG hc
 ·refine wpAny_items_cons (jH (ih hc.1 hn O R h) (fun ρ₁ σ₁ v x s₁ S R₁ z_ rv h₁=>?_) R) (kN hc.1);refine aH (ihl hc.2 hn (O.step0 R S) R₁ h₁) (fun vs s₂ q=>xp q fun hl ρ₂ w=>ik w fun σ₂ l' S₂ R₂ r hq=>?_) fun z_ z_ e=>e;exact ⟨congrArg Nat.succ hl,ρ₂,σ₂,v::l',S.trans S₂,R₂,.cons (rv.mono (S₂.tup0 R₁) S₂.pre) r,hq⟩
theorem xQ(h:n<1000):n≤sizeLine:=by rw [sizeLine_eq];omega
theorem Ei{l:List E}(ih:gS W P C A l):cg W P C A (.tup l):=fun {x nm env loc ρ σ s Q Er} hc hn O R h=>by
 refine fm (M:=fun x=>wpAny _ _ (eval x env) _ _ _) hc ft fun xs kk p hc=>?_;have hc:=aG hc;refine wpAny_Tuple (aH (ih hc.2 hn O R h) (fun vs s₁ q=>xp q fun hl ρ₁ w=>ik w fun σ₁ l' S R₁ r hq=>⟨?_,?_⟩) fun z_ z_ e=>e)
 ·exact xQ (hl▸aF hc.1)
 ·exact (ci.tup R₁ (t:=s₁.toks) (show aZ W _ _ _ vs.toArray.toList from r) hq).trans S
theorem Ch{l:List E}(ih:gS W P C A l):cg W P C A (.list l):=fun {x nm env loc ρ σ s Q Er} hc hn O R h=>by
 refine pU (M:=fun x=>wpAny _ _ (eval x env) _ _ _) hc ft fun xs p hc=>?_;have hc:=aG hc;refine wpAny_List (aH (ih hc.2 hn O R h) (fun vs s₁ q=>xp q fun hl ρ₁ w=>ik w fun σ₁ l' S R₁ r hq=>⟨?_,?_⟩) fun z_ z_ e=>e)
 ·exact xQ (hl▸aF hc.1)
 ·exact (ci.list R₁ (t:=s₁.toks) (show aZ W _ _ _ vs.toArray.toList from r) hq).trans S
end
section
variable{P:gB}{k:Nat}{c:V}
theorem w6:tJ W P C A []:=fun {ks vs pos nm env loc ρ σ s Q Er} hc hn O R h=>by
 exact bE (M:=fun ks=>wpAny _ _ (evalPairs (pairTrees ks vs env pos)) (Fn W ρ s Q) _ _) hc ft fun z_=>ak ⟨ρ,σ,[],bp.refl ..,R,.nil,h⟩
theorem qW{p:E×E}{l:List (E×E)}{ks:List (Option Expr)}{vs:List Expr}{M:List (Option Expr)→List Expr→Prop}(hc:qU P nm (p::l) ks vs=true)(g:∀k ks v vs,cn P nm p.1 k=true→cn P nm p.2 v=true→qU P nm l ks vs=true→M (some k::ks) (v::vs)):M ks vs :=
 bI (M:=fun ks=>M ks vs) hc ft fun k ks hc=>bI (M:=fun vs=>M (k::ks) vs) hc ft fun v vs hc=>by
  have h3:=aG hc;have h2:=aG h3.1
  cases k with
  | none=>cases h2.1
  | some k=>exact g k ks v vs h2.1 h2.2 h3.2
theorem qV:∀{l:List (E×E)} {ks:List (Option Expr)} {vs:List Expr},qU P nm l ks vs=true→ks.all (·.isSome)=true∧ks.length=vs.length∧l.length=ks.length
 | [],ks,vs,h=>bE (M:=fun ks=>ks.all (·.isSome)=true∧ks.length=vs.length∧0=ks.length) h ft fun h=>bE (M:=fun vs=>_∧0=vs.length∧_) h ft fun z_=>⟨rfl,rfl,rfl⟩
 | _::l,ks,vs,h=>qW (M:=fun ks vs=>ks.all (·.isSome)=true∧ks.length=vs.length∧_=ks.length) h fun k ks v vs z_ z_ h=>have h:=qV h;⟨h.1,congrArg Nat.succ h.2.1,congrArg Nat.succ h.2.2⟩
theorem u4{e':E}{l:List (E×E)}(ih:cg W P C A e)(ih':cg W P C A e')(ihl:tJ W P C A l):tJ W P C A ((e,e')::l):=fun {ks vs pos nm env loc ρ σ s Q Er} hc hn O R h=>by
 refine qW (M:=fun ks vs=>wpAny _ _ (evalPairs (pairTrees ks vs env pos)) (Fn W ρ s Q) _ _) hc fun k ks v vs h1 h2 h3=>?_;show wpAny _ _ (do
  let kv ←eval k env
  let vv ←holding [kv] (do let x ←eval v env;standAt pos;pure x)
  return (kv,vv)::(←holding [kv,vv] (evalPairs (pairTrees ks vs env pos)))) _ _ _
 refine af (jH (ih h1 hn O R h) (fun ρ₁ σ₁ a x s₁ S R₁ z_ ra h₁=>af (a9 (af (jH (ih' h2 hn (O.step0 R S) R₁ h₁) (fun ρ₂ σ₂ b y s₂ S₂ R₂ tk rb h₂=>?_) R₁)))) R);have S12:=S.trans S₂;refine af (wpAny_standAt (ak (af (a9 (aH (ihl h3 hn (O.step0 R S12) R₂ h₂) (fun r s₃ q=>cK q fun ρ₃ σ₃ l' S₃ R₃ rl hq=>?_) fun z_ z_ e=>e)))));have tk3:=S₃.tup0 R₂;exact ak ⟨ρ₃,σ₃,(a,b)::l',S12.trans S₃,R₃,.cons (ra.mono (tk.trans tk3) (S₂.pre.trans S₃.pre)) (rb.mono tk3 S₃.pre) rl,hq⟩
theorem BV{l:List (V×V)}{k:V}:(dw l k v).length≤l.length+1:=by
 unfold dw;split
 ·rw [List.length_modify];exact Nat.le_succ _
 ·rw [aO];exact ax _
theorem tf(hu:A.units+8<cLine){D:Addr}{Q':PUnit→Shared→Prop}(ep:ρ[n]?=some (D,D)){vs:List (V×V)}:∀{r:List (Value×Value)} {l:List (V×V)} {e:Nat} {s:Shared} {σ:Hp},(∀p∈vs,p.1.key=true∧p.1.dep≤6)→l.length+vs.length<2^20→bJ W s.heap ρ σ→nV W s.heap ρ vs r→σ[n]?=some (.dict l e)→
  (∀s',bp gF ρ s ρ s'→bJ W s'.heap ρ (σ.set n (fD vs l e))→Q' PUnit.unit s')→wpAny (model W.prog W.w) A (storeAll D r) Q' Er s:=by
 induction vs with
 | nil =>
  intro r l e s σ hk hb R rp es hQ;cases rp;delta storeAll;rw [List.forIn_nil];refine ak (hQ s (bp.refl ..) ?_);have:=(aE.mp es).2;show bJ W s.heap ρ (σ.set n (.dict l e));rw [←this,List.set_getElem_self];exact R
 | cons q vs ih =>
  intro r l e s σ hk hb R rp es hQ
  cases rp with
  | cons ra rb rr =>
  delta storeAll;rw [List.forIn_cons];have hkk:=hk _ ai;rw [List.length_cons] at hb;refine af (af (po (p:=(D,D)) hu R ep es hkk.1 hkk.2 ra rb (ay (aW _ _) hb) fun h' t R' S=>ak ?_));have hlt:n<σ.length:=(aE.mp es).1;refine ih (s:={s with heap:=h',toks:=t}) (fun p hp=>hk p (aj _ hp)) (ay (am (bL BV _) (Nat.le_of_eq (Nat.add_right_comm ..))) (by rw [←Nat.add_assoc] at hb;exact hb)) R' (rr.mono (S.tup0 R) (aB _)) (List.getElem?_set_self hlt) fun s' S' R''=>hQ s' (S.trans S') ?_;rw [List.set_set] at R'';exact R''
theorem Cc(X:eB W P fa mg mb C k A){l:List (E×E)}(ih:tJ W P C A l):cg W P C A (.dict l):=fun {x nm env loc ρ σ s Q Er} hc hn O R h=>by
 refine pS (M:=fun x=>wpAny _ _ (eval x env) _ _ _) hc ft fun ks vs p hc=>?_;have hc:=aG hc;have hlen:=aF hc.1;have hc:=hc.2;have h5:=qV hc;have hall:=h5.1;have hlv:=h5.2.1;have hu:A.units+8<cLine:=by have:=X.room;omega
 have kk:∀(ob:Obj) b o,s.heap.get? b=some o→(s.heap.push ob).get? b=some o:=fun ob b o e=>aA _ e;have hz:∀ob:Obj,s.heap.objs.size≤(s.heap.push ob).objs.size:=fun ob=>by rw [br];exact Nat.le_succ _
 have S0:bp gF ρ s ρ {s with heap:=s.heap.push {cls:=.type "dict",data:=.dict #[]}}:=cR (t:=s.toks) (kk _) (hz _);have R0:bJ W (s.heap.push {cls:=.type "dict",data:=.dict #[]}) ρ σ:=R.keep (kk _) (hz _);have ap0:cb W ρ (s.heap.push {cls:=.type "dict",data:=.dict #[]}) s.heap.objs.size:=cb.new R (ax _) (by rw [br];exact bY _);have h0:(s.heap.push {cls:=.type "dict",data:=.dict #[]}).get? s.heap.objs.size=some ⟨.type "dict",none,.dict #[] 0,#[]⟩:=aQ _ rfl;refine Or.elim (Classical.em (ks=[])) (fun hne=>?_) (fun hne=>?_)
 ·subst hne
  cases vs with
  | cons _ _=>simp at hlv
  | nil =>
   cases l with
   | cons q _=>cases h5.2.2
   | nil =>
    rw [eval_Dict_empty];have h:=h.2.2;refine af (wpAny_standAt ?_);refine wpAny_newObj_type ?_;have rO:il W (s.heap.push {cls:=.type "dict",data:=.dict #[]}) (ρ++[(s.heap.objs.size,s.heap.objs.size)]) (s.heap.objs.size,s.heap.objs.size) (.dict [] 0):=⟨rfl,⟨#[],h0,.nil⟩,by simp⟩
    exact ⟨_,_,.obj σ.length,lQ S0 (ax _),Ay R0 ap0 rO,.obj (d:=s.heap.objs.size) (by rw [←R.len,aL (ax _)];simp),h⟩
 ·refine wpAny_Dict_any hall hlv hne hlen (aH (ih (s:={s with heap:=s.heap.push {cls:=.type "dict",data:=.dict #[]}}) hc hn (O.step0 R S0) R0 h) (fun vs' s₁ w=>kO w fun ρ₁ σ₁ l' S₁ R₁ rp hk hb hq=>?_) fun z_ z_ e=>e);have apD:cb W ρ₁ s₁.heap s.heap.objs.size:=ap0.step S₁;have hD:=S₁.keep _ _ h0 (fun q=>q) ap0.2.2;have rO:il W s₁.heap (ρ₁++[(s.heap.objs.size,s.heap.objs.size)]) (s.heap.objs.size,s.heap.objs.size) (.dict [] 0):=⟨rfl,⟨#[],hD,.nil⟩,by simp⟩
  have R₂:=Ay R₁ apD rO;have S₂:=lQ (S0.trans S₁) (ax s.heap.objs.size);have ep:(ρ₁++[(s.heap.objs.size,s.heap.objs.size)])[σ₁.length]?=some (s.heap.objs.size,s.heap.objs.size):=by rw [←R₁.len,aL (ax _)];simp
  refine tf hu ep (l:=[]) (e:=0) hk (by unfold big at hb;simpa using hb) R₂ (rp.mono (bg.refl _ _) (cj ..)) (by rw [aL (ax _)];simp) fun s₃ S₃ R₃=>?_;refine ⟨_,_,.obj σ₁.length,S₂.trans S₃,R₃,.obj (d:=s.heap.objs.size) ep,?_⟩;have:(σ₁++[Ob.dict [] 0]).set σ₁.length (fD l' [] 0)=σ₁++[fD l' [] 0]:=by
   rw [List.set_append_right _ _ (ax _)];simp
  rw [this];exact hq
theorem u0(X:eB W P fa mg mb C k A){f:String}{l:List E}(ih:gS W P C A l):cg W P C A (.call f l):=fun {x nm env loc ρ σ s Q Er} hc hn O R h=>by
 refine fj (M:=fun x=>wpAny _ _ (eval x env) _ _ _) hc fun id p args pos e h1 hc=>?_;subst e;have h2:=aG hc;refine f7 (X.ok.fn f (pP h2.1)) fun a q1 q2 q3=>?_;refine wpAny_Call_NameR (sD X O R hn h1 q1 ?_);exact yo (vs0:=[]) X R q2 q3 (ds h2.2).1 .nil (ih.out h2.2 hn O R h) fun l σ' h'=>h'
theorem Ee(X:eB W P fa mg mb C k A){f:String}{l:List E}(ih:gS W P C A l):cg W P C A (.new f l):=fun {x nm env loc ρ σ s Q Er} hc hn O R h=>by
 refine fj (M:=fun x=>wpAny _ _ (eval x env) _ _ _) hc fun id p args pos e h1 hc=>?_;subst e;have h2:=aG hc;have hm:=pP h2.1;refine iF (X.ok.cls f hm) fun CC a c1 c2 c3 c4 z_=>?_;refine wpAny_Call_NameR (sD X O R hn h1 c2 ?_);exact DO X R hm c1 c4 (ds h2.2).1 (ih.out h2.2 hn O R h) fun l σ' h'=>h'
theorem zr{cl m:String}{u:Unit}(h:uL σ a cl m=some u):∃n l,a=.obj n∧σ[n]?=some (.inst cl l)∧mu l m=none:=by
 cases a with
 | obj n =>
  have h:(match σ[n]? with | some (.inst c' l)=>(match decide (c'=cl) with | true=>(match mu l m with | none=>some () | some _=>none) | false=>none) | _=>none)=some u:=h
  cases e:σ[n]? with
  | none=>rw [e] at h;exact ca h
  | some o =>
   rw [e] at h
   cases o with
   | inst c' l =>
    refine Or.elim (Classical.em (c'=cl)) (fun hc=>?_) (fun hc=>?_)
    ·subst hc
     cases hm:mu l m with
     | none=>exact ⟨n,l,rfl,e,hm⟩
     | some _=>simp [hm] at h
    ·simp [hc] at h
   | _=>exact ca h
 | _=>exact ca h
theorem Ci(X:eB W P fa mg mb C k A){cl m:String}{l:List E}(ih:cg W P C A e)(ihl:gS W P C A l):cg W P C A (.meth cl e m l):=fun {x nm env loc ρ σ s Q Er} hc hn O R h=>by
 refine fZ (M:=fun x=>wpAny _ _ (eval x env) _ _ _) hc ft fun f args kw pos hc=>cI (M:=fun f=>wpAny _ _ (eval (.Call f args kw pos) env) _ _ _) hc ft fun o n apos hc=>bE (M:=fun kw=>wpAny _ _ (eval (.Call _ args kw pos) env) _ _ _) hc ft fun hc=>?_;have h6:=aG hc;have h5:=aG h6.1;have h4:=aG h5.1;have h3:=aG h4.1;have h2:=aG h3.1;have h1:=aG h2.1;cases eq_of_beq h1.1;exact BF X R (pP h1.2) h2.2 h3.2 (aF h4.2) (ds h6.2 (pos:=pos)).2 (ds h6.2).1 (ih h5.2 hn O R h) (fun a ρ' σ' s' h S R'=>bZ h fun u e hq=>have ⟨n,at',e1,e2,e3⟩:=zr e;⟨n,at',e1,e2,e3,ihl.out h6.2 hn (O.step0 R S) R' hq⟩) fun a l σ' h'=>h'
theorem Gh(X:eB W P fa mg mb C k A){bm:BM}{l:List E}(ih:cg W P C A e)(ihl:gS W P C A l):cg W P C A (.bm bm e l):=fun {x nm env loc ρ σ s Q Er} hc hn O R h=>by
 refine fZ (M:=fun x=>wpAny _ _ (eval x env) _ _ _) hc ft fun f args kw pos hc=>cI (M:=fun f=>wpAny _ _ (eval (.Call f args kw pos) env) _ _ _) hc ft fun o n apos hc=>bE (M:=fun kw=>wpAny _ _ (eval (.Call _ args kw pos) env) _ _ _) hc ft fun hc=>?_;have h6:=aG hc;have h5:=aG h6.1;have h4:=aG h5.1;have h3:=aG h4.1;have h2:=aG h3.1;cases eq_of_beq h2.1;exact Fx X R h2.2 h3.2 (aF h4.2) (ds h6.2 (pos:=pos)).2 (ds h6.2).1 (ih h5.2 hn O R h) (fun a ρ' σ' s' h S R'=>⟨h.1,ihl.out h6.2 hn (O.step0 R S) R' h.2⟩) fun a l σ' h'=>h'
theorem zN(p:iM):nu (E4 p)=some (k9 p):=by cases p<;>rfl
theorem Di{t:String}{args as:List Expr}{M:List Expr→Prop}(h:c0 none args (fun x r=>c0 none r fun y r=>dD none r (jE none y fun id z_=>if id==Str.ofString t&&nF nm id then some [x] else none))=some as)
  (k:∀x id p,id=Str.ofString t→nF nm id=true→[x]=as→M [x,.Name id p]):M args :=
 bI h ca fun x r h=>bI (M:=fun r=>M (x::r)) h ca fun y r h=>bE (M:=fun r=>M (x::y::r)) h ca fun h=>dc (M:=fun y=>M [x,y]) h ca fun id p h=>by
  refine Or.elim (Classical.em ((id==Str.ofString t&&nF nm id)=true)) (fun hc=>?_) (fun hc=>?_)
  ·exact k x id p (eq_of_beq (aG hc).1) (aG hc).2 (aX ((if_pos hc).symm.trans h))
  ·cases (if_neg hc).symm.trans h
theorem DW{l:List E}{x:Expr}{M:List E→Prop}(h:cL P nm l [x]=true)(k:∀e,cn P nm e x=true→M [e]):M l:=by
 cases l with
 | nil=>exact bF h
 | cons e r=>cases r with
  | nil=>exact k e (aG h).1
  | cons _ _=>cases (aG h).2
theorem wT{p:iM}(h:x9 p=none):lg p=[]:=by revert h;cases p<;>first | exact fun z_=>rfl | exact nofun
theorem wU{p:iM}{t:String}(h:x9 p=some t):lg p=[.type t]∧nu t=some (.type t):=by revert h;cases p<;>first | exact fun h=>aX h▸⟨rfl,rfl⟩ | exact ca
noncomputable def Ap(W:Wd)(ρ:Rho)(s:Shared)(p:iM)(Q:K1)(vs:List Value)(s':Shared):Prop:=∃ρ' σ' l ys,bp gF ρ s ρ' s'∧bJ W s'.heap ρ' σ'∧aZ W s'.heap ρ' l ys∧vs=ys++lg p∧ic p l σ' Q
theorem oX.toX{p:iM}(hx:lg p=[])(o:oX W ρ s (fun l σ=>ic p l σ Q) vs s'):Ap W ρ s p Q vs s':=by
 refine cK o fun ρ' σ' l' S R' r hq=>?_;exact ⟨ρ',σ',l',vs,S,R',r,by rw [hx,bn],hq⟩
theorem Ap.call{p:iM}{vs:List Value}(X:eB W P fa mg mb C k A)(o:Ap W ρ s p Q vs s'):wpAny (model W.prog W.w) A (call (k9 p) vs) (ci W ρ s Q) Er s':=by
 refine dk o fun ρ' σ' l' ys S R' r e hq=>?_;subst e;exact aH (D2 X.ok.wok X.hh R' r hq) (fun z_ z_ o=>o.trans S) fun z_ z_ e=>e
theorem zM(X:eB W P fa mg mb C k A){p:iM}{l:List E}{args:List Expr}(ih:gS W P C A l)(ih1:∀e0,l=[e0]→cg W P C A e0)(hc:jn (Dh nm p args) (fun as=>cL P nm l as)=true)(hn:env.scope.names=nm)(O:bv W env loc ρ s.heap)(R:bJ W s.heap ρ σ)(h:ev C (.prim p l) loc σ Q) :
  (backTo pos (starEach args env)).any (·.1)=false∧wpAny (model W.prog W.w) A (spliced (backTo pos (starEach args env))) (Ap W ρ s p Q) Er s:=by
 refine mM (M:=fun o=>Dh nm p args=o→_) hc (fun as hc ho=>?_) rfl;unfold Dh at ho;rcases hy:x9 p with _ | t
 ·rw [hy] at ho;cases ho;exact ⟨(ds hc).1,aH (ih.out hc hn O R h) (fun vs s' o=>o.toX (wT hy)) fun z_ z_ e=>e⟩
 ·rw [hy] at ho;refine Di (M:=fun args=>(backTo pos (starEach args env)).any (·.1)=false∧wpAny (model W.prog W.w) A (spliced (backTo pos (starEach args env))) (Ap W ρ s p Q) Er s) ho fun x' id2 p2 e2 g2 ea=>?_;subst ea;refine DW (M:=fun l=>(∀e0,l=[e0]→cg W P C A e0)→ev C (.prim p l) loc σ Q→_) hc (fun e0 hx0 ih1 h=>?_) ih1 h;have hst:starEach [x',.Name id2 p2] env=(false,eval x' env)::starEach [.Name id2 p2] env:=kN hx0;have q:=wU hy;refine ⟨by rw [hst];rfl,wpAny_items_cons (jH (ih1 _ rfl hx0 hn O R h) (fun ρ₁ σ₁ v x s₁ S R₁ z_ rv hq=>?_) R) hst⟩;exact wpAny_items_cons (km X (O.step0 R S) R₁ hn g2 e2 q.2 (wpAny_items_nil ⟨ρ₁,σ₁,[v],[x],S,R₁,.cons rv .nil,by rw [q.1];rfl,hq⟩)) rfl
theorem qA{p:iM}{args:List (Bool×Sem Value)}{Q':Value→Shared→Prop}(hp:args.any (·.1)=false)(h:wpAny (model W.prog W.w) A (spliced args) (fun vs s'=>wpAny (model W.prog W.w) A (call (k9 p) vs) Q' Er s') Er s):wpAny (model W.prog W.w) A (callWith pos (k9 p) [] args []) Q' Er s:=by
 cases p with
 | len | sorted | max | isTuple | isInt | sum=>exact Calls.callWith_builtin hp (jl hp h)
 | list | tuple | int=>exact PySem.callWith_type hp (jl hp h)
theorem u3(X:eB W P fa mg mb C k A){p:iM}{l:List E}(ih:gS W P C A l)(ih1:∀e0,l=[e0]→cg W P C A e0):cg W P C A (.prim p l):=fun {x nm env loc ρ σ s Q Er} hc hn O R h=>by
 refine fj (M:=fun x=>wpAny _ _ (eval x env) _ _ _) hc fun id p' args pos hid h1 hc=>wpAny_Call_NameR (km X O R hn h1 hid (zN p) ?_);have b:=zM (pos:=pos) (Er:=Er) X ih ih1 hc hn O R h;exact qA b.1 (aH b.2 (fun z_ z_ o=>o.call X) fun z_ z_ e=>e)
end
section
variable{P:gB}{k:Nat}{c:V}
theorem yA{acc:Value}{Ca:Addr}(h:tG W ρ s Q acc Ca s')(hs:Heap.SameBut Ca s'.heap h'):ci W ρ s Q acc {s' with heap:=h'}:=by
 refine lU h fun ρ' σ' a S R ra hq w ap hc=>?_;refine mZ w fun m o es ep ho hd z_=>?_;refine xa (R.own' (O:=fun z=>z=Ca) (h':=h') (fun z e=>e▸ap) (fun z o' e g=>by subst e;rw [ho] at g;cases g;exact fun x=>xp x fun z_ z_ y=>xe y fun z_ q=>by rw [hd] at q;cases q) (fun b o hb e=>(hs.2 b hb).trans e) (by rw [hs.1];exact ax _)) fun tk R'=>?_;have S':bp (fun z=>z=Ca) ρ' s' ρ' {s' with heap:=h'}:=bp.priv (X:=fun z=>z=Ca) (t:=s'.toks) (fun b o hb e=>(hs.2 b hb).trans e) (by rw [hs.1];exact ax _);exact ⟨ρ',σ',a,(S.any.trans S').drop fun z e=>.inr (by rw [e];exact hc),R',ra.mono tk (aB _),hq⟩
theorem yT{x':Expr}(h:cn P nm e x'=true)(env:Env)(v:Value):foldedSetIterable x' env v=pure v:=by
 have h:=nv h;cases x'<;>first | rfl | exact bF h
theorem uS{l:List E}{as:List Expr}{M:List E→List Expr→Prop}(hl:l.length=1)(h:cL P nm l as=true)(k:∀e0 x',cn P nm e0 x'=true→M [e0] [x']):M l as:=by
 cases l with
 | nil=>cases hl
 | cons e0 r =>
  cases r with
  | cons _ _=>cases hl
  | nil=>exact bI (M:=fun as=>M [e0] as) h ft fun x r h=>bE (M:=fun r=>M [e0] (x::r)) (aG h).2 ft fun z_=>k e0 x (aG h).1
theorem tc(X:eB W P fa mg mb C k A){kk:nc}{e0:E}{it x':Expr}{Q2:List V→List Nat→Hp→Prop}(ih:cg W P C A e0)(hk:kk=.over∨kk=.range∨kk=.enum∨kk=.values)(hit:cV nm kk it=some [x'])(hx:cn P nm e0 x'=true)(hn:env.scope.names=nm)(O:bv W env loc ρ s.heap)(R:bJ W s.heap ρ σ)
  (h:pz C [e0] loc σ fun vs σ=>dh (dm kk vs σ) fun p=>Q2 p.1 p.2 σ):wpAny (model W.prog W.w) A (eval it env) (CZ W ρ s (D0 kk) Q2) Er s:=by
 exact Ej X hn R O hit (by rw [kN hx];rfl) hk (ih hx hn O R h) fun v σ' h'=>h'
theorem kF{kk:nc}{e0:E}{it x':Expr}(hk:kk=.over∨kk=.range∨kk=.enum∨kk=.values)(hit:cV nm kk it=some [x'])(hx:cn P nm e0 x'=true)(env:Env)(v:Value):foldedSetIterable it env v=pure v:=by
 rcases hk with rfl | rfl | rfl | rfl
 ·cases hit;exact yT hx env v
 ·exact fU (M:=fun it=>foldedSetIterable it env v=pure v) hit fun z_ z_ z_ z_ z_=>rfl
 ·exact fU (M:=fun it=>foldedSetIterable it env v=pure v) hit fun z_ z_ z_ z_ z_=>rfl
 ·exact n7 (M:=fun it z_=>foldedSetIterable it env v=pure v) hit fun z_ z_ z_ z_ z_=>rfl
theorem pC{sc:Scope}{ns:List String}(O:bv W env loc ρ s.heap)(hn:env.scope.names=nm)(hs:ee nm sc ns=true):closureFor sc env=pure (fu env sc.names []) :=
 vS fun n hm =>
  have ⟨c,v,q,_⟩:=O.cel n (mF hn ((eQ hs).2.2.2.2.2 n hm))
  ⟨c,q⟩
theorem th{a b:α}{M:α→Prop}(h:a=b)(k:M b):M a:=h▸k
theorem pf{nm':Nm}{t:Tn}{kk:nc}{l:List E}{g:Comprehension}{M:Tn→List E→Comprehension→Prop}(h:yB nm nm' t kk l g (fun as=>cL P nm l as)=true)
  (k:∀xn e0 p it cs x0,cV nm kk it=some [x0]→cn P nm e0 x0=true→M (.name xn) [e0] ⟨.Name (Str.ofString xn) p,it,cs,0⟩):M t l g:=by
 have c5:=aG h;have c4:=aG c5.1;have c3:=aG c4.1;have c2:=aG c3.1;have h2:=c2.1;have h3:=aF c2.2;have h4:=aF c3.2;have h5:=c4.2;have h6:=c5.2;clear c2 c3 c4 c5 h
 cases g with
 | mk tg it cs isA =>
 cases t with
 | pair _ _=>exact bF h2
 | name xn =>
 subst h3;refine dc (M:=fun tg=>M _ l ⟨tg,it,cs,0⟩) h5 ft fun id p hg=>?_;refine th (M:=fun id=>M _ l ⟨.Name id p,it,cs,0⟩) (eq_of_beq (aG hg).1) ?_;exact mM (M:=fun o=>cV nm kk it=o→M (.name xn) l ⟨.Name (Str.ofString xn) p,it,cs,0⟩) h6 (fun as hi=>uS (M:=fun l as=>cV nm kk it=some as→M (.name xn) l ⟨.Name (Str.ofString xn) p,it,cs,0⟩) h4 hi fun e0 x' hx has=>k xn e0 p it cs x' has hx) rfl
theorem AN{elt:E}{t:Tn}{kk:nc}{l ifs:List E}{x:Expr}{M:Tn→List E→Expr→Prop}(hc:cn P nm (.comp elt t kk l ifs) x=true)
  (k:∀xn e0 y it cs sc pos p x0,(kk==.over ||kk==.range ||kk==.values)=true→ee nm sc [xn]=true→cV nm kk it=some [x0]→cn P nm e0 x0=true→cn P (dn nm sc.names) elt y=true→cL P (dn nm sc.names) ifs cs=true→M (.name xn) [e0] (.ListComp y [⟨.Name (Str.ofString xn) p,it,cs,0⟩] sc pos)):M t l x :=
 ib hc ft fun y gs sc pos hc=>bI (M:=fun gs=>M _ l (.ListComp y gs sc pos)) hc ft fun g r hc=>bE (M:=fun r=>M _ l (.ListComp y (g::r) sc pos)) hc ft fun hc =>
  have c5:=aG hc;have c4:=aG c5.1;have c3:=aG c4.1;have c2:=aG c3.1
  pf (M:=fun t l g=>ee nm sc t.names=true→cL P (dn nm sc.names) ifs g.ifs=true→M t l (.ListComp y [g] sc pos)) c3.2 (fun xn e0 p it cs x0 has hx hs hi=>k xn e0 y it cs sc pos p x0 c2.1 hs has hx c4.2 hi) c2.2 c5.2
theorem t4(X:eB W P fa mg mb C k A){elt:E}{t:Tn}{kk:nc}{l ifs:List E}{x:Expr}(ihl:∀e∈l,cg W P C A e)(ihe:cg W P C A elt)(iht:lW W P C A ifs)(hc:cn P nm (.comp elt t kk l ifs) x=true)(hn:env.scope.names=nm)(O:bv W env loc ρ s.heap)(R:bJ W s.heap ρ σ)
  (h:ev C (.comp elt t kk l ifs) loc σ Q) {use:Option (Value→Sem Unit)} {Qf:Value→Shared→Prop} (hu:∀acc Ca s',tG W ρ s Q acc Ca s'→compPost (model W.prog W.w) A Er use Qf acc Ca (.ok .next) s')
  {MG:Expr→Prop} (kg:∀y gens sc pos,firstAsync gens=false→wpAny (model W.prog W.w) A (comprehension (.ListComp y gens sc pos) sc env (firstIterPos gens pos) (newList []) (firstAsync gens) (firstIter gens env) use) Qf Er s→MG (.ListComp y gens sc pos)):MG x:=by
 refine AN (M:=fun t l x=>(∀e∈l,cg W P C A e)→ev C (.comp elt t kk l ifs) loc σ Q→MG x) hc (fun xn e0 y it cs sc pos p x' hk hs has hx hy hi ihl h=>?_) ihl h;have hk:(kk=.over∨kk=.range∨kk=.enum∨kk=.values)∧D0 kk=false:=by
  revert hk;cases kk<;>decide
 refine kg y _ sc pos rfl (wpAny_comprehension_free (use:=use) rfl (kF hk.1 has hx env) (pC O hn hs) (eQ hs).1 (eQ hs).2.2.2.1 ?_);refine yE (RRR:=compPost (model W.prog W.w) A Er use Qf) O R hn hs X.hh ?_ (fun hn' O' R' h'=>(iht hi hn' O' R' h').2) (fun hn' O' R' h'=>ihe hy hn' O' R' h') hu;have:=tc X (Er:=Er) (Q2:=fun xs ms σ=>dL (bV ms σ) (.name xn) (cw [xn] loc) (mV C elt ifs) 0 xs [] σ (hV Q)) (ihl e0 ai) hk.1 has hx hn O R h;rw [hk.2] at this;exact this
theorem qS(acc:Value)(Ca:Addr)(s':Shared)(hf:tG W ρ s Q acc Ca s'):compPost (model W.prog W.w) A Er none (ci W ρ s Q) acc Ca (.ok .next) s':=by
 refine lU (id hf) fun z_ z_ z_ z_ z_ z_ z_ q z_ z_=>?_;refine xe q fun m hm=>?_;exact ⟨m,hm,fun h' hs=>yA hf hs⟩
theorem B8(X:eB W P fa mg mb C k A){elt:E}{t:Tn}{kk:nc}{l ifs:List E}(ihl:∀e∈l,cg W P C A e)(ihe:cg W P C A elt)(iht:lW W P C A ifs):cg W P C A (.comp elt t kk l ifs):=fun {x nm env loc ρ σ s Q Er} hc hn O R h=>by
 exact t4 (MG:=fun x=>wpAny _ _ (eval x env) _ _ _) X ihl ihe iht hc hn O R h qS fun y gens sc pos z_ hw=>(eval_ListComp ..).symm▸hw
theorem yF{elt:E}{t t':Tn}{kk kk':nc}{l l' ifs:List E}{x:Expr}{M:Tn→nc→List E→Tn→nc→List E→Expr→Prop}(hc:cn P nm (.comp2 elt t kk l t' kk' l' ifs) x=true)
  (k:∀xn xn' e0 e1 y it it' cs sc pos p p' x0 x1,(xn==xn')=false→ee nm sc [xn,xn']=true→cV nm .over it=some [x0]→cn P nm e0 x0=true→cV (dn nm sc.names) .over it'=some [x1]→cn P (dn nm sc.names) e1 x1=true→
   cn P (dn nm sc.names) elt y=true→cL P (dn nm sc.names) ifs cs=true→M (.name xn) .over [e0] (.name xn') .over [e1] (.ListComp y [⟨.Name (Str.ofString xn) p,it,[],0⟩,⟨.Name (Str.ofString xn') p',it',cs,0⟩] sc pos)):M t kk l t' kk' l' x :=
 ib hc ft fun y gs sc pos hc=>bI (M:=fun gs=>M t kk l t' kk' l' (.ListComp y gs sc pos)) hc ft fun g r hc=>bI (M:=fun r=>M t kk l t' kk' l' (.ListComp y (g::r) sc pos)) hc ft fun g' r hc=>bE (M:=fun r=>M t kk l t' kk' l' (.ListComp y (g::g'::r) sc pos)) hc ft fun hc =>
  have d9:=aG hc;have d8:=aG d9.1;have d7:=aG d8.1;have d6:=aG d7.1;have d5:=aG d6.1;have d4:=aG d5.1;have d3:=aG d4.1;have d2:=aG d3.1
  th (M:=fun i=>yB nm (dn nm sc.names) t i l g (fun as=>cL P nm l as)=true→M t i l t' kk' l' (.ListComp y [g,g'] sc pos)) (eq_of_beq d2.1) (fun hg=>th (M:=fun i=>yB (dn nm sc.names) (dn nm sc.names) t' i l' g' (fun as=>cL P (dn nm sc.names) l' as)=true→M t .over l t' i l' (.ListComp y [g,g'] sc pos)) (eq_of_beq d2.2)
   (fun hg'=>pf (M:=fun t l g=>FY t t'=true→ee nm sc (t.names++t'.names)=true→dD false g.ifs true=true→M t .over l t' .over l' (.ListComp y [g,g'] sc pos)) hg
    (fun xn e0 p it cs x0 has hx hne hs hnil=>pf (M:=fun t' l' g'=>FY (.name xn) t'=true→ee nm sc (xn::t'.names)=true→cL P (dn nm sc.names) ifs g'.ifs=true→M (.name xn) .over [e0] t' .over l' (.ListComp y [⟨.Name (Str.ofString xn) p,it,cs,0⟩,g'] sc pos)) hg'
     (fun xn' e1 p' it' cs' x1 has' hx1 hne hs hi=>bE (M:=fun cs=>M (.name xn) .over [e0] (.name xn') .over [e1] (.ListComp y [⟨.Name (Str.ofString xn) p,it,cs,0⟩,⟨.Name (Str.ofString xn') p',it',cs',0⟩] sc pos)) hnil ft fun z_=>k xn xn' e0 e1 y it it' cs' sc pos p p' x0 x1 (lL hne) hs has hx has' hx1 d8.2 hi) hne hs d9.2)
    d3.2 d5.2 d4.2) d7.2) d6.2
theorem q0(X:eB W P fa mg mb C k A){elt:E}{t t':Tn}{kk kk':nc}{l l' ifs:List E}{x:Expr}(ihl:∀e∈l,cg W P C A e)(ihl':∀e∈l',cg W P C A e)(ihe:cg W P C A elt)(iht:lW W P C A ifs)(hc:cn P nm (.comp2 elt t kk l t' kk' l' ifs) x=true)(hn:env.scope.names=nm)(O:bv W env loc ρ s.heap)(R:bJ W s.heap ρ σ)
  (h:ev C (.comp2 elt t kk l t' kk' l' ifs) loc σ Q) {use:Option (Value→Sem Unit)} {Qf:Value→Shared→Prop} (hu:∀acc Ca s',tG W ρ s Q acc Ca s'→compPost (model W.prog W.w) A Er use Qf acc Ca (.ok .next) s')
  {MG:Expr→Prop} (kg:∀y gens sc pos,firstAsync gens=false→wpAny (model W.prog W.w) A (comprehension (.ListComp y gens sc pos) sc env (firstIterPos gens pos) (newList []) (firstAsync gens) (firstIter gens env) use) Qf Er s→MG (.ListComp y gens sc pos)):MG x:=by
 refine yF (M:=fun t kk l t' kk' l' x=>(∀e∈l,cg W P C A e)→(∀e∈l',cg W P C A e)→ev C (.comp2 elt t kk l t' kk' l' ifs) loc σ Q→MG x) hc (fun xn xn' e0 e1 y it it' cs sc pos p p' x' x1 hne hs has hx has' hx1 hy hi ihl ihl' h=>?_) ihl ihl' h;refine kg y _ sc pos rfl (wpAny_comprehension_free (use:=use) rfl (kF (.inl rfl) has hx env) (pC O hn hs) (eQ hs).1 (eQ hs).2.2.2.1 ?_);exact yG (RRR:=compPost (model W.prog W.w) A Er use Qf) O R hn hs (ne_of_beq_false hne) X.hh (tc X (Er:=Er) (Q2:=fun xs ms σ=>dL (bV ms σ) (.name xn) (cw [xn,xn'] loc) (ot C [e1] .over xn' elt ifs) 0 xs [] σ (hV Q)) (ihl e0 ai) (.inl rfl) has hx hn O R h)
  (fun env v=>kF (.inl rfl) has' hx1 env v) (fun {env ρ σ s loc' Q2 Er} hn' O' R' h'=>tc X (ihl' e1 ai) (.inl rfl) has' hx1 hn' O' R' h') (fun hn' O' R' h'=>(iht hi hn' O' R' h').2) (fun hn' O' R' h'=>ihe hy hn' O' R' h') hu
theorem zT(X:eB W P fa mg mb C k A){elt:E}{t t':Tn}{kk kk':nc}{l l' ifs:List E}(ihl:∀e∈l,cg W P C A e)(ihl':∀e∈l',cg W P C A e)(ihe:cg W P C A elt)(iht:lW W P C A ifs):cg W P C A (.comp2 elt t kk l t' kk' l' ifs):=fun {x nm env loc ρ σ s Q Er} hc hn O R h=>by
 exact q0 (MG:=fun x=>wpAny _ _ (eval x env) _ _ _) X ihl ihl' ihe iht hc hn O R h qS fun y gens sc pos z_ hw=>(eval_ListComp ..).symm▸hw
end
section
variable{P:gB}{k:Nat}{c:V}
theorem Ex(ih:iG W P C A e):iG W P C A (.not e):=fun {x nm env loc ρ σ s Q Er} hc hn O R h=>by
 refine eP (M:=fun x=>wpAny _ _ (isTrue x env (eval x env)) _ _ _) hc ft fun op y p hc=>?_;have hc:=aG hc;cases aF hc.1;exact wpAny_isTrue_Not (ih (Q:=fun b σ=>Q (!b) σ) hc.2 hn O R h)
theorem Eu{l:List E}(ih:lW W P C A l):iG W P C A (.and l):=fun {x nm env loc ρ σ s Q Er} hc hn O R h=>by
 refine fG (M:=fun x=>wpAny _ _ (isTrue x env (eval x env)) _ _ _) hc ft fun op y p hc=>?_;have hc:=aG hc;cases aF hc.1;exact wpAny_isTrue_BoolOp (ih hc.2 hn O R h).1
theorem Gr{l:List E}(ih:tM W P C A l):iG W P C A (.or l):=fun {x nm env loc ρ σ s Q Er} hc hn O R h=>by
 refine fG (M:=fun x=>wpAny _ _ (isTrue x env (eval x env)) _ _ _) hc ft fun op y p hc=>?_;have hc:=aG hc;cases aF hc.1;exact wpAny_isTrue_BoolOp (ih hc.2 hn O R h)
theorem Ew{c a b:E}(ihc:iG W P C A c)(iha:iG W P C A a)(ihb:iG W P C A b):iG W P C A (.ite c a b):=fun {x nm env loc ρ σ s Q Er} hc hn O R h=>by
 refine kr (M:=fun x=>wpAny _ _ (isTrue x env (eval x env)) _ _ _) hc ft fun t y z p hc=>?_;have h3:=aG hc;have h1:=aG h3.1;refine af (aH (ihc h1.1 hn O R h) (fun r s₁ q=>cS q fun ρ₁ σ₁ S R₁ hq=>?_) fun z_ z_ e=>e)
 cases r with
 | true=>exact aH (iha h1.2 hn (O.step0 R S) R₁ hq) (fun z_ z_ o=>o.trans S) fun z_ z_ e=>e
 | false=>exact aH (ihb h3.2 hn (O.step0 R S) R₁ hq) (fun z_ z_ o=>o.trans S) fun z_ z_ e=>e
theorem Ev(X:eB W P fa mg mb C k A){op:CU}{l r:E}(ih:cg W P C A l)(ih':cg W P C A r):iG W P C A (.cmp op l r):=fun {x nm env loc ρ σ s Q Er} hc hn O R h=>by
 refine tY (M:=fun x=>wpAny _ _ (isTrue x env (eval x env)) _ _ _) hc fun lx op' rx p e h1 h2 h3=>?_;cases e;refine wpAny_isTrue_Compare1 (tu ih ih' h2 h3 hn O R h fun ρ' σ' v w x y s' S R' rv rw' h=>bZ h fun r hr hq=>?_) h1;exact ka X R' rv rw' hr fun ρ'' s'' S' R''=>wpAny_truthy_bool ⟨ρ'',σ',S.trans S',R'',hq⟩
theorem Ah(X:eB W P fa mg mb C k A){a b c:E}(iha:cg W P C A a)(ihb:cg W P C A b)(ihc:cg W P C A c):iG W P C A (.chain a b c):=fun {x nm env loc ρ σ s Q Er} hc hn O R h=>by
 refine qT (M:=fun x=>wpAny _ _ (isTrue x env (eval x env)) _ _ _) hc fun lx mx rx p h0 h1 h2 h3=>?_
 ·refine isTrue_chain (jH (iha h1 hn O R h) (fun ρ₁ σ₁ u ux s₁ S R₁ z_ ru h₁=>?_) R) h0;have O1:=O.step0 R S;refine test_link (jH (ihb h2 hn O1 R₁ h₁) (fun ρ₂ σ₂ v vx s₂ S₂ R₂ tk rv h=>bZ h fun r hr h₂=>?_) R₁);refine ka (op:=.le) X R₂ (ru.mono tk S₂.pre) rv hr fun ρ₃ s₃ S₃ R₃=>wpAny_truthy_bool ?_;have S12:=(S.trans S₂).trans S₃
  cases r with
  | false=>exact ⟨ρ₃,σ₂,S12,R₃,h₂⟩
  | true =>
   rw [if_pos rfl];refine test_last (jH (ihc h3 hn (O.step0 R S12) R₃ h₂) (fun ρ₄ σ₄ w wx s₄ S₄ R₄ tk₄ rw' h=>bZ h fun r hr h₄=>?_) R₃);exact ka (op:=.lt) X R₄ (rv.mono ((S₃.tup0 R₂).trans tk₄) (S₃.pre.trans S₄.pre)) rw' hr fun ρ₅ s₅ S₅ R₅=>wpAny_truthy_bool ⟨ρ₅,σ₄,(S12.trans S₄).trans S₅,R₅,h₄⟩
noncomputable abbrev II(Q:Bool→Hp→Prop):K1:=fun v σ=>dh (vr σ v) fun b=>Q b σ
theorem mU(ih:cg W P C A e)(he:∀{x:Expr} {nm:Nm},cn P nm e x=true→∀env m,isTrue x env m=(do let v ←m;standAt x.pos;holding [v] (truthy v)))
  (hq:∀{loc σ Q},tF C e loc σ Q→ev C e loc σ (II Q)):iG W P C A e:=fun {x nm env loc ρ σ s Q Er} hc hn O R h =>
 Gp (he hc env _) (ih hc hn O R (hq h)) fun v σ' h'=>um h'
theorem Ez{y:String}:iG W P C A (.var y):=mU yh (fun {x nm} hc env m=>dc (M:=fun x=>isTrue x env m=(do let v ←m;standAt x.pos;holding [v] (truthy v))) hc ft fun z_ z_ z_=>rfl) fun h=>h
theorem CH{at':String}(ih:cg W P C A (.attr e at')):iG W P C A (.attr e at'):=mU ih (fun {x nm} hc env m=>cI (M:=fun x=>isTrue x env m=(do let v ←m;standAt x.pos;holding [v] (truthy v))) hc ft fun z_ z_ z_ z_=>rfl) fun h=>h
theorem Ey{i:E}(ih:cg W P C A (.sub e i)):iG W P C A (.sub e i):=mU ih (fun {x nm} hc env m=>dN (M:=fun x=>isTrue x env m=(do let v ←m;standAt x.pos;holding [v] (truthy v))) hc ft fun z_ z_ z_ z_=>rfl) fun h=>h
theorem CI{f:String}{l:List E}(ih:cg W P C A (.call f l)):iG W P C A (.call f l):=mU ih (fun {x nm} hc env m=>fj (M:=fun x=>isTrue x env m=(do let v ←m;standAt x.pos;holding [v] (truthy v))) hc fun z_ z_ z_ z_ z_ z_ z_=>rfl) fun h=>h
theorem CJ{p:iM}{l:List E}(ih:cg W P C A (.prim p l)):iG W P C A (.prim p l):=mU ih (fun {x nm} hc env m=>fj (M:=fun x=>isTrue x env m=(do let v ←m;standAt x.pos;holding [v] (truthy v))) hc fun z_ z_ z_ z_ z_ z_ z_=>rfl) fun h=>h
theorem CB{cs:List Expr}{Q:Bool→Shared→Prop}(h:Q false s):wpAny (model W.prog W.w) A (forIn cs false fun c r=>if r=true then do let ok ←isTrue c env (eval c env);pure (ForInStep.yield ok) else pure (ForInStep.yield r)) Q Er s:=by
 induction cs with
 | nil=>exact ak h
 | cons c cs ih =>
  rw [List.forIn_cons];refine af ?_;rw [if_neg (by decide)];exact ak ih
theorem Gq:lW W P C A []:=fun {xs nm env loc ρ σ s Q Er} hc hn O R h=>by
 exact bE (M:=fun xs=>wpAny (model W.prog W.w) A (allTrue .And xs env) (lq W ρ s Q) Er s∧wpAny (model W.prog W.w) A (iE xs env) (lq W ρ s Q) Er s) hc ft fun z_=>⟨wpAny_allTrue_And_nil ⟨ρ,σ,bp.refl ..,R,h⟩,ak ⟨ρ,σ,bp.refl ..,R,h⟩⟩
theorem Et{l:List E}(ih:iG W P C A e)(ihl:lW W P C A l):lW W P C A (e::l):=fun {xs nm env loc ρ σ s Q Er} hc hn O R h=>by
 refine bI (M:=fun xs=>wpAny (model W.prog W.w) A (allTrue .And xs env) (lq W ρ s Q) Er s∧wpAny (model W.prog W.w) A (iE xs env) (lq W ρ s Q) Er s) hc ft fun y ys hc=>?_;have hc:=aG hc
 ·refine ⟨wpAny_allTrue_And_cons (aH (ih hc.1 hn O R h) (fun b s₁ q=>cS q fun ρ₁ σ₁ S R₁ hq=>?_) fun z_ z_ e=>e),?_⟩
  ·cases b with
   | true=>exact aH (ihl hc.2 hn (O.step0 R S) R₁ hq).1 (fun z_ z_ o=>o.trans S) fun z_ z_ e=>e
   | false=>exact ⟨ρ₁,σ₁,S,R₁,hq⟩
  ·show wpAny _ _ (forIn (y::ys) true _) _ _ _;rw [List.forIn_cons];refine af ?_;rw [if_pos rfl];refine af (aH (ih hc.1 hn O R h) (fun b s₁ x=>cS x fun ρ₁ σ₁ S R₁ hq=>ak ?_) fun z_ z_ e=>e)
   cases b with
   | true=>exact aH (ihl hc.2 hn (O.step0 R S) R₁ hq).2 (fun z_ z_ o=>o.trans S) fun z_ z_ e=>e
   | false=>exact CB ⟨ρ₁,σ₁,S,R₁,hq⟩
theorem Go:tM W P C A []:=fun {xs nm env loc ρ σ s Q Er} hc hn O R h=>by
 exact bE (M:=fun xs=>wpAny _ _ (allTrue .Or xs env) _ _ _) hc ft fun z_=>wpAny_allTrue_Or_nil ⟨ρ,σ,bp.refl ..,R,h⟩
theorem Em{l:List E}(ih:iG W P C A e)(ihl:tM W P C A l):tM W P C A (e::l):=fun {xs nm env loc ρ σ s Q Er} hc hn O R h=>by
 refine bI (M:=fun xs=>wpAny _ _ (allTrue .Or xs env) _ _ _) hc ft fun y ys hc=>?_;have hc:=aG hc
 ·refine wpAny_allTrue_Or_cons (aH (ih hc.1 hn O R h) (fun b s₁ q=>cS q fun ρ₁ σ₁ S R₁ hq=>?_) fun z_ z_ e=>e)
  cases b with
  | true=>exact ⟨ρ₁,σ₁,S,R₁,hq⟩
  | false=>exact aH (ihl hc.2 hn (O.step0 R S) R₁ hq) (fun z_ z_ o=>o.trans S) fun z_ z_ e=>e
theorem C5(ih:cg W P C A e):nq W P C A [e]:=fun {xs pos nm env loc ρ σ s Q Er} hc hn O R h=>by
 exact bI (M:=fun xs=>wpAny _ _ (boolOp pos .And (evalEach xs env)) _ _ _) hc ft fun y ys hc=>have hc:=aG hc
  bE (M:=fun xs=>wpAny _ _ (boolOp pos .And (evalEach (_::xs) env)) _ _ _) hc.2 ft fun z_=>ih hc.1 hn O R h
theorem F9(ih:cg W P C A e):qL W P C A [e]:=fun {xs pos nm env loc ρ σ s Q Er} hc hn O R h=>by
 exact bI (M:=fun xs=>wpAny _ _ (boolOp pos .Or (evalEach xs env)) _ _ _) hc ft fun y ys hc=>have hc:=aG hc
  bE (M:=fun xs=>wpAny _ _ (boolOp pos .Or (evalEach (_::xs) env)) _ _ _) hc.2 ft fun z_=>ih hc.1 hn O R h
theorem yn{e':E}{l:List E}{xs:List Expr}{M:List Expr→Prop}(h:cL P nm (e::e'::l) xs=true)(k:∀y y' ys,cn P nm e y=true→cL P nm (e'::l) (y'::ys)=true→M (y::y'::ys)):M xs :=
 bI h ft fun y r h=>have h:=aG h
  bI (M:=fun r=>cL P nm (e'::l) r=true→M (y::r)) h.2 ft (fun y' ys z_ h2=>k y y' ys h.1 h2) h.2
theorem AA{e':E}{l:List E}(ih:cg W P C A e)(ihl:nq W P C A (e'::l)):nq W P C A (e::e'::l):=fun {xs pos nm env loc ρ σ s Q Er} hc hn O R h=>by
 refine yn (M:=fun xs=>wpAny _ _ (boolOp pos .And (evalEach xs env)) _ _ _) hc fun y y' ys h1 h2=>?_;show wpAny _ _ (do
  let v ←eval y env
  standAt pos
  let t ←holding [v] (truthy v)
  match BoolOp.And,t with
  | .And,false | .Or,true=>pure v
  | _,_=>boolOp pos .And (evalEach (y'::ys) env)) _ _ _
 refine mj (ih h1 hn O R h) fun ρ₁ σ₁ a v s₁ S R₁ ra h=>bZ h fun b hb hq=>af (wpAny_standAt (af (a9 (tq R₁ ra hb fun t=>?_))));have S1:=S.trans (bp.toks gF ρ₁ s₁ t)
 cases b with
 | true=>exact aH (ihl h2 hn (O.step0 R S1) R₁ hq) (fun z_ z_ o=>o.trans S1) fun z_ z_ e=>e
 | false=>exact ak ⟨ρ₁,σ₁,a,S1,R₁,ra,hq⟩
theorem DY{e':E}{l:List E}(ih:cg W P C A e)(ihl:qL W P C A (e'::l)):qL W P C A (e::e'::l):=fun {xs pos nm env loc ρ σ s Q Er} hc hn O R h=>by
 refine yn (M:=fun xs=>wpAny _ _ (boolOp pos .Or (evalEach xs env)) _ _ _) hc fun y y' ys h1 h2=>?_;show wpAny _ _ (do
  let v ←eval y env
  standAt pos
  let t ←holding [v] (truthy v)
  match BoolOp.Or,t with
  | .And,false | .Or,true=>pure v
  | _,_=>boolOp pos .Or (evalEach (y'::ys) env)) _ _ _
 refine mj (ih h1 hn O R h) fun ρ₁ σ₁ a v s₁ S R₁ ra h=>bZ h fun b hb hq=>af (wpAny_standAt (af (a9 (tq R₁ ra hb fun t=>?_))));have S1:=S.trans (bp.toks gF ρ₁ s₁ t)
 cases b with
 | false=>exact aH (ihl h2 hn (O.step0 R S1) R₁ hq) (fun z_ z_ o=>o.trans S1) fun z_ z_ e=>e
 | true=>exact ak ⟨ρ₁,σ₁,a,S1,R₁,ra,hq⟩
theorem C4:nq W P C A []:=fun {xs pos nm env loc ρ σ s Q Er} hc hn O R h=>h.elim
theorem F8:qL W P C A []:=fun {xs pos nm env loc ρ σ s Q Er} hc hn O R h=>h.elim
theorem D7{l:List E}(ih:nq W P C A l):cg W P C A (.and l):=fun {x nm env loc ρ σ s Q Er} hc hn O R h=>by
 refine fG (M:=fun x=>wpAny _ _ (eval x env) _ _ _) hc ft fun op y p hc=>?_;have hc:=aG hc;cases aF hc.1;rw [arm_eval_BoolOp];exact ih hc.2 hn O R h
theorem Gj{l:List E}(ih:qL W P C A l):cg W P C A (.or l):=fun {x nm env loc ρ σ s Q Er} hc hn O R h=>by
 refine fG (M:=fun x=>wpAny _ _ (eval x env) _ _ _) hc ft fun op y p hc=>?_;have hc:=aG hc;cases aF hc.1;rw [arm_eval_BoolOp];exact ih hc.2 hn O R h
theorem Eb{lo hi:Option Int}:cg W P C A (.cut e lo hi):=fun {x nm env loc ρ σ s Q Er} hc hn O R h=>absurd hc ft
theorem dj(h:∀loc σ Q,¬tF C e loc σ Q):iG W P C A e:=fun {x nm env loc ρ σ s Q Er} hc hn O R h'=>(h _ _ _ h').elim
mutual
theorem di(X:eB W P fa mg mb C k A):∀e:E,cg W P C A e
 | .const v=>zU
 | .var y=>yh
 | .glob y v=>Cf X
 | .attr e a=>uZ X (di X e)
 | .sub e i=>yg X (di X e) (di X i)
 | .cut e lo hi=>Eb
 | .bin op a b=>D9 (di X a) (di X b)
 | .not e=>Eg X (di X e)
 | .and l=>D7 (B6 X l)
 | .or l=>Gj (E7 X l)
 | .cmp op a b=>Ea X (di X a) (di X b)
 | .chain a b c=>zS X (di X a) (di X b) (di X c)
 | .ite c a b=>Ed (s8 X c) (di X a) (di X b)
 | .tup l=>Ei (kz X l)
 | .list l=>Ch (kz X l)
 | .dict l=>Cc X (E8 X l)
 | .call f l=>u0 X (kz X l)
 | .new c l=>Ee X (kz X l)
 | .meth c e m l=>Ci X (di X e) (kz X l)
 | .prim p l=>u3 X (kz X l) fun e0 h=>nP X l e0 (by rw [h];exact ai)
 | .bm b e l=>Gh X (di X e) (kz X l)
 | .comp elt t k l ifs=>B8 X (nP X l) (di X elt) (rI X ifs)
 | .comp2 elt t k l t' k' l' ifs=>zT X (nP X l) (nP X l') (di X elt) (rI X ifs)
theorem nP(X:eB W P fa mg mb C k A):∀l:List E,∀e∈l,cg W P C A e
 | [],e,h=>by cases h
 | a::r,e,h=>by
  refine Or.elim (aP.mp h) (fun q=>?_) (fun q=>?_)
  ·rw [q];exact di X a
  ·exact nP X r e q
theorem kz(X:eB W P fa mg mb C k A):∀l:List E,gS W P C A l
 | []=>Ef
 | e::r=>B9 (di X e) (kz X r)
theorem E8(X:eB W P fa mg mb C k A):∀l:List (E×E),tJ W P C A l
 | []=>w6
 | (a,b)::r=>u4 (di X a) (di X b) (E8 X r)
theorem B6(X:eB W P fa mg mb C k A):∀l:List E,nq W P C A l
 | []=>C4
 | [e]=>C5 (di X e)
 | e::e'::r=>AA (di X e) (B6 X (e'::r))
theorem E7(X:eB W P fa mg mb C k A):∀l:List E,qL W P C A l
 | []=>F8
 | [e]=>F9 (di X e)
 | e::e'::r=>DY (di X e) (E7 X (e'::r))
theorem s8(X:eB W P fa mg mb C k A):∀e:E,iG W P C A e
 | .not e=>Ex (s8 X e)
 | .and l=>Eu (rI X l)
 | .or l=>Gr (E9 X l)
 | .ite c a b=>Ew (s8 X c) (s8 X a) (s8 X b)
 | .cmp op a b=>Ev X (di X a) (di X b)
 | .chain a b c=>Ah X (di X a) (di X b) (di X c)
 | .var y=>Ez
 | .attr e a=>CH (uZ X (di X e))
 | .sub e i=>Ey (yg X (di X e) (di X i))
 | .call f l=>CI (u0 X (kz X l))
 | .prim p l=>CJ (u3 X (kz X l) fun e0 h=>nP X l e0 (by rw [h];exact ai))
 | .const v=>dj (e:=.const v) fun z_ z_ z_ h=>h
 | .glob y v=>dj (e:=.glob y v) fun z_ z_ z_ h=>h
 | .cut e lo hi=>dj (e:=.cut e lo hi) fun z_ z_ z_ h=>h
 | .bin op a b=>dj (e:=.bin op a b) fun z_ z_ z_ h=>h
 | .tup l=>dj (e:=.tup l) fun z_ z_ z_ h=>h
 | .list l=>dj (e:=.list l) fun z_ z_ z_ h=>h
 | .dict l=>dj (e:=.dict l) fun z_ z_ z_ h=>h
 | .new c l=>dj (e:=.new c l) fun z_ z_ z_ h=>h
 | .meth c e m l=>dj (e:=.meth c e m l) fun z_ z_ z_ h=>h
 | .bm b e l=>dj (e:=.bm b e l) fun z_ z_ z_ h=>h
 | .comp elt t k l ifs=>dj (e:=.comp elt t k l ifs) fun z_ z_ z_ h=>h
 | .comp2 elt t k l t' k' l' ifs=>dj (e:=.comp2 elt t k l t' k' l' ifs) fun z_ z_ z_ h=>h
theorem rI(X:eB W P fa mg mb C k A):∀l:List E,lW W P C A l
 | []=>Gq
 | e::r=>Et (s8 X e) (rI X r)
theorem E9(X:eB W P fa mg mb C k A):∀l:List E,tM W P C A l
 | []=>Go
 | e::r=>Em (s8 X e) (E9 X r)
end
end
section
variable{P:gB}{k:Nat}{c:V}
theorem bv.tk(O:bv W env loc ρ s.heap)(R:bJ W s.heap ρ σ)(S:bp (dC env) ρ s ρ' s'):bg W s.heap s'.heap :=
 S.tup R fun a o ha e=>by
  refine bG (O.alive a ha) fun o' h1 h2=>?_;rw [h1] at e;cases e;exact h2
section
variable{ns:List Nat}{own:List Addr}{I:Addr}{St:Nat→Rho→Heap→Prop}
theorem q8(It:kP W false xs ns σ₀ own I St Mid)(hh:A.handled=none):∀(n i:Nat) (s:Shared) (Q:List Value→Shared→Prop),i+n=xs.length→St i ρ s.heap→bJ W s.heap ρ σ→bV ns σ₀ σ→
  (∀ys s',bp (·∈own) ρ s ρ s'→bg W s.heap s'.heap→bJ W s'.heap ρ σ→aZ W s'.heap ρ (xs.drop i) ys→St xs.length ρ s'.heap→Q ys s')→wpAny (model W.prog W.w) A (draw (.ref I) n) Q Er s
 | 0,i,s,Q,hi,st,R,sd,hQ=>by
  have:i=xs.length:=by omega
  subst this;rw [List.drop_length] at hQ;exact ak (hQ [] s (bp.refl ..) (bg.refl _ _) R .nil st)
 | n+1,i,s,Q,hi,st,R,sd,hQ=>by
  have hlt:i<xs.length:=by omega
  refine af (It.item hh st R sd (aC hlt) fun u s₁ S1 tk1 R1 ru mid=>?_);have gg:=It.go (A:=A) (E:=fun z_ z_=>True) (target:=.Name (Str.ofString "x") default) (Q:=fun z_ s'=>s'=s₁→St (i+1) ρ s₁.heap) (fun e=>by exact bF e) mid R1 fun s' z_ z_ z_ st' e=>e▸st';refine rQ (m:=_) gg (fun e=>e rfl) fun st1=>?_;refine af (a9 (q8 It hh n (i+1) s₁ _ (by omega) st1 R1 sd fun ys s₂ S2 tk2 R2 ry st2=>ak ?_));refine hQ (u::ys) s₂ (S1.trans S2) (tk1.trans tk2) R2 ?_ st2;rw [List.drop_eq_getElem_cons hlt];exact .cons (ru.mono tk2 (aB _)) ry
end
theorem sZ{Qb:Bool→Shared→Prop}(R:bJ W s.heap ρ σ)(ra:aK W s.heap ρ a x)(h:fP σ a=some l)(hQ:Qb false s):wpAny (model W.prog W.w) A (notIterableAtAll x) Qb Er s:=by
 refine mQ (M:=fun a=>aK W s.heap ρ a x→_) h (fun ra=>?_) (fun n e ra=>?_) ra
 ·refine cp ra.E fun ad o items ek q ho hc hd hx hr=>?_;subst q;exact af (wpAny_specialOf (T:="tuple") ⟨o,ho,hc⟩ F.slot_tuple_iter.lookup (ak hQ))
 ·refine bt (R.list_at ra e) fun p ad ep hp1 hp2 y items ek ho hr hzz=>?_;subst y;exact af (wpAny_specialOf (T:="list") ⟨_,ho,rfl⟩ F.slot_list_iter.lookup (ak hQ))
set_option tactic.hygienic true in
theorem mW{Q':List Value→Shared→Prop}(X:eB W P fa mg mb C k A)(R:bJ W s.heap ρ σ)(ra:aK W s.heap ρ a x)(h:fP σ a=some l)
  (hQ:∀ys s',bp gF ρ s ρ s'→bJ W s'.heap ρ σ→aZ W s'.heap ρ l ys→Q' ys s'):wpAny (model W.prog W.w) A (unpackItems x l.length none) Q' Er s:=by
 have hi:∃ns,dm .over [a] σ=some (l,ns):=mQ (M:=fun a=>∃ns,dm .over [a] σ=some (l,ns)) h ⟨[],rfl⟩ fun n e=>⟨[n],cZ e⟩
 refine xe hi fun ns hi=>?_;have rd:qK W s.heap.objs.size ρ σ s false l ns x:=qf X.ok.wok.sys R (ax _) ra hi;refine af (sZ R ra h ?_);dsimp only [Bool.false_eq_true,if_false];refine af (a9 (rd A _ _ X.hh fun I s₁ own St Mid S1 R1 It st ho=>?_));refine af (a9 (q8 It X.hh l.length 0 s₁ _ (by omega) st R1 (fun n z_=>rfl) fun ys s₂ S2 tk2 R2 ry st2=>?_));rw [List.drop_zero] at ry;have hl:ys.length=l.length:=ry.length;rw [if_neg (by omega)];refine af (a9 (It.done X.hh st2 R2 (fun n z_=>rfl) fun s₃ S3 tk3 R3=>?_));dsimp only [Option.isSome_none,Bool.false_eq_true,if_false];refine ak (hQ ys s₃ ?_ R3 (ry.mono tk3 (aB _)));exact (S1.any.trans (S2.trans S3)).drop fun a ha=>.inr (ho a ha)
theorem kC{x:String}{xs:List String}{ts:List Expr}{M:List Expr→Prop}(hc:hJ nm (x::xs) ts=true)(k:∀p ts,iZ nm (Str.ofString x)=true→hJ nm xs ts=true→M (.Name (Str.ofString x) p::ts)):M ts :=
 bI hc ft fun t ts hc=>have hc:=aG hc
  dc (M:=fun t=>M (t::ts)) hc.1 ft fun id p h=>have h:=aG h
   th (M:=fun id=>iZ nm id=true→M (.Name id p::ts)) (eq_of_beq h.1) (fun h1=>k p ts h1 hc.2) h.2
theorem ve:∀{xs:List String} {ts:List Expr} {l:List V} {ys:List Value} {loc loc':Loc} {s:Shared} {Q':Unit→Shared→Prop},hJ nm xs ts=true→env.scope.names=nm→bv W env loc ρ s.heap→bJ W s.heap ρ σ→aZ W s.heap ρ l ys→gu xs l loc=some loc'→
  (∀s',bp (dC env) ρ s ρ s'→bJ W s'.heap ρ σ→bv W env loc' ρ s'.heap→Q' () s')→wpAny (model W.prog W.w) A (assignInOrder ((assignEach ts env).map (·.2)) ys) Q' Er s:=by
 intro xs
 induction xs with
 | nil =>
  intro ts l ys loc loc' s Q' hc hn O R r h hQ;refine bE (M:=fun ts=>wpAny _ _ (assignInOrder ((assignEach ts env).map (·.2)) ys) _ _ _) hc ft fun z_=>?_
  cases l with
  | cons _ _=>exact ca h
  | nil=>cases h;exact ak (hQ s (bp.refl ..) R O)
 | cons x xs ih =>
  intro ts l ys loc loc' s Q' hc hn O R r h hQ
  cases l with
  | nil=>exact ca h
  | cons v l =>
  refine kC (M:=fun ts=>wpAny _ _ (assignInOrder ((assignEach ts env).map (·.2)) ys) _ _ _) hc fun p ts h1 h2=>?_;refine cS r.E fun y ys q rv rl=>?_;subst q;refine af (a9 (wpAny_assign_Name (O.store R rv (i4 hn h1) fun s₁ S tk R1 O1=>?_)));exact ih h2 hn O1 R1 (rl.mono tk (aB _)) h fun s₂ S2 R2 O2=>hQ s₂ (S.trans S2) R2 O2
theorem pt:∀{xs:List String} {ts:List Expr},hJ nm xs ts=true→(assignEach ts env).length=xs.length∧(assignEach ts env).findIdx? (·.1)=none
 | [],ts,hc=>bE (M:=fun ts=>(assignEach ts env).length=0∧(assignEach ts env).findIdx? (·.1)=none) hc ft fun z_=>⟨rfl,rfl⟩
 | x::xs,ts,hc=>kC (M:=fun ts=>(assignEach ts env).length=xs.length+1∧(assignEach ts env).findIdx? (·.1)=none) hc fun p ts z_ h=>by
  have h:=pt h;refine ⟨congrArg Nat.succ h.1,?_⟩;show List.findIdx? _ ((false,_)::assignEach ts env)=none;rw [List.findIdx?_cons,h.2];rfl
theorem jJ:∀{xs:List String} {l:List V} {loc loc':Loc},gu xs l loc=some loc'→l.length=xs.length
 | [],[],_,_,_=>rfl
 | x::xs,v::vs,loc,loc',h=>congrArg Nat.succ (jJ (xs:=xs) h)
 | [],_::_,_,_,h=>ca h
 | _::_,[],_,_,h=>ca h
theorem mh{xs:List String}{ts:List Expr}{kk:Nat}{p:Pos}{Q':Unit→Shared→Prop}(X:eB W P fa mg mb C k A)(hc:hJ nm xs ts=true)(hn:env.scope.names=nm)(O:bv W env loc ρ s.heap)(R:bJ W s.heap ρ σ)(ra:aK W s.heap ρ a x)(hs:fP σ a=some l)(h:gu xs l loc=some loc')
  (hQ:∀s',bp (dC env) ρ s ρ s'→bJ W s'.heap ρ σ→bv W env loc' ρ s'.heap→Q' () s'):wpAny (model W.prog W.w) A (assign (.Tuple ts kk p) env x) Q' Er s:=by
 refine xa (pt (env:=env) hc) fun h1 h2=>?_;rw [arm_assign_Tuple];refine af (wpAny_standAt ?_);delta unpack;rw [h1,h2,←jJ h];refine af (a9 (mW X R ra hs fun ys s₁ S R1 r=>?_));exact ve hc hn (O.step0 R S) R1 r h fun s₂ S2 R2 O2=>hQ s₂ (S.any.trans S2) R2 O2
end
noncomputable def Iq(W:Wd)(h:Heap)(ρ:Rho):Flow→Fl→Prop
 | .next,.next=>True
 | .cont,.cont=>True
 | .ret v,.ret a=>aK W h ρ a v
 | _,_=>False
noncomputable def jZ(W:Wd)(env:Env)(ρ:Rho)(s:Shared)(Q:Fl→Loc→Hp→Prop)(f:Flow)(s':Shared):Prop :=
 ∃ρ' σ' loc' fl,bp (dC env) ρ s ρ' s'∧bJ W s'.heap ρ' σ'∧bv W env loc' ρ' s'.heap∧Iq W s'.heap ρ' f fl∧Q fl loc' σ'
noncomputable def Fm(W:Wd)(env:Env)(ρ:Rho)(s:Shared)(Q:Loc→Hp→Prop)(s':Shared):Prop :=
 ∃ρ' σ' loc',bp (dC env) ρ s ρ' s'∧bJ W s'.heap ρ' σ'∧bv W env loc' ρ' s'.heap∧Q loc' σ'
section
variable{P:gB}{k:Nat}{c:V}
theorem jZ.trans{Q:Fl→Loc→Hp→Prop}{f:Flow}{s₁:Shared}(S:bp (dC env) ρ s ρ' s₁)(h:jZ W env ρ' s₁ Q f s'):jZ W env ρ s Q f s':=by
 refine dk h fun ρ'' σ' loc' fl h1 h2 h3 h4 h5=>?_;exact ⟨ρ'',σ',loc',fl,S.trans h1,h2,h3,h4,h5⟩
theorem Fm.next{Q:Fl→Loc→Hp→Prop}(h:Fm W env ρ s (fun loc σ=>Q .next loc σ) s'):jZ W env ρ s Q .next s':=by
 refine cK h fun ρ'' σ' loc' h1 h2 h3 h4=>?_;exact ⟨ρ'',σ',loc',.next,h1,h2,h3,trivial,h4⟩
theorem D8(X:eB W P fa mg mb C k A){t:T}{tg:Expr}{Q:Loc→Hp→Prop}(hc:pg P nm t tg=true)(hn:env.scope.names=nm)(O:bv W env loc ρ s.heap)(R:bJ W s.heap ρ σ)(rv:aK W s.heap ρ v y)(h:GG C t v loc σ Q) :
  wpAny (model W.prog W.w) A (assign tg env y) (fun z_ s'=>Fm W env ρ s Q s') Er s:=by
 cases t with
 | name x =>
  refine dc (M:=fun tg=>wpAny _ _ (assign tg env y) _ _ _) hc ft fun id p hc=>?_;have hc:=aG hc;cases eq_of_beq hc.1;exact wpAny_assign_Name (O.store R rv (i4 hn hc.2) fun s₁ S tk R1 O1=>⟨ρ,σ,_,S,R1,O1,h⟩)
 | attr e at' =>
  refine cI (M:=fun tg=>wpAny _ _ (assign tg env y) _ _ _) hc ft fun o n p hc=>?_;have h2:=aG hc;have h1:=aG h2.1;cases eq_of_beq h1.1;rw [arm_assign_Attribute];refine af (a9 (jH (di X e h2.2 hn O R h) (fun ρ₁ σ₁ u ov s₁ S R₁ tk ru h₁=>zc h₁ fun n cl l e0 e1 hz hq=>?_) R));subst e0;refine af (wpAny_standAt (af (a9 (wZ (b:=v) X.ok.wok (pP h1.2) R₁ ru (rv.mono tk S.pre) e1 hz fun h' t R₂ S₂=>wpAny_release ?_))));have S12:=S.trans S₂;exact ⟨ρ₁,_,loc,S12.any,R₂,O.step0 R S12,hq⟩
 | sub e i =>
  refine dN (M:=fun tg=>wpAny _ _ (assign tg env y) _ _ _) hc ft fun o sl p hc=>?_;have hc:=aG hc;rw [arm_assign_Subscript];refine af (a9 (jH (di X e hc.1 hn O R h) (fun ρ₁ σ₁ u ov s₁ S R₁ tk ru h₁=>?_) R));refine af (a9 (jH (di X i hc.2 hn (O.step0 R S) R₁ h₁) (fun ρ₂ σ₂ j iv s₂ S₂ R₂ tk2 rj h₂=>?_) R₁));have S12:=S.trans S₂;refine af (wpAny_standAt (af (a9 (Ac (u:=.none) X.ok.wok X.room R₂ (ru.mono tk2 S₂.pre) rj (rv.mono (tk.trans tk2) S12.pre) h₂ fun h' t σ' S₃ R₃ hq=>wpAny_release ?_))));have S13:=S12.trans S₃;exact ⟨ρ₂,σ',loc,S13.any,R₃,O.step0 R S13,hq⟩
 | names xs =>
  refine fm (M:=fun tg=>wpAny _ _ (assign tg env y) _ _ _) hc ft fun ts kk p hc=>bZ h fun l h1 h=>bZ h fun loc' h2 hq=>?_;exact mh X (aG hc).2 hn O R rv h1 h2 fun s₁ S R1 O1=>⟨ρ,σ,loc',S,R1,O1,hq⟩
 | _=>exact bF hc
theorem AO{t:T}{tg:Expr}(hc:pg P nm t tg=true){v:Value}:assignAll v ((assignEach [tg] env).map (·.2))=assign tg env v:=by
 cases t with
 | name x=>exact dc (M:=fun tg=>assignAll v ((assignEach [tg] env).map (·.2))=assign tg env v) hc ft fun z_ z_ z_=>rfl
 | attr e n=>exact cI (M:=fun tg=>assignAll v ((assignEach [tg] env).map (·.2))=assign tg env v) hc ft fun z_ z_ z_ z_=>rfl
 | sub e i=>exact dN (M:=fun tg=>assignAll v ((assignEach [tg] env).map (·.2))=assign tg env v) hc ft fun z_ z_ z_ z_=>rfl
 | names xs=>exact fm (M:=fun tg=>assignAll v ((assignEach [tg] env).map (·.2))=assign tg env v) hc ft fun z_ z_ z_ z_=>rfl
 | _=>exact bF hc
theorem y0{c:Prop} [Decidable c]{a b:α}{M:α→Prop}(h1:c→M a)(h2:¬c→M b):M (if c then a else b):=if h:c then by rw [if_pos h];exact h1 h else by rw [if_neg h];exact h2 h
theorem DR{a b:Nat}(h:(a !=b)=true→False):a=b:=Decidable.byContradiction fun e=>h (bne_iff_ne.2 e)
theorem mr{f:Expr→Option Str}(hf:∀id p,f (.Name id p)=some id∨f (.Name id p)=none):∀{xs:List String} {ts:List Expr},hJ nm xs ts=true→(ts.filterMap f).length=ts.length→ts.filterMap f=xs.map Str.ofString
 | [],ts,hc,_=>bE (M:=fun ts=>ts.filterMap f=[]) hc ft fun z_=>rfl
 | x::xs,ts,hc,hl=>kC (M:=fun ts=>(ts.filterMap f).length=ts.length→ts.filterMap f=Str.ofString x::xs.map Str.ofString) hc (fun p ts z_ h hl=>by
   rcases hf (Str.ofString x) p with e | e
   ·rw [List.filterMap_cons_some e] at hl ⊢;rw [mr hf h (Nat.succ.inj hl)]
   ·rw [List.filterMap_cons_none e,List.length_cons] at hl;exact absurd (List.length_filterMap_le f ts) (by rw [hl];exact Nat.not_succ_le_self _)) hl
theorem xf{xs:List String}{ts:List Expr}{kk:Nat}{p:Pos}{v:Expr}(hc:hJ nm xs ts=true)(hf:pQ (.Tuple ts kk p) v=true) :
  ∃r,swappedStores [.Tuple ts kk p] v env=pure r∧(r=none∨r=some (xs.map Str.ofString)):=by
 rcases Classical.em (v.ctorIdx=25) with q | q
 ·refine Expr.Tuple.elim (motive_1:=fun v=>pQ (.Tuple ts kk p) v=true→∃r,swappedStores [.Tuple ts kk p] v env=pure r∧(r=none∨r=some (xs.map Str.ofString))) v q (fun vs k2 p2 hf=>?_) hf;refine y0 (M:=fun m=>∃r,m=pure r∧(r=none∨r=some (xs.map Str.ofString))) (fun z_=>⟨none,rfl,.inl rfl⟩) fun z_=>?_;refine y0 (M:=fun m=>∃r,m=pure r∧(r=none∨r=some (xs.map Str.ofString))) (fun z_=>⟨none,rfl,.inl rfl⟩) fun z_=>?_;refine y0 (M:=fun m=>∃r,m=pure r∧(r=none∨r=some (xs.map Str.ofString))) (fun z_=>⟨none,rfl,.inl rfl⟩) fun h3=>?_;refine y0 (M:=fun m=>∃r,m=pure r∧(r=none∨r=some (xs.map Str.ofString))) (fun z_=>⟨none,rfl,.inl rfl⟩) fun h4=>?_;refine y0 (M:=fun m=>∃r,m=pure r∧(r=none∨r=some (xs.map Str.ofString))) (fun h5=>?_) fun z_=>⟨_,rfl,.inr (congrArg some (mr (fun id p=>y0 (M:=fun m=>m=some id∨m=none) (fun z_=>.inl rfl) fun z_=>.inr rfl) hc ?_))⟩
  ·rcases cf.1 (aG hf).1 with h | h
   ·exact absurd h h4
   ·exact absurd h5 (ne_true_of_eq_false (lL h))
  ·exact DR (fun h=>h3 (Bool.or_eq_true_iff.2 (.inl h)))
 ·refine ⟨none,?_,.inl rfl⟩;cases v<;>first | rfl | exact absurd rfl q
end
noncomputable abbrev qy(W:Wd)(P:gB)(C:Hd)(A:Around)(st:S):Prop:=∀{x:Stmt} {nm:Nm} {env:Env} {loc:Loc} {ρ:Rho} {σ:Hp} {s:Shared} {Q:Fl→Loc→Hp→Prop} {Er:Value→Shared→Prop},
 GO P nm st x=true→env.scope.names=nm→bv W env loc ρ s.heap→bJ W s.heap ρ σ→ex C st loc σ Q→wpAny (model W.prog W.w) A (exec x env) (jZ W env ρ s Q) Er s
noncomputable abbrev j0(W:Wd)(P:gB)(C:Hd)(A:Around)(l:List S):Prop:=∀{xs:List Stmt} {nm:Nm} {env:Env} {loc:Loc} {ρ:Rho} {σ:Hp} {s:Shared} {Q:Fl→Loc→Hp→Prop} {Er:Value→Shared→Prop},
 k8 P nm l xs=true→env.scope.names=nm→bv W env loc ρ s.heap→bJ W s.heap ρ σ→dW C l loc σ Q→wpAny (model W.prog W.w) A (execs xs env) (jZ W env ρ s Q) Er s
section
variable{P:gB}{k:Nat}{c:V}
theorem AI{y:Expr}{gens:List Comprehension}{sc:Scope}{M:E→Prop}(h:cn P nm e (.ListComp y gens sc pos)=true)(k1:∀elt t k l ifs,M (.comp elt t k l ifs))(k2:∀elt t k l t' k' l' ifs,M (.comp2 elt t k l t' k' l' ifs)):M e:=by
 cases e with
 | comp elt t k l ifs=>exact k1 elt t k l ifs
 | comp2 elt t k l t' k' l' ifs=>exact k2 elt t k l t' k' l' ifs
 | const v=>cases v<;>exact absurd h ft
 | _=>exact absurd h ft
noncomputable def Sw(v tg:Expr)(line:Nat)(env:Env):Prop:=∃b,swapsWith v (some tg) line env=pure b∧(b=true→v.ctorIdx=8∧tg.ctorIdx=23)
theorem Fb{v tg:Expr}{line:Nat}(h:swapsWith v (some tg) line env=pure false):Sw v tg line env:=⟨false,h,bF⟩
theorem Cw{v tg:Expr}{line:Nat}(h:cn P nm e v=true):Sw v tg line env:=by
 have h:=nv h
 cases v with
 | ListComp y gens sc pos =>
  cases tg with
  | Name id p=>exact ⟨_,rfl,fun z_=>⟨rfl,rfl⟩⟩
  | _=>exact Fb rfl
 | SetComp | DictComp=>exact bF h
 | _=>exact Fb rfl
theorem kM{x y:String}{w:V}(h:x≠y):setL (setL loc x v) y w=setL (setL loc y w) x v:=by
 funext z
 delta setL;refine Or.elim (Classical.em (z=y)) (fun h1=>?_) (fun h1=>?_)
 ·subst h1;rw [if_pos rfl,if_neg (fun e=>h e.symm),if_pos rfl]
 ·rw [if_neg h1];refine Or.elim (Classical.em (z=x)) (fun h2=>?_) (fun h2=>?_)
  ·rw [if_pos h2,if_pos h2]
  ·rw [if_neg h2,if_neg h2,if_neg h1]
theorem s7{xs:List String}(hl:xs.length=2∨xs.length=3)(hd:xs.Nodup)(h:gu xs l loc=some loc'):gu xs.reverse l.reverse loc=some loc':=by
 rcases xs with _ | ⟨a,_ | ⟨b,xs⟩⟩
 ·exact hl.elim nofun nofun
 ·exact hl.elim nofun nofun
 rcases l with _ | ⟨u,_ | ⟨v,l⟩⟩
 ·exact ca h
 ·exact ca h
 have d:=List.nodup_cons.1 hd;have ab:a≠b:=fun e=>d.1 (e▸ai);rcases xs with _ | ⟨c,_ | ⟨_,_⟩⟩
 ·rcases l with _ | ⟨w,l⟩
  ·exact (congrArg some (kM (aU ab))).trans h
  ·exact ca h
 ·rcases l with _ | ⟨w,_ | ⟨_,_⟩⟩
  ·exact ca h
  ·have ac:a≠c:=fun e=>d.1 (e▸.tail _ (.head _));have bc:b≠c:=fun e=>(List.nodup_cons.1 d.2).1 (e▸.head _);refine (congrArg some ?_).trans h;rw [kM (x:=c) (y:=b) bc.symm,kM (x:=c) (y:=a) ac.symm,kM (x:=b) (y:=a) ab.symm]
  ·exact ca h
 ·exact hl.elim nofun nofun
theorem rz:∀{xs:List String} {ts:List Expr},hJ nm xs ts=true→∀x∈xs,iZ nm (Str.ofString x)=true
 | [],ts,hc,x,hx=>absurd hx an
 | x::xs,ts,hc,y,hy=>kC (M:=fun z_=>iZ nm (Str.ofString y)=true) hc fun p ts h1 h=>(aP.mp hy).elim (fun e=>e▸h1) (rz h y)
theorem o9:∀{xs:List String} {l:List V} {ys:List Value} {loc loc':Loc} {s:Shared} {Q':Unit→Shared→Prop},(∀x∈xs,iZ nm (Str.ofString x)=true)→env.scope.names=nm→bv W env loc ρ s.heap→bJ W s.heap ρ σ→aZ W s.heap ρ l ys→gu xs l loc=some loc'→
  (∀s',bp (dC env) ρ s ρ s'→bJ W s'.heap ρ σ→bv W env loc' ρ s'.heap→Q' () s')→wpAny (model W.prog W.w) A (assignInOrder ((xs.map Str.ofString).map fun n=>bindName env n) ys) Q' Er s
 | [],[],ys,loc,loc',s,Q',hc,hn,O,R,r,h,hQ=>by
  cases h;exact ak (hQ s (bp.refl ..) R O)
 | x::xs,v::l,ys,loc,loc',s,Q',hc,hn,O,R,r,h,hQ=>by
  refine cS r.E fun y ys q rv rl=>?_;subst q;refine af (a9 (wpAny_bindName (O.store R rv (i4 hn (hc x ai)) fun s₁ S tk R1 O1=>?_)));exact o9 (fun y hy=>hc y (aj _ hy)) hn O1 R1 (rl.mono tk (aB _)) h fun s₂ S2 R2 O2=>hQ s₂ (S.trans S2) R2 O2
 | [],_::_,_,_,_,_,_,_,_,_,_,_,h,_=>ca h
 | _::_,[],_,_,_,_,_,_,_,_,_,_,h,_=>ca h
theorem zQ{ys:List Value}(r:aZ W h ρ l ys):aZ W h ρ l.reverse ys.reverse :=
 r.ind (M:=fun l ys=>aZ W h ρ l.reverse ys.reverse) .nil fun x z_ m=>by rw [List.reverse_cons,List.reverse_cons];exact m.append (.cons x .nil)
theorem vR{t:T}{ts:List Expr}{kk:Nat}{p:Pos}{M:T→Prop}(h:pg P nm t (.Tuple ts kk p)=true)(k:∀xs:List String,xs.length=2∨xs.length=3→xs.Nodup→hJ nm xs ts=true→M (.names xs)):M t:=by
 cases t with
 | names xs =>
  have h1:=aG h;have h2:=aG h1.1;exact k xs (aF h2.1) (aF h2.2) h1.2
 | _=>exact absurd h ft
theorem yC{t:T}{id:Str}{p:Pos}{M:T→Str→Prop}(h:pg P nm t (.Name id p)=true)(k:∀x,iZ nm (Str.ofString x)=true→M (.name x) (Str.ofString x)):M t id:=by
 cases t with
 | name x =>
  have h:=aG h;cases eq_of_beq h.1;exact k x h.2
 | _=>exact absurd h ft
theorem AB(X:eB W P fa mg mb C k A){xn:String}{y:Expr}{gens:List Comprehension}{sc:Scope}{p pos':Pos}{Q:Fl→Loc→Hp→Prop}(h3:cn P nm e (.ListComp y gens sc pos')=true)(hv:iZ nm (Str.ofString xn)=true)(hn:env.scope.names=nm)(O:bv W env loc ρ s.heap)(R:bJ W s.heap ρ σ)
  (h:ev C e loc σ fun v σ=>Q .next (setL loc xn v) σ) :
  wpAny (model W.prog W.w) A (comprehension (.ListComp y gens sc pos') sc env (firstIterPos gens pos') (newList []) (firstAsync gens) (firstIter gens env) (some fun v=>assign (.Name (Str.ofString xn) p) env v)) (fun z_ s'=>jZ W env ρ s Q .next s') Er s:=by
 have hu:∀acc Ca s',tG W ρ s (fun v σ=>Q .next (setL loc xn v) σ) acc Ca s'→compPost (model W.prog W.w) A Er (some fun v=>assign (.Name (Str.ofString xn) p) env v) (fun z_ s'=>jZ W env ρ s Q .next s') acc Ca (.ok .next) s':=fun acc Ca s' hf=>by
  refine lU hf fun ρ₁ σ₁ u S R₁ ru hq r ap hCa=>?_;refine xe r fun m hm=>?_;have O1:=O.step0 R S;refine wpAny_assign_Name (O1.store R₁ ru (i4 hn hv) fun s₂ S2 tk2 R2 O2=>?_);have notOwn:¬dC env Ca:=fun q=>absurd (O.apart Ca q).2.1 (bS.mpr hCa);refine tw hm fun o es ep ho hd hk=>?_;have ho2:=S2.keep _ _ ho notOwn ap.2.2;refine ⟨m,⟨o,es,ep,ho2,hd,hk⟩,fun h' hs=>?_⟩;have ap2:cb W ρ₁ s₂.heap Ca:=ap.step S2;refine xa (R2.own' (O:=fun z=>z=Ca) (h':=h') (fun z e=>e▸ap2) (fun z o' e g=>by subst e;rw [ho2] at g;cases g;exact fun n=>xp n fun z_ z_ j=>xe j fun z_ q=>by rw [hd] at q;cases q) (fun b o hb e=>(hs.2 b hb).trans e) (by rw [hs.1];exact ax _)) fun tk3 R3=>?_;have S3:bp (fun z=>z=Ca) ρ₁ s₂ ρ₁ {s₂ with heap:=h'}:=bp.priv (X:=fun z=>z=Ca) (t:=s₂.toks) (fun b o hb e=>(hs.2 b hb).trans e) (by rw [hs.1];exact ax _);have O3:=O2.step S3 tk3 fun z hz e=>notOwn (e▸hz);have SS:bp (fun z=>dC env z∨z=Ca) ρ s ρ₁ {s₂ with heap:=h'}:=(S.any.trans (S2.weaken fun z hz=>.inl hz)).trans (S3.weaken fun z hz=>.inr hz);exact ⟨ρ₁,σ₁,_,.next,SS.drop fun z hz=>hz.imp id fun e=>by rw [e];exact hCa,R3,O3,trivial,hq⟩
 have kg:∀y' gens' sc' pos'',firstAsync gens'=false→wpAny (model W.prog W.w) A (comprehension (.ListComp y' gens' sc' pos'') sc' env (firstIterPos gens' pos'') (newList []) (firstAsync gens') (firstIter gens' env) (some fun v=>assign (.Name (Str.ofString xn) p) env v)) (fun z_ s'=>jZ W env ρ s Q .next s') Er s→Expr.ListComp y gens sc pos'=.ListComp y' gens' sc' pos''→_:=fun y' gens' sc' pos'' z_ hw e=>by
  cases e;exact hw
 exact AI (M:=fun e=>cn P nm e _=true→ev C e loc σ _→_) h3
  (fun elt t kk l ifs h3 h=>t4 (MG:=fun x=>Expr.ListComp y gens sc pos'=x→_) X (fun e z_=>di X e) (di X elt) (rI X ifs) h3 hn O R h hu kg rfl)
  (fun elt t kk l t' kk' l' ifs h3 h=>q0 (MG:=fun x=>Expr.ListComp y gens sc pos'=x→_) X (fun e z_=>di X e) (fun e z_=>di X e) (di X elt) (rI X ifs) h3 hn O R h hu kg rfl) h3 h
end
section
variable{P:gB}{k:Nat}{c:V}
theorem DQ{t:T}{tg v:Expr}(hc:pg P nm t tg=true)(h:tg.ctorIdx≠25):swappedStores [tg] v env=pure none:=by
 have h1:tg.ctorIdx≠24:=fun q=>by
  refine Expr.List.elim (motive_1:=fun tg=>pg P nm t tg=true→False) tg q (fun z_ z_ hc=>?_) hc;cases t<;>exact absurd hc ft
 clear hc;cases tg<;>first | rfl | exact absurd rfl h | exact absurd rfl h1
theorem w7(X:eB W P fa mg mb C k A){t:T}{tg v:Expr}{u:V}{Q:Fl→Loc→Hp→Prop}(h1:pg P nm t tg=true)(h2:pQ tg v=true)(hn:env.scope.names=nm)(O:bv W env loc ρ s.heap)(R:bJ W s.heap ρ σ)(ru:aK W s.heap ρ u y)(h:GG C t u loc σ (Q .next)) :
  wpAny (model W.prog W.w) A (do assignStores env y (←swappedStores [tg] v env) ((assignEach [tg] env).map (·.2))) (jZ W env ρ s Q) Er s:=by
 have plain:wpAny (model W.prog W.w) A (do assignAll y ((assignEach [tg] env).map (·.2));pure Flow.next) (jZ W env ρ s Q) Er s:=by
  rw [AO h1];exact af (aH (D8 X h1 hn O R ru h) (fun z_ s₂ o=>ak o.next) fun z_ z_ e=>e)
 refine Or.elim (Classical.em (tg.ctorIdx=25)) (fun ht=>?_) (fun ht=>?_)
 ·refine Expr.Tuple.elim (motive_1:=fun tg=>pg P nm t tg=true→pQ tg v=true→wpAny _ _ (do assignAll y ((assignEach [tg] env).map (·.2));pure Flow.next) _ _ _→wpAny _ _ (do assignStores env y (←swappedStores [tg] v env) ((assignEach [tg] env).map (·.2))) _ _ _) tg ht (fun ts kk p h1 h2 plain=>?_) h1 h2 plain;refine vR (M:=fun t=>GG C t u loc σ (Q .next)→wpAny _ _ (do assignStores env y (←swappedStores [.Tuple ts kk p] v env) ((assignEach [.Tuple ts kk p] env).map (·.2))) _ _ _) h1 (fun xs hl hd hns h=>?_) h;refine bG (xf (v:=v) (env:=env) (kk:=kk) (p:=p) hns h2) fun r hr hr'=>?_;refine af (wpAny_of_eq hr ?_);rcases hr' with rfl | rfl
  ·exact plain
  ·refine bZ h fun l g1 h=>bZ h fun loc' g2 hq=>?_;show wpAny _ _ (do
    rule "assign.swapped-stores"
    let items ←unpackItems y (xs.map Str.ofString).length none
    assignInOrder ((xs.map Str.ofString).reverse.map fun n=>bindName env n) items.reverse
    pure Flow.next) _ _ _
   refine af (wpAny_rule (af ?_));rw [aJ,←jJ g2];refine mW X R ru g1 fun ys s₂ S2 R2 r=>?_;rw [←List.map_reverse];exact af (o9 (fun x hx=>rz hns x (List.mem_reverse.mp hx)) hn (O.step0 R S2) R2 (zQ r) (s7 hl hd g2) fun s₃ S3 R3 O3=>ak ⟨ρ,σ,loc',.next,S2.any.trans S3,R3,O3,trivial,hq⟩)
 ·exact af (wpAny_of_eq (a:=none) (DQ h1 ht) plain)
theorem Ce(X:eB W P fa mg mb C k A){t:T}{tg v:Expr}{Q:Fl→Loc→Hp→Prop}(h1:pg P nm t tg=true)(h3:cn P nm e v=true)(q1:v.ctorIdx=8)(q2:tg.ctorIdx=23)(hn:env.scope.names=nm)(O:bv W env loc ρ s.heap)(R:bJ W s.heap ρ σ)(h:ev C e loc σ (wi C t Q loc)) :
  wpAny (model W.prog W.w) A (do evalThenUse v env fun w=>assignAll w ((assignEach [tg] env).map (·.2));pure Flow.next) (jZ W env ρ s Q) Er s:=by
 refine Expr.ListComp.elim (motive_1:=fun v=>cn P nm e v=true→wpAny _ _ (do evalThenUse v env fun w=>assignAll w ((assignEach [tg] env).map (·.2));pure Flow.next) _ _ _) v q1 (fun y gens sc pos' h3=>?_) h3;refine Expr.Name.elim (motive_1:=fun tg=>pg P nm t tg=true→wpAny _ _ (do evalThenUse _ env fun w=>assignAll w ((assignEach [tg] env).map (·.2));pure Flow.next) _ _ _) tg q2 (fun id p h1=>?_) h1;refine yC (M:=fun t id=>ev C e loc σ (wi C t Q loc)→wpAny _ _ (do evalThenUse _ env fun w=>assignAll w ((assignEach [.Name id p] env).map (·.2));pure Flow.next) _ _ _) h1 (fun xn hv h=>?_) h;show wpAny _ _ (do
  (do let _ ←comprehension (.ListComp y gens sc pos') sc env (firstIterPos gens pos') (newList []) (firstAsync gens) (firstIter gens env) (some fun v=>assign (.Name (Str.ofString xn) p) env v))
  pure Flow.next) _ _ _
 exact af (af (aH (AB (Er:=Er) (p:=p) X h3 hv hn O R h) (fun z_ s₂ o=>ak (ak o)) fun z_ z_ e=>e))
theorem w5(X:eB W P fa mg mb C k A){t:T}:qy W P C A (.assign t e):=fun {x nm env loc ρ σ s Q Er} hc hn O R h=>by
 refine qF (M:=fun x=>wpAny _ _ (exec x env) _ _ _) hc ft fun ts v pos hc=>bI (M:=fun ts=>wpAny _ _ (exec (.Assign ts v pos) env) _ _ _) hc ft fun tg r hc=>bE (M:=fun r=>wpAny _ _ (exec (.Assign (tg::r) v pos) env) _ _ _) hc ft fun hc=>?_;have h3:=aG hc;have h1:=aG h3.1;refine bG (Cw (env:=env) (tg:=tg) (line:=pos.line) h3.2) fun b hb hb'=>?_;rw [arm_exec_Assign];refine af (wpAny_standAt (af (wpAny_of_eq (a:=b) (show swapsWithSole [tg] v pos.line env=pure b from hb) ?_)))
 cases b with
 | false =>
  exact af (jH (di X e h3.2 hn O R h) (fun ρ₁ σ₁ u y s₁ S R₁ z_ ru h₁=>aH (w7 X h1.1 h1.2 hn (O.step0 R S) R₁ ru h₁) (fun z_ z_ o=>o.trans S.any) fun z_ z_ e=>e) R)
 | true=>exact Ce X h1.1 h3.2 (hb' rfl).1 (hb' rfl).2 hn O R h
theorem Cd(X:eB W P fa mg mb C k A):qy W P C A (.expr e):=fun {x nm env loc ρ σ s Q Er} hc hn O R h=>by
 refine uP (M:=fun x=>wpAny _ _ (exec x env) _ _ _) hc ft fun v pos hc=>?_;have hc:=aG hc;rw [arm_exec_Expr];have hi:interactive env=false:=by unfold interactive;rw [O.kind];rfl
 have hsw:swapsWith v none pos.line env=pure false:=fZ (M:=fun v=>swapsWith v none pos.line env=pure false) hc.1 ft fun z_ z_ z_ z_ z_=>rfl;refine af (wpAny_standAt ?_);rw [hi,if_neg (by decide)];refine af (wpAny_of_eq hsw ?_);rw [if_neg (by decide)];refine af (jH (di X e hc.2 hn O R h) (fun ρ₁ σ₁ u y s₁ S R₁ z_ ru h₁=>?_) R);exact wpAny_dropValue ⟨ρ₁,σ₁,loc,.next,S.any,R₁,O.step0 R S,trivial,h₁⟩
theorem Eh(X:eB W P fa mg mb C k A):qy W P C A (.ret e):=fun {x nm env loc ρ σ s Q Er} hc hn O R h=>by
 refine qG (M:=fun x=>wpAny _ _ (exec x env) _ _ _) hc ft fun v pos hc=>?_
 cases v with
 | some v=>exact wpAny_Return_some (jH (di X e hc hn O R h) (fun ρ₁ σ₁ u y s₁ S R₁ z_ ru h₁=>⟨ρ₁,σ₁,loc,.ret u,S.any,R₁,O.step0 R S,ru,h₁⟩) R)
 | none =>
  cases ur hc;exact wpAny_Return_none ⟨ρ,σ,loc,.ret .none,bp.refl ..,R,O,.none,h⟩
theorem Cb:qy W P C A .cont:=fun {x nm env loc ρ σ s Q Er} hc hn O R h =>
 oE (M:=fun x=>wpAny _ _ (exec x env) _ _ _) hc ft fun z_ z_=>wpAny_Continue ⟨ρ,σ,loc,.cont,bp.refl ..,R,O,trivial,h⟩
theorem zV:qy W P C A .stuck:=fun {x nm env loc ρ σ s Q Er} hc hn O R h=>h.elim
theorem Gi(X:eB W P fa mg mb C k A){c:E}{a b:List S}(iha:j0 W P C A a)(ihb:j0 W P C A b):qy W P C A (.ite c a b):=fun {x nm env loc ρ σ s Q Er} hc hn O R h=>by
 refine zA (M:=fun x=>wpAny _ _ (exec x env) _ _ _) hc ft fun t y z pos hc=>?_;have h3:=aG hc;have h1:=aG h3.1;refine wpAny_If (aH (s8 X c h1.1 hn O R h) (fun r s₁ q=>cS q fun ρ₁ σ₁ S R₁ hq=>?_) fun z_ z_ e=>e)
 cases r with
 | true=>exact aH (iha h1.2 hn (O.step0 R S) R₁ hq) (fun z_ z_ o=>o.trans S.any) fun z_ z_ e=>e
 | false=>exact aH (ihb h3.2 hn (O.step0 R S) R₁ hq) (fun z_ z_ o=>o.trans S.any) fun z_ z_ e=>e
theorem Gl:j0 W P C A []:=fun {xs nm env loc ρ σ s Q Er} hc hn O R h =>
 bE (M:=fun xs=>wpAny _ _ (execs xs env) _ _ _) hc ft fun z_=>wpAny_execs_nil ⟨ρ,σ,loc,.next,bp.refl ..,R,O,trivial,h⟩
theorem Ek{st:S}{l:List S}(ih:qy W P C A st)(ihl:j0 W P C A l):j0 W P C A (st::l):=fun {xs nm env loc ρ σ s Q Er} hc hn O R h=>by
 refine Or.elim (cf.1 hc) (fun hc=>?_) (fun hc=>?_)
 ·exact S.stuck.elim (motive_1:=fun st=>dW C (st::l) loc σ Q→_) st (eq_of_beq hc) (fun h=>h.elim) h
 refine bI (M:=fun xs=>wpAny _ _ (execs xs env) _ _ _) hc ft fun x xs hc=>?_;have hc:=aG hc;refine wpAny_execs_cons (aH (ih hc.1 hn O R h) (fun f s₁ q=>dk q fun ρ₁ σ₁ loc₁ fl S R₁ O₁ hf hq=>?_) fun z_ z_ e=>e);cases f<;>cases fl<;>(try (exact hf.elim))
 ·exact aH (ihl hc.2 hn O₁ R₁ hq) (fun z_ z_ o=>o.trans S) fun z_ z_ e=>e
 ·exact ⟨ρ₁,σ₁,loc₁,.cont,S,R₁,O₁,trivial,hq⟩
 ·exact ⟨ρ₁,σ₁,loc₁,.ret _,S,R₁,O₁,hf,hq⟩
theorem zW(X:eB W P fa mg mb C k A){c:E}{b:List S}(ihb:j0 W P C A b):qy W P C A (.whil c b):=fun {x nm env loc ρ σ s Q Er} hc hn O R h=>by
 refine sO (M:=fun x=>wpAny _ _ (exec x env) _ _ _) hc ft fun t y z pos hc=>bE (M:=fun z=>wpAny _ _ (exec (.While t y z pos) env) _ _ _) hc ft fun hc=>?_
 ·have hc:=aG hc;refine xe h fun n h=>?_;refine wpAny_While (codeAny_whileLoop (fun n' s'=>∃ρ' σ' loc',bp (dC env) ρ s ρ' s'∧bJ W s'.heap ρ' σ'∧bv W env loc' ρ' s'.heap∧jL (tF C c) (dW C b) n' loc' σ' Q) (fun n' s' q=>cK q fun ρ₁ σ₁ loc₁ S R₁ O₁ h₁=>?_) n ⟨ρ,σ,loc,bp.refl ..,R,O,h⟩)
  cases n' with
  | zero=>exact h₁.elim
  | succ m =>
   unfold jL at h₁;refine aH (s8 X c hc.1 hn O₁ R₁ h₁) (fun r s₂ w=>cS w fun ρ₂ σ₂ S₂ R₂ hq=>?_) fun z_ z_ e=>e;have S12:=S.trans (S₂.any (Y:=dC env));have O₂:=O₁.step0 R₁ S₂
   cases r with
   | false=>exact wpAny_execs_nil ⟨ρ₂,σ₂,loc₁,.next,S12,R₂,O₂,trivial,hq⟩
   | true =>
    rw [if_pos rfl];refine aH (ihb hc.2 hn O₂ R₂ hq) (fun f s₃ u=>dk u fun ρ₃ σ₃ loc₃ fl S₃ R₃ O₃ hf hq₃=>?_) fun z_ z_ e=>e;cases f<;>cases fl<;>(try (exact hf.elim))
    ·exact ⟨m,bY _,ρ₃,σ₃,loc₃,S12.trans S₃,R₃,O₃,hq₃⟩
    ·exact ⟨m,bY _,ρ₃,σ₃,loc₃,S12.trans S₃,R₃,O₃,hq₃⟩
    ·exact ⟨ρ₃,σ₃,loc₃,.ret _,S12.trans S₃,R₃,O₃,hf,hq₃⟩
end
theorem CK{l:Addr}{xs:Array Value}{o:Obj}(x:h.IsTuple l xs):(h.push o).IsTuple l xs:=let ⟨ob,h1,r⟩:=x;⟨ob,aA _ h1,r⟩
section
variable{prog:Program}{w:World}{E:Value→Shared→Prop}
theorem qu{z TI TO i1 i2 l1 l2:Addr}{k1 k2:Nat}{xs ys:Array Value}{a b:Value}{Q:Value→Shared→Prop}(D:ZipApart z TI TO i1 i2 l1 l2)
  (hz:IsZip s.heap z TI TO .none) (hTI:IsPair s.heap TI (.ref i1) (.ref i2)) (hTO:IsPair s.heap TO a b)
  (h1:s.heap.IsTupleIter i1 l1 k1) (h2:s.heap.IsTupleIter i2 l2 k2) (hl1:s.heap.IsTuple l1 xs) (hl2:s.heap.IsTuple l2 ys) (hx:xs[k1]?=some x) (hy:ys[k2]?=some y)
  (hQ:∀h',IsZip h' z TI TO (rawInt s.heap.objs.size)→IsPair h' TO x y→h'.IsTupleIter i1 l1 (k1+1)→h'.IsTupleIter i2 l2 (k2+1)→IsPair h' s.heap.objs.size x y→h'.objs.size=s.heap.objs.size+1→
   (∀c o,c≠z→c≠TO→c≠i1→c≠i2→s.heap.get? c=some o→h'.get? c=some o)→Q (.ref s.heap.objs.size) {s with heap:=h'}) :
  wpAny (model prog w) A (Builtin.«zip.__next__» ⟨[.ref z],[]⟩) (fun fin s'=>∃v,fin=.done (.ret v)∧Q v s') E s:=by
 show wpAny _ _ (field (.ref z) 2 >>=_) _ _ _;refine af (wpAny_field hz rfl (x:=.bool false) rfl ?_);refine af (wpAny_field hz rfl (x:=.ref TI) rfl ?_);refine af (wpAny_seqItems hTI rfl ?_);refine af ?_;refine af (wpAny_field hz rfl (x:=.none) rfl (ak ?_));dsimp only [if_true];refine af (wpAny_rule ?_);refine af (wpAny_field hz rfl (x:=.ref TO) rfl ?_);refine af (wpAny_setField_rec hz (by simp) fun h₁ hz₁ hs₁=>?_)
 replace hz₁:IsZip h₁ z TI TO .ellipsis:=hz₁
 refine af ?_;dsimp only [List.zipIdx_cons,List.zipIdx_nil,List.forIn_cons,List.forIn_nil];refine af (af (wpAny_onRaise ?_));refine af (ec (h1.extBut hs₁.extBut D.i1z) (hl1.extBut hs₁.extBut D.l1z) hx fun h₂ h1₂ hs₂=>ak ?_);have hTO₂:IsPair h₂ TO a b:=hs₂.extBut _ _ D.TOi1 (hs₁.extBut _ _ D.TOz hTO);refine af (wpAny_seqItems hTO₂ rfl ?_);refine af (wpAny_updateSeq_pair hTO₂ fun h₃ hTO₃ hs₃=>?_)
 replace hTO₃:IsPair h₃ TO x b:=hTO₃
 refine af (wpAny_letGo (ak ?_));refine af (af (wpAny_onRaise ?_));refine af (ec (((h2.extBut hs₁.extBut D.i2z).extBut hs₂.extBut D.i12.symm).extBut hs₃.extBut D.TOi2.symm)
  (((hl2.extBut hs₁.extBut D.l2z).extBut hs₂.extBut D.l2i1).extBut hs₃.extBut D.l2TO) hy fun h₄ h2₄ hs₄=>ak ?_)
 have hTO₄:IsPair h₄ TO x b:=hs₄.extBut _ _ D.TOi2 hTO₃;refine af (wpAny_seqItems hTO₄ rfl ?_);refine af (wpAny_updateSeq_pair hTO₄ fun h₅ hTO₅ hs₅=>?_)
 replace hTO₅:IsPair h₅ TO x y:=hTO₅
 refine af (wpAny_letGo (ak (ak ?_)));refine af (wpAny_seqItems hTO₅ rfl ?_);refine af (wpAny_newTuple ?_);have eK:h₅.objs.size=s.heap.objs.size:=by rw [hs₅.1,hs₄.1,hs₃.1,hs₂.1,hs₁.1]
 have hz₅:IsZip h₅ z TI TO .ellipsis:=hs₅.extBut _ _ D.TOz.symm (hs₄.extBut _ _ D.i2z.symm (hs₃.extBut _ _ D.TOz.symm (hs₂.extBut _ _ D.i1z.symm hz₁)));have hk₅:∀c o,c≠z→c≠TO→c≠i1→c≠i2→s.heap.get? c=some o→h₅.get? c=some o:=fun c o c1 c2 c3 c4 e =>
  hs₅.extBut _ _ c2 (hs₄.extBut _ _ c4 (hs₃.extBut _ _ c2 (hs₂.extBut _ _ c3 (hs₁.extBut _ _ c1 e))))
 have h1₅:h₅.IsTupleIter i1 l1 (k1+1):=((h1₂.extBut hs₃.extBut D.TOi1.symm).extBut hs₄.extBut D.i12).extBut hs₅.extBut D.TOi1.symm;have h2₅:h₅.IsTupleIter i2 l2 (k2+1):=h2₄.extBut hs₅.extBut D.TOi2.symm;have hzlt:z<h₅.objs.size:=bo hz₅;have hTOlt:TO<h₅.objs.size:=bo hTO₅;have hi1lt:i1<h₅.objs.size:=by refine bG h1₅ fun z_ e z_=>?_;exact bo e
 have hi2lt:i2<h₅.objs.size:=by refine bG h2₅ fun z_ e z_=>?_;exact bo e
 refine af ?_;have hz₆:IsZip (h₅.push {cls:=.type "tuple",data:=.seq #[x,y]}) z TI TO .ellipsis:=aA _ hz₅;refine af (wpAny_setField_rec hz₆ (by simp) fun h₇ hz₇ hs₇=>?_)
 replace hz₇:IsZip h₇ z TI TO (rawInt h₅.objs.size):=hz₇
 refine wpAny_setField_rec hz₇ (by simp) fun h₈ hz₈ hs₈=>?_
 replace hz₈:IsZip h₈ z TI TO (rawInt h₅.objs.size):=hz₈
 have up:∀c o,c≠z→h₅.get? c=some o→h₈.get? c=some o:=fun c o c1 e=>hs₈.extBut _ _ c1 (hs₇.extBut _ _ c1 (aA _ e));have hT₈:IsPair h₈ h₅.objs.size x y:=hs₈.extBut _ _ (bN hzlt) (hs₇.extBut _ _ (bN hzlt) (aQ _ rfl));have hz8:h₈.objs.size=h₅.objs.size+1:=by rw [hs₈.1,hs₇.1,br]
 rw [eK] at hz₈ hT₈ hz8;refine ak ⟨_,rfl,?_⟩;rw [eK];exact hQ h₈ hz₈ (up _ _ D.TOz hTO₅) (h1₅.at fun o e=>up _ o D.i1z e) (h2₅.at fun o e=>up _ o D.i2z e) hT₈ hz8 fun c o c1 c2 c3 c4 e=>up c o c1 (hk₅ c o c1 c2 c3 c4 e)
theorem qJ{z TI TO i1 i2 l1 l2:Addr}{k1 k2:Nat}{xs ys:Array Value}{a b:Value}{Q:Fin→Shared→Prop}(hh:A.handled=none)(D:ZipApart z TI TO i1 i2 l1 l2)
  (hz:IsZip s.heap z TI TO .none) (hTI:IsPair s.heap TI (.ref i1) (.ref i2)) (hTO:IsPair s.heap TO a b)
  (h1:s.heap.IsTupleIter i1 l1 k1) (h2:s.heap.IsTupleIter i2 l2 k2) (hl1:s.heap.IsTuple l1 xs) (hl2:s.heap.IsTuple l2 ys) (hend:xs[k1]?=none∨ys[k2]?=none)
  (hE:∀h' e,(∀c o,c≠z→c≠TO→c≠i1→c≠i2→s.heap.get? c=some o→h'.get? c=some o)→(∃a' b',IsPair h' TO a' b')→(∃o,h'.get? e=some o∧o.cls=.type "StopIteration")→E (.ref e) {s with heap:=h'}) :
  wpAny (model prog w) A (Builtin.«zip.__next__» ⟨[.ref z],[]⟩) Q E s:=by
 show wpAny _ _ (field (.ref z) 2 >>=_) _ _ _;refine af (wpAny_field hz rfl (x:=.bool false) rfl ?_);refine af (wpAny_field hz rfl (x:=.ref TI) rfl ?_);refine af (wpAny_seqItems hTI rfl ?_);refine af ?_;refine af (wpAny_field hz rfl (x:=.none) rfl (ak ?_));dsimp only [if_true];refine af (wpAny_rule ?_);refine af (wpAny_field hz rfl (x:=.ref TO) rfl ?_);refine af (wpAny_setField_rec hz (by simp) fun h₁ hz₁ hs₁=>?_)
 replace hz₁:IsZip h₁ z TI TO .ellipsis:=hz₁
 refine af ?_;dsimp only [List.zipIdx_cons,List.zipIdx_nil,List.forIn_cons,List.forIn_nil];refine af (af (wpAny_onRaise ?_))
 cases hx:xs[k1]? with
 | none =>
  refine af (fY hh (h1.extBut hs₁.extBut D.i1z) (hl1.extBut hs₁.extBut D.l1z) hx fun h₂ e hs₂ he=>?_);refine bG he fun oe hoe hce=>?_;have hz₂:IsZip h₂ z TI TO .ellipsis:=hs₂ _ _ D.i1z.symm hz₁;have hez:e≠z:=fun x=>by subst x;rw [hz₂] at hoe;cases hoe;simp at hce
  refine wpAny_setField_rec hz₂ (by simp) fun h₃ z_ hs₃=>hE h₃ e (fun c o c1 z_ c3 z_ x=>hs₃.extBut _ _ c1 (hs₂ _ _ c3 (hs₁.extBut _ _ c1 x))) ⟨a,b,hs₃.extBut _ _ D.TOz (hs₂ _ _ D.TOi1 (hs₁.extBut _ _ D.TOz hTO))⟩ ⟨oe,hs₃.extBut _ _ hez hoe,hce⟩
 | some x =>
  have hy:ys[k2]?=none:=by rcases hend with h | h;rw [hx] at h;cases h;exact h
  refine af (ec (h1.extBut hs₁.extBut D.i1z) (hl1.extBut hs₁.extBut D.l1z) hx fun h₂ h1₂ hs₂=>ak ?_);have hTO₂:IsPair h₂ TO a b:=hs₂.extBut _ _ D.TOi1 (hs₁.extBut _ _ D.TOz hTO);refine af (wpAny_seqItems hTO₂ rfl ?_);refine af (wpAny_updateSeq_pair hTO₂ fun h₃ hTO₃ hs₃=>?_)
  replace hTO₃:IsPair h₃ TO x b:=hTO₃
  refine af (wpAny_letGo (ak ?_));refine af (af (wpAny_onRaise ?_));refine af (fY hh (((h2.extBut hs₁.extBut D.i2z).extBut hs₂.extBut D.i12.symm).extBut hs₃.extBut D.TOi2.symm)
   (((hl2.extBut hs₁.extBut D.l2z).extBut hs₂.extBut D.l2i1).extBut hs₃.extBut D.l2TO) hy fun h₄ e hs₄ he=>?_)
  refine bG he fun oe hoe hce=>?_;have hz₄:IsZip h₄ z TI TO .ellipsis:=hs₄ _ _ D.i2z.symm (hs₃.extBut _ _ D.TOz.symm (hs₂.extBut _ _ D.i1z.symm hz₁));have hez:e≠z:=fun x=>by subst x;rw [hz₄] at hoe;cases hoe;simp at hce
  refine wpAny_setField_rec hz₄ (by simp) fun h₅ z_ hs₅=>hE h₅ e (fun c o c1 c2 c3 c4 x=>hs₅.extBut _ _ c1 (hs₄ _ _ c4 (hs₃.extBut _ _ c2 (hs₂.extBut _ _ c3 (hs₁.extBut _ _ c1 x))))) ⟨x,b,hs₅.extBut _ _ D.TOz (hs₄ _ _ D.TOi2 hTO₃)⟩ ⟨oe,hs₅.extBut _ _ hez hoe,hce⟩
theorem jM{z TI TO i1 i2 l1 l2:Addr}{k1 k2:Nat}{xs ys:Array Value}{a b:Value}{Q:Option Value→Shared→Prop}(D:ZipApart z TI TO i1 i2 l1 l2)
  (hz:IsZip s.heap z TI TO .none) (hTI:IsPair s.heap TI (.ref i1) (.ref i2)) (hTO:IsPair s.heap TO a b)
  (h1:s.heap.IsTupleIter i1 l1 k1) (h2:s.heap.IsTupleIter i2 l2 k2) (hl1:s.heap.IsTuple l1 xs) (hl2:s.heap.IsTuple l2 ys) (hx:xs[k1]?=some x) (hy:ys[k2]?=some y)
  (hQ:∀h',IsZip h' z TI TO (rawInt s.heap.objs.size)→IsPair h' TO x y→h'.IsTupleIter i1 l1 (k1+1)→h'.IsTupleIter i2 l2 (k2+1)→IsPair h' s.heap.objs.size x y→h'.objs.size=s.heap.objs.size+1→
   (∀c o,c≠z→c≠TO→c≠i1→c≠i2→s.heap.get? c=some o→h'.get? c=some o)→Q (some (.ref s.heap.objs.size)) {s with heap:=h'}) :
  wpAny (model prog w) A (pyNext (.ref z)) Q E s:=by
 have hT:s.TypeIs (.ref z) "zip":=⟨_,hz,rfl⟩
 exact af (wpAny_attempt (wpAny_callSpecial?_slot (name:=Str.ofString "__next__") hT F.slot_zip_next
  (wpAny_call_entry F.slot_zip_next hT F.entry_zip_next
   (qu D hz hTI hTO h1 h2 hl1 hl2 hx hy fun h' a1 a2 a3 a4 a5 a6 a7=>ak (hQ h' a1 a2 a3 a4 a5 a6 a7)) (F.args_zip_next_1 _))))
theorem jX{z TI TO i1 i2 l1 l2:Addr}{k1 k2:Nat}{xs ys:Array Value}{a b:Value}{Q:Option Value→Shared→Prop}(hh:A.handled=none)(D:ZipApart z TI TO i1 i2 l1 l2)
  (hz:IsZip s.heap z TI TO .none) (hTI:IsPair s.heap TI (.ref i1) (.ref i2)) (hTO:IsPair s.heap TO a b)
  (h1:s.heap.IsTupleIter i1 l1 k1) (h2:s.heap.IsTupleIter i2 l2 k2) (hl1:s.heap.IsTuple l1 xs) (hl2:s.heap.IsTuple l2 ys) (hend:xs[k1]?=none∨ys[k2]?=none)
  (hQ:∀h',(∀c o,c≠z→c≠TO→c≠i1→c≠i2→s.heap.get? c=some o→h'.get? c=some o)→(∃a' b',IsPair h' TO a' b')→Q none {s with heap:=h'}):wpAny (model prog w) A (pyNext (.ref z)) Q E s:=by
 have hT:s.TypeIs (.ref z) "zip":=⟨_,hz,rfl⟩
 refine af (wpAny_attempt (wpAny_callSpecial?_slot (name:=Str.ofString "__next__") hT F.slot_zip_next
  (wpAny_call_entry F.slot_zip_next hT F.entry_zip_next (qJ hh D hz hTI hTO h1 h2 hl1 hl2 hend fun h' e hk hto he=>?_) (F.args_zip_next_1 _))))
 refine bG he fun o ho hc=>?_;refine af (wpAny_isInstance (T:="StopIteration") (b:=true) ⟨o,ho,hc⟩ isSubtype_stop ?_);exact ak (hQ _ hk hto)
end
noncomputable abbrev tx(h:Heap)(l1:Addr):Heap:=h.push {cls:=.type "tuple_iterator",data:=.fields #[.ref l1,.int 0 0]}
noncomputable abbrev ty(h:Heap)(l1 l2:Addr):Heap:=(tx h l1).push {cls:=.type "tuple_iterator",data:=.fields #[.ref l2,.int 0 0]}
noncomputable abbrev tz(h:Heap)(l1 l2:Addr):Heap:=(ty h l1 l2).push {cls:=.type "tuple",data:=.seq #[.ref h.objs.size,.ref (tx h l1).objs.size]}
noncomputable abbrev tC(h:Heap)(l1 l2:Addr):Heap:=(tz h l1 l2).push {cls:=.type "tuple",data:=.seq #[.none,.none]}
noncomputable abbrev lV(h:Heap)(l1 l2:Addr):Heap:=(tC h l1 l2).push {cls:=.type "zip",data:=.fields #[.none,.bool false,.bool false,.ref (ty h l1 l2).objs.size,.ref (tz h l1 l2).objs.size]}
theorem pO(l1 l2:Addr)(xs ys:Array Value) :
  Meets (Builtin.«zip.__new__» ⟨[.type "zip",.ref l1,.ref l2],[]⟩) (fun z_ R s=>s.heap.IsTuple l1 xs∧s.heap.IsTuple l2 ys∧
   R (.ok (.ret (.ref (tC s.heap l1 l2).objs.size))) {s with heap:=lV s.heap l1 l2}) :=
 .of_wp fun prog w A R s h=>by
  obtain ⟨hp,g,d,tk,os⟩:=s;refine ni h fun hl1 hl2 h=>?_;have hsub:=sub_zip;have hL1:Heap.IsTuple (Shared.heap ⟨hp,g,d,tk,os⟩) l1 xs:=hl1;have hL2:Heap.IsTuple (Shared.heap ⟨hp.push {cls:=.type "tuple_iterator",data:=.fields #[.ref l1,.int 0 0]},g,d,tk,os⟩) l2 ys:=CK hl2
  wp_walk using wpAny_pyIter_tuple hL1,wpAny_pyIter_tuple hL2
  exact ⟨_,rfl,h⟩
section
variable{prog:Program}{w:World}{E:Value→Shared→Prop}
theorem tW{l1 l2:Addr}{xs ys:Array Value}{Q:Value→Shared→Prop}(hl1:s.heap.IsTuple l1 xs)(hl2:s.heap.IsTuple l2 ys)
  (h:∀h',IsZip h' (s.heap.objs.size+4) (s.heap.objs.size+2) (s.heap.objs.size+3) .none→IsPair h' (s.heap.objs.size+2) (.ref s.heap.objs.size) (.ref (s.heap.objs.size+1))→
   IsPair h' (s.heap.objs.size+3) .none .none→h'.IsTupleIter s.heap.objs.size l1 0→h'.IsTupleIter (s.heap.objs.size+1) l2 0→h'.objs.size=s.heap.objs.size+5→
   (∀c o,s.heap.get? c=some o→h'.get? c=some o)→Q (.ref (s.heap.objs.size+4)) {s with heap:=h'}) :
  wpAny (model prog w) A (call (.type "zip") [.ref l1,.ref l2]) Q E s:=by
 refine callType_new F.called_zip (by decide) (F.typeCall_zip_2 _ _) (F.newCall_zip_2 _ _) (fun obj=>F.args_object_init_3 obj _ _) F.entry_zip_new
  (pO l1 l2 xs ys) ⟨hl1,hl2,?_⟩
 have z1:(tx s.heap l1).objs.size=s.heap.objs.size+1:=br ..;have z2:(ty s.heap l1 l2).objs.size=s.heap.objs.size+2:=by rw [br,z1]
 have z3:(tz s.heap l1 l2).objs.size=s.heap.objs.size+3:=by rw [br,z2]
 have z4:(tC s.heap l1 l2).objs.size=s.heap.objs.size+4:=by rw [br,z3]
 have z5:(lV s.heap l1 l2).objs.size=s.heap.objs.size+5:=by rw [br,z4]
 have g5:(lV s.heap l1 l2).get? (tC s.heap l1 l2).objs.size=some _:=aQ _ rfl;have g4:(lV s.heap l1 l2).get? (tz s.heap l1 l2).objs.size=some _:=aA _ (aQ _ rfl);have g3:(lV s.heap l1 l2).get? (ty s.heap l1 l2).objs.size=some _:=aA _ (aA _ (aQ _ rfl));have g2:(lV s.heap l1 l2).get? (tx s.heap l1).objs.size=some _:=aA _ (aA _ (aA _ (aQ _ rfl)));have g1:(lV s.heap l1 l2).get? s.heap.objs.size=some _:=aA _ (aA _ (aA _ (aA _ (aQ _ rfl))));rw [z2,z3,z4] at g5;rw [z1,z2] at g3;rw [z3] at g4;rw [z1] at g2;rw [z4];exact ⟨⟨_,g5,rfl⟩,h _ g5 g3 g4 ⟨_,g1,rfl,rfl⟩ ⟨_,g2,rfl,rfl⟩ z5 fun c o x =>
  aA _ (aA _ (aA _ (aA _ (aA _ x))))⟩
end
section
variable{E:Value→Shared→Prop}{c:V}
theorem bJ.ownP(R:bJ W h ρ σ){O:Addr→Prop}(hA:∀a,O a→cb W ρ h a)(hT:∀a o,O a→h.get? a=some o→kb o→W.priv a)(hP:∀a,O a→W.priv a→∃o,h'.get? a=some o∧kb o)(k:∀b o,¬O b→h.get? b=some o→h'.get? b=some o)(hz:h.objs.size≤h'.objs.size) :
  bg W h h'∧bJ W h' ρ σ:=by
 have tk:bg W h h':=fun a o e c p=>k a o (fun q=>p (hT a o q e c)) e;refine ⟨tk,R.len,fun n o p e ep=>?_,R.apart,R.new,am R.size hz,fun a o e=>k a o (fun q=>?_) (R.top a o e),fun a p=>?_⟩
 ·exact (R.ob n o p e ep).mono tk (aB _) (fun ob e1=>k _ _ (fun q=>((hA _ q).2.2 n p ep).1 rfl) e1) (fun ob e1=>k _ _ (fun q=>((hA _ q).2.2 n p ep).2 rfl) e1)
 ·exact absurd (bo e) (bS.mpr (hA a q).1)
 ·by_cases q:O a
  ·exact hP a q p
  ·refine bG (R.priv a p) fun o h1 h2=>?_;exact ⟨o,k _ _ q h1,h2⟩
theorem aK.at{h:Heap}{p:Addr→Prop}(hp:∀a,p a→h.objs.size≤a){v:V}{x:Value}(r:aK W h ρ v x):aK (W.at fun a=>W.priv a∨p a) h ρ v x :=
 aK.rec (motive_1:=fun v x z_=>aK (W.at fun a=>W.priv a∨p a) h ρ v x) (motive_2:=fun l as z_=>aZ (W.at fun a=>W.priv a∨p a) h ρ l as) .none .bool .int (fun t e=>.str t e) (fun ho hc hd hx z_ r=>.tup ho hc hd ⟨hx.1,hx.2.1,fun q=>q.elim hx.2.2 fun q=>absurd (bo ho) (bS.mpr (hp _ q))⟩ r) (fun e=>.obj e) (fun a b c d=>.ints a b c d) .nil (fun z_ z_ a b=>.cons a b) r
theorem aZ.at{h:Heap}{p:Addr→Prop}(hp:∀a,p a→h.objs.size≤a){v:List V}{x:List Value}(r:aZ W h ρ v x):aZ (W.at fun a=>W.priv a∨p a) h ρ v x:=r.ind .nil fun x z_ m=>.cons (x.at hp) m
end
section
variable{E:Value→Shared→Prop}{c:V}
structure jN(W:Wd)(z TI TO i1 i2 l1 l2:Addr)(xs ys:List V)(f0:Value)(i:Nat)(ρ:Rho)(h:Heap):Prop where
 hz:IsZip h z TI TO f0
 ti:IsPair h TI (.ref i1) (.ref i2)
 to:∃a b,IsPair h TO a b
 h1:h.IsTupleIter i1 l1 i
 h2:h.IsTupleIter i2 l2 i
 r1:aK W h ρ (.tup xs) (.ref l1)
 r2:aK W h ρ (.tup ys) (.ref l2)
 az:cb W ρ h z
 ao:cb W ρ h TO
 a1:cb W ρ h i1
 a2:cb W ρ h i2
 pr:W.priv TO
 np:¬W.priv TI∧¬W.priv z∧¬W.priv i1∧¬W.priv i2
theorem DM{z t a b x:Addr}{M:Addr→Prop}(h:x∈[z,t,a,b])(h1:M z)(h2:M t)(h3:M a)(h4:M b):M x :=
 (List.mem_cons.1 h).elim (fun e=>e▸h1) fun h=>(List.mem_cons.1 h).elim (fun e=>e▸h2) fun h=>(List.mem_cons.1 h).elim (fun e=>e▸h3) fun h=>(List.mem_cons.1 h).elim (fun e=>e▸h4) fun h=>(an h).elim
theorem keep4{z t a b:Addr}(k:∀x o,x≠z→x≠t→x≠a→x≠b→h.get? x=some o→h'.get? x=some o):∀x o,x∉[z,t,a,b]→h.get? x=some o→h'.get? x=some o:=fun x o n e =>
 k x o (fun q=>n (q▸ai)) (fun q=>n (q▸.tail _ (.head _))) (fun q=>n (q▸.tail _ (.tail _ (.head _)))) (fun q=>n (q▸.tail _ (.tail _ (.tail _ (.head _))))) e
section
variable{z TI TO i1 i2 l1 l2:Addr}{ys:List V}{f0:Value}
theorem jN.ap(st:jN W z TI TO i1 i2 l1 l2 xs ys f0 i ρ h):∀a,a∈[z,TO,i1,i2]→cb W ρ h a:=fun a ha=>DM ha st.az st.ao st.a1 st.a2
theorem sF{a:Addr}{c:Value}{o:Obj}(hc:c≠.type "tuple")(e:∃o,h.get? a=some o∧o.cls=c)(g:h.get? a=some o)(t:o.cls=.type "tuple"):P:=e.elim fun z_ q=>absurd (q.2.symm.trans ((congrArg Obj.cls (aX (q.1.symm.trans g))).trans t)) hc
theorem jN.tp(st:jN W z TI TO i1 i2 l1 l2 xs ys f0 i ρ h):∀a o,a∈[z,TO,i1,i2]→h.get? a=some o→o.cls=.type "tuple"→W.priv a:=fun a o ha =>
 DM (M:=fun a=>h.get? a=some o→o.cls=.type "tuple"→W.priv a) ha (sF (c:=.type "zip") (by decide) ⟨_,st.hz,rfl⟩) (fun z_ z_=>st.pr) (sF (c:=.type "tuple_iterator") (by decide) (st.h1.imp fun z_ q=>⟨q.1,q.2.1⟩)) (sF (c:=.type "tuple_iterator") (by decide) (st.h2.imp fun z_ q=>⟨q.1,q.2.1⟩))
theorem jN.pp(st:jN W z TI TO i1 i2 l1 l2 xs ys f0 i ρ h)(hto:∃a b,IsPair h' TO a b):∀a,a∈[z,TO,i1,i2]→W.priv a→∃o,h'.get? a=some o∧kb o:=fun a ha =>
 DM (M:=fun a=>W.priv a→∃o,h'.get? a=some o∧kb o) ha (fun hp=>absurd hp st.np.2.1) (fun z_=>hto.elim fun z_ q=>q.elim fun z_ q=>⟨_,q,rfl,_,_,rfl⟩) (fun hp=>absurd hp st.np.2.2.1) (fun hp=>absurd hp st.np.2.2.2)
end
theorem jN.mono{z TI TO i1 i2 l1 l2:Addr}{xs ys:List V}{f0:Value}{i:Nat}(st:jN W z TI TO i1 i2 l1 l2 xs ys f0 i ρ s.heap)(S:bp X ρ s ρ' s')(tk:bg W s.heap s'.heap)(k:∀a∈[z,TO,i1,i2],∀o,s.heap.get? a=some o→s'.heap.get? a=some o) :
  jN W z TI TO i1 i2 l1 l2 xs ys f0 i ρ' s'.heap where
 hz:=k _ (by simp) _ st.hz
 ti:=tk _ _ st.ti ⟨rfl,_,_,rfl⟩ st.np.1
 to:=let ⟨a,b,h⟩:=st.to;⟨a,b,k _ (by simp) _ h⟩
 h1:=let ⟨o,h1,h2⟩:=st.h1;⟨o,k _ (by simp) _ h1,h2⟩
 h2:=let ⟨o,h1,h2⟩:=st.h2;⟨o,k _ (by simp) _ h1,h2⟩
 r1:=st.r1.mono tk S.pre
 r2:=st.r2.mono tk S.pre
 az:=st.az.step S
 ao:=st.ao.step S
 a1:=st.a1.step S
 a2:=st.a2.step S
 pr:=st.pr
 np:=st.np
end
section
variable{E:Value→Shared→Prop}{c:V}
theorem nS{l:Addr}(r:aK W h ρ (.tup xs) (.ref l)):∃items:Array Value,h.IsTuple l items∧aZ W h ρ xs items.toList:=by
 refine cp r.E fun z_ o items ek e ho hc hd hx hr=>?_;cases e;exact ⟨items,⟨o,ho,hc,ek,hd⟩,hr⟩
theorem Bk{z TI TO i1 i2 l1 l2:Addr}{ys:List V}(D:ZipApart z TI TO i1 i2 l1 l2)(hnz:TI≠z∧TI≠TO∧TI≠i1∧TI≠i2) :
  kP W true ((xs.zip ys).map fun p=>.tup [p.1,p.2]) [] σ₀ [z,TO,i1,i2] z (fun i ρ h=>jN W z TI TO i1 i2 l1 l2 xs ys .none i ρ h)
   (fun i ρ h x=>∃T,x=.ref T∧jN W z TI TO i1 i2 l1 l2 xs ys (rawInt T) (i+1) ρ h) where
 apart:=fun {i ρ h} st a ha=>⟨st.ap a ha,DM (M:=fun a=>∃o,h.get? a=some o) ha ⟨_,st.hz⟩ (st.to.elim fun z_ q=>q.elim fun z_ q=>⟨_,q⟩) (st.h1.imp fun z_ q=>q.1) (st.h2.imp fun z_ q=>q.1) |>.imp fun o q=>⟨q,fun e=>st.tp a o ha q e⟩⟩
 mono:=fun {i ρ ρ' s s' X} st S tk k=>st.mono S tk k
 item:=fun {A E s ρ σ i v Q} hA st R sd hx hQ=>by
  refine bG (nS st.r1) fun xa hl1 hr1=>?_;refine bG (nS st.r2) fun ya hl2 hr2=>?_;rw [List.getElem?_map] at hx;obtain ⟨⟨u,w⟩,hz,rfl⟩:=bR.mp hx;have hz':=List.getElem?_zip_eq_some.mp hz;refine bG (fF hr1 hz'.1) fun ux hux rux=>?_;refine bG (fF hr2 hz'.2) fun wx hwx rwx=>?_;refine Ak st.to fun ta tb hto=>?_;refine jM D st.hz st.ti hto st.h1 st.h2 hl1 hl2 hux hwx fun h' a1 a2 a3 a4 a5 a6 a7=>?_;have eK:s.heap.objs.size≤h'.objs.size:=by rw [a6];exact Nat.le_succ _
  have kk:=keep4 a7;obtain ⟨tk,R'⟩:=R.ownP (O:=(·∈[z,TO,i1,i2])) (h':=h') st.ap (fun a o ha e c=>st.tp a o ha e c.1) (st.pp ⟨_,_,a2⟩) kk eK;have S:bp (·∈[z,TO,i1,i2]) ρ s ρ {s with heap:=h'}:=bp.priv (X:=(·∈[z,TO,i1,i2])) (t:=s.toks) kk eK;have nT:¬W.priv s.heap.objs.size:=fun p=>let ⟨_,h1,_⟩:=R.priv _ p;bX _ (bo h1)
  refine hQ _ _ S tk R' (.tup a5 rfl rfl ⟨rfl,rfl,nT⟩ (.cons (rux.mono tk (aB _)) (.cons (rwx.mono tk (aB _)) .nil))) ⟨_,rfl,?_⟩;exact ⟨a1,tk _ _ st.ti ⟨rfl,_,_,rfl⟩ st.np.1,⟨_,_,a2⟩,a3,a4,st.r1.mono tk (aB _),st.r2.mono tk (aB _),st.az.step S,st.ao.step S,st.a1.step S,st.a2.step S,st.pr,st.np⟩
 go:=fun {A E s ρ σ i x Q target} ht st R hQ=>by
  obtain ⟨T,rfl,st⟩:=st;refine Ho (ht rfl) fun e k p y=>?_;subst y;refine wpAny_letOwnedTupleGo_zip st.hz fun h' hz' hs'=>?_;have kk:∀b o,b≠z→s.heap.get? b=some o→h'.get? b=some o:=fun b o hb e=>(hs'.2 b hb).trans e;refine xa (R.own' (O:=fun a=>a=z) (h':=h') (fun a e=>e▸st.az) (fun a o e g c=>by subst e;rw [st.hz] at g;cases g;exact absurd c.1 (by simp)) (fun b o hb e=>kk b o hb e) (by rw [hs'.1];exact ax _)) fun tk R'=>?_;have S:bp (·∈[z,TO,i1,i2]) ρ s ρ {s with heap:=h'}:=bp.priv (X:=(·∈[z,TO,i1,i2])) (t:=s.toks) (fun b o hb e=>kk b o (fun q=>hb (by rw [q];simp)) e) (by rw [hs'.1];exact ax _);refine Ak st.to fun ta tb hto=>?_;refine hQ _ S tk R' ⟨hz',tk _ _ st.ti ⟨rfl,_,_,rfl⟩ st.np.1,⟨ta,tb,kk _ _ D.TOz hto⟩,?_,?_,st.r1.mono tk (aB _),st.r2.mono tk (aB _),st.az.step S,st.ao.step S,st.a1.step S,st.a2.step S,st.pr,st.np⟩
  ·refine bG st.h1 fun o h1 h2=>?_;exact ⟨o,kk _ _ D.i1z h1,h2⟩
  ·refine bG st.h2 fun o h1 h2=>?_;exact ⟨o,kk _ _ D.i2z h1,h2⟩
 done:=fun {A E s ρ σ Q} hA st R sd hQ=>by
  refine bG (nS st.r1) fun xa hl1 hr1=>?_;refine bG (nS st.r2) fun ya hl2 hr2=>?_;refine Ak st.to fun ta tb hto=>?_;have e1:xa.size=xs.length:=by rw [←bu,hr1.length]
  have e2:ya.size=ys.length:=by rw [←bu,hr2.length]
  have hend:xa[((xs.zip ys).map fun p=>V.tup [p.1,p.2]).length]?=none∨ya[((xs.zip ys).map fun p=>V.tup [p.1,p.2]).length]?=none:=by
   rw [aJ,List.length_zip];rcases Nat.le_total xs.length ys.length with h | h
   ·exact .inl (Array.getElem?_eq_none (by rw [e1,Nat.min_eq_left h];exact ax _))
   ·exact .inr (Array.getElem?_eq_none (by rw [e2,Nat.min_eq_right h];exact ax _))
  refine ll (jX hA D st.hz st.ti hto st.h1 st.h2 hl1 hl2 hend fun h' a7 hto' eK=>?_);have kk:=keep4 a7;obtain ⟨tk,R'⟩:=R.ownP (O:=(·∈[z,TO,i1,i2])) (h':=h') st.ap (fun a o ha e c=>st.tp a o ha e c.1) (st.pp hto') kk eK;exact hQ _ (bp.priv (X:=(·∈[z,TO,i1,i2])) (t:=s.toks) kk eK) tk R'
 self:=fun {A E s ρ i Q} st hq=>wpAny_pyIter_zip st.hz hq
end
section
variable{P:gB}{k:Nat}{p:Addr→Prop}
noncomputable abbrev Wd.more(W:Wd)(p:Addr→Prop):Wd:=W.at fun a=>W.priv a∨p a
theorem cr.more(hp:∀a,p a→h.objs.size≤a){l:List (V×V)}{es:List DictEntry}(r:cr W h ρ l es):cr (W.more p) h ρ l es:=by
 induction r with
 | nil=>exact .nil
 | cons a b c d _ ih=>exact .cons a b (c.at hp) (d.at hp) ih
theorem eC.more(hp:∀a,p a→h.objs.size≤a){l:List (String×V)}{es:List DictEntry}(r:eC W h ρ l es):eC (W.more p) h ρ l es:=by
 induction r with
 | nil=>exact .nil
 | cons a _ ih=>exact .cons (a.at hp) ih
theorem il.at{q:Addr×Addr}{o:Ob}(hp:∀a,p a→h.objs.size≤a)(r:il W h ρ q o):il (W.more p) h ρ q o:=by
 cases o with
 | list l=>refine vC r fun e items ep a b=>?_;exact ⟨e,items,ep,a,b.at hp⟩
 | dict l ep=>refine ni r fun e w c=>?_;refine bG w fun es a b=>?_;exact ⟨e,⟨es,a,b.more hp⟩,c⟩
 | inst c l=>refine eu r fun C es n e a b d f=>?_;exact ⟨C,es,n,e,a,b,d.more hp,f⟩
theorem bJ.at'(R:bJ W h ρ σ)(kk:∀b o,h.get? b=some o→h'.get? b=some o)(hz:h.objs.size≤h'.objs.size)(hp:∀a,p a→h.objs.size≤a)(hpt:∀a,p a→∃o,h'.get? a=some o∧kb o):bJ (W.more p) h' ρ σ:=by
 refine ⟨R.len,fun n o q e ep=>?_,R.apart,R.new,am R.size hz,fun a o e=>kk a o (R.top a o e),fun a q=>?_⟩
 ·exact ((R.ob n o q e ep).at hp).mono (fun b o e z_ z_=>kk b o e) (aB _) (fun ob e1=>kk _ _ e1) (fun ob e1=>kk _ _ e1)
 ·rcases q with q | q
  ·refine bG (R.priv a q) fun o h1 h2=>?_;exact ⟨o,kk _ _ h1,h2⟩
  ·exact hpt a q
theorem bv.at(O:bv W env loc ρ h)(hp:∀a,p a→h.objs.size≤a):bv (W.more p) env loc ρ h :=
 ⟨O.kind,O.glob,O.blt,let ⟨m,h1,h2⟩:=O.ns;⟨m,h1,fun x v hv hk=>let ⟨a,h3,h4⟩:=h2 x v hv hk;⟨a,h3,h4.at hp⟩⟩,O.cel,
  fun x v hv hk=>let ⟨c,a,h1,h2,h3⟩:=O.val x v hv hk;⟨c,a,h1,h2,h3.at hp⟩,O.apart,O.alive,O.ne,O.inj⟩
theorem aK.down(r:aK (W.more p) h ρ v x):aK W h ρ v x :=
 aK.rec (W:=W.more p) (motive_1:=fun v x z_=>aK W h ρ v x) (motive_2:=fun l as z_=>aZ W h ρ l as) .none .bool .int (fun t e=>.str t e) (fun ho hc hd hx z_ r=>.tup ho hc hd ⟨hx.1,hx.2.1,fun q=>hx.2.2 (Or.inl q)⟩ r) (fun e=>.obj e) (fun a b c d=>.ints a b c d) .nil (fun z_ z_ a b=>.cons a b) r
theorem aZ.down{v:List V}{x:List Value}(r:aZ (W.more p) h ρ v x):aZ W h ρ v x:=r.ind .nil fun x z_ m=>.cons x.down m
theorem cr.down{l:List (V×V)}{es:List DictEntry}(r:cr (W.more p) h ρ l es):cr W h ρ l es:=by
 induction r with
 | nil=>exact .nil
 | cons a b c d _ ih=>exact .cons a b c.down d.down ih
theorem eC.down{l:List (String×V)}{es:List DictEntry}(r:eC (W.more p) h ρ l es):eC W h ρ l es:=by
 induction r with
 | nil=>exact .nil
 | cons a _ ih=>exact .cons a.down ih
theorem il.down{q:Addr×Addr}{o:Ob}(r:il (W.more p) h ρ q o):il W h ρ q o:=by
 cases o with
 | list l=>refine vC r fun e items ep a b=>?_;exact ⟨e,items,ep,a,b.down⟩
 | dict l ep=>refine ni r fun e w c=>?_;refine bG w fun es a b=>?_;exact ⟨e,⟨es,a,b.down⟩,c⟩
 | inst c l=>refine eu r fun C es n e a b d f=>?_;exact ⟨C,es,n,e,a,b,d.down,f⟩
theorem bJ.down(R:bJ (W.more p) h ρ σ):bJ W h ρ σ :=
 ⟨R.len,fun n o q e ep=>(R.ob n o q e ep).down,R.apart,R.new,R.size,R.top,fun a q=>R.priv a (.inl q)⟩
theorem bv.down(O:bv (W.more p) env loc ρ h):bv W env loc ρ h :=
 ⟨O.kind,O.glob,O.blt,let ⟨m,h1,h2⟩:=O.ns;⟨m,h1,fun x v hv hk=>let ⟨a,h3,h4⟩:=h2 x v hv hk;⟨a,h3,h4.down⟩⟩,O.cel,
  fun x v hv hk=>let ⟨c,a,h1,h2,h3⟩:=O.val x v hv hk;⟨c,a,h1,h2,h3.down⟩,O.apart,O.alive,O.ne,O.inj⟩
theorem jZ.down{Q:Fl→Loc→Hp→Prop}{f:Flow}(h:jZ (W.more p) env ρ s Q f s'):jZ W env ρ s Q f s':=by
 refine dk h fun ρ'' σ' loc' fl h1 h2 h3 h4 h5=>?_;refine ⟨ρ'',σ',loc',fl,h1,h2.down,h3.down,?_,h5⟩;cases f<;>cases fl<;>(try (exact h4.elim))
 ·trivial
 ·trivial
 ·exact aK.down h4
theorem kW.at(ok:kW W P fa mg mb)(hp:∀a,p a→W.h₀.objs.size≤a):kW (W.more p) P fa mg mb :=
 ⟨⟨ok.wok.sys,ok.wok.frag,ok.wok.lim,ok.wok.cls⟩,ok.g,ok.b,ok.blt,fun x v e=>let ⟨u,h1,h2⟩:=ok.gl x v e;⟨u,h1,h2.at hp⟩,ok.fn,ok.meth,ok.cls⟩
theorem eB.at(X:eB W P fa mg mb C k A)(hp:∀a,p a→W.h₀.objs.size≤a):eB (W.more p) P fa mg mb C k A :=
 ⟨X.ok.at hp,fun q ok=>X.co q ok,X.hh,X.depth,X.units⟩
end
section
variable{P:gB}{k:Nat}{c:V}
set_option tactic.hygienic true in
theorem tT{t:Tn}{tg:Expr}{Q':Unit→Shared→Prop}(X:eB W P fa mg mb C k A)(hc:qX nm t tg=true)(hn:env.scope.names=nm)(O:bv W env loc ρ s.heap)(R:bJ W s.heap ρ σ)(rv:aK W s.heap ρ v y)(h:tR t v loc σ=some loc')
  (hQ:∀s',bp (dC env) ρ s ρ s'→bJ W s'.heap ρ σ→bv W env loc' ρ s'.heap→Q' () s'):wpAny (model W.prog W.w) A (assign tg env y) Q' Er s:=by
 cases t with
 | name x =>
  refine dc (M:=fun tg=>wpAny _ _ (assign tg env y) _ _ _) hc ft fun id p hc=>?_;have hc:=aG hc;cases eq_of_beq hc.1;cases h;exact wpAny_assign_Name (O.store R rv (i4 hn hc.2) fun s₁ S tk R1 O1=>hQ s₁ S R1 O1)
 | pair x1 x2 =>
  refine fm (M:=fun tg=>wpAny _ _ (assign tg env y) _ _ _) hc ft fun ts kk p hc=>?_;have h3:hJ nm [x1,x2] ts=true:=bI (M:=fun ts=>hJ nm [x1,x2] ts=true) hc ft fun u r hc=>bI (M:=fun r=>hJ nm [x1,x2] (u::r)=true) hc ft fun w r hc=>bE (M:=fun r=>hJ nm [x1,x2] (u::w::r)=true) hc ft fun hc=>have hc:=aG (aG hc).1
   Bool.and_eq_true_iff.2 ⟨hc.1,Bool.and_eq_true_iff.2 ⟨hc.2,rfl⟩⟩
  have h:(match fP σ v with | some [a,b]=>some (setL (setL loc x1 a) x2 b) | _=>none)=some loc':=h;rcases e:fP σ v with _ | ⟨_ | ⟨a,_ | ⟨b,_ | ⟨_,_⟩⟩⟩⟩<;>rw [e] at h<;>first | exact ca h | skip
  exact mh (xs:=[x1,x2]) X h3 hn O R rv e h hQ
theorem wR{t:Tn}{tg:Expr}(hc:qX nm t tg=true)(hp:lJ t=true):∃e k p,tg=Expr.Tuple e k p:=by
 cases t with
 | name x=>cases hp
 | pair x y=>exact fm (M:=fun tg=>∃e k p,tg=Expr.Tuple e k p) hc ft fun e k p z_=>⟨e,k,p,rfl⟩
theorem uf(X:eB W P fa mg mb C k A){t:Tn}{tg:Expr}{b:List S}{body:List Stmt}{owned:Bool}{ns:List Nat}{own:List Addr}{I:Addr}{St:Nat→Rho→Heap→Prop}{Q:Fl→Loc→Hp→Prop}{ρ₀:Rho}{s₀:Shared}{R':Result→Shared→Prop}
  (ihb:j0 W P C A b) (hb:k8 P nm b body=true) (ht:qX nm t tg=true) (hown:owned=true→lJ t=true) (hn:env.scope.names=nm) (O:bv W env loc ρ s.heap) (R:bJ W s.heap ρ σ) (It:kP W owned xs ns σ own I St Mid) (st:St 0 ρ s.heap) (S0:bp gF ρ₀ s₀ ρ s) (hno:∀a∈own,¬dC env a) (hfr:∀a∈own,s₀.heap.objs.size≤a)
  (h:eV (bV ns σ) t (dW C b) xs loc σ Q) (hR:∀f s',jZ W env ρ₀ s₀ Q f s'→R' (.ok f) s'):codeAny (model W.prog W.w) A (.forLoop tg (.ref I) body [] env) R' s:=by
 refine codeAny_forLoop_any (fun n s'=>∃ρ' σ' loc' i,i≤xs.length∧n=xs.length-i∧bp (fun a=>dC env a∨a∈own) ρ s ρ' s'∧bJ W s'.heap ρ' σ'∧bv W env loc' ρ' s'.heap∧St i ρ' s'.heap∧eV (bV ns σ) t (dW C b) (xs.drop i) loc' σ' Q)
  (fun n s₁ x=>ox x fun ρ₁ σ₁ loc₁ i hi hni S1 R1 O1 st1 h1=>?_) xs.length ⟨ρ,σ,loc,0,aS _,rfl,bp.refl ..,R,O,st,h⟩
 have fin:∀{ρ₂ s₂},bp (fun a=>dC env a∨a∈own) ρ s ρ₂ s₂→bp (dC env) ρ₀ s₀ ρ₂ s₂:=fun S=>(S0.any.trans S).drop fun a ha=>ha.imp id fun q=>hfr a q;have down:∀a,a∈own→¬dC env a:=hno;refine Or.elim (cD i xs.length) (fun hlt=>?_) (fun hge=>?_)
 ·rw [List.drop_eq_getElem_cons hlt] at h1;unfold eV at h1;refine xa h1 fun sd h1=>?_
  split at h1
  ·rename_i loc₂ hbt
   refine It.item X.hh st1 R1 sd (aC hlt) fun u s₂ S2 tk2 R2 ru mid=>?_;refine It.go (fun ho=>wR ht (hown ho)) mid R2 fun s₃ S3 tk3 R3 st3=>?_;have S23:=S2.trans S3;have O3:bv W env loc₁ ρ₁ s₃.heap:=O1.step S23 (tk2.trans tk3) fun a ha q=>hno a q ha;refine tT X ht hn O3 R3 (ru.mono tk3 (aB _)) hbt fun s₄ S4 R4 O4=>?_;have st4:St (i+1) ρ₁ s₄.heap:=It.kept st3 S4 (O3.tk R3 S4) hno;refine aH (ihb hb hn O4 R4 h1) (fun f s₅ y=>dk y fun ρ₅ σ₅ loc₅ fl S5 R5 O5 hf hq=>?_) fun z_ z_ e=>e;have S15:bp (fun a=>dC env a∨a∈own) ρ s ρ₅ s₅:=((S1.trans (S23.weaken fun a ha=>.inr ha)).trans (S4.weaken fun a ha=>.inl ha)).trans (S5.weaken fun a ha=>.inl ha);have st5:St (i+1) ρ₅ s₅.heap:=It.kept st4 S5 (O4.tk R4 S5) hno;cases f<;>cases fl<;>(try (exact hf.elim))
   ·exact ⟨xs.length-(i+1),Bz hni hlt,ρ₅,σ₅,loc₅,i+1,hlt,rfl,S15,R5,O5,st5,hq⟩
   ·exact ⟨xs.length-(i+1),Bz hni hlt,ρ₅,σ₅,loc₅,i+1,hlt,rfl,S15,R5,O5,st5,hq⟩
   ·exact hR _ _ ⟨ρ₅,σ₅,loc₅,.ret _,fin S15,R5,O5,hf,hq⟩
  ·exact h1.elim
 ·have hi':i=xs.length:=Nat.le_antisymm hi hge;subst hi';rw [List.drop_length] at h1;unfold eV at h1;refine It.done X.hh st1 R1 h1.1 fun s₂ S2 tk2 R2=>?_;have O2:bv W env loc₁ ρ₁ s₂.heap:=O1.step S2 tk2 fun a ha q=>hno a q ha;exact wpAny_execs_nil (hR _ _ ⟨ρ₁,σ₁,loc₁,.next,fin (S1.trans (S2.weaken fun a ha=>.inr ha)),R2,O2,trivial,h1.2⟩)
theorem Dq(X:eB W P fa mg mb C k A){t:Tn}{tg it:Expr}{as:List Expr}{l:List E}{b:List S}{body:List Stmt}{Q:Fl→Loc→Hp→Prop}(ihb:∀p,eB (W.more p) P fa mg mb C k A→j0 (W.more p) P C A b)(hb:k8 P nm b body=true)(ht:qX nm t tg=true)(hp:lJ t=true)(has:cV nm .zip it=some as)(hi:cL P nm l as=true)
  (hn:env.scope.names=nm) (O:bv W env loc ρ s.heap) (R:bJ W s.heap ρ σ) (h:pz C l loc σ fun vs σ=>dh (dm .zip vs σ) fun p=>eV (bV p.2 σ) t (dW C b) p.1 loc σ Q) :
  wpAny (model W.prog W.w) A (exec (.For tg it body [] pos) env) (jZ W env ρ s Q) Er s:=by
 refine fU (M:=fun it=>wpAny _ _ (exec (.For tg it body [] pos) env) _ _ _) has fun id p pos' hid hg=>?_;refine wpAny_For (wpAny_Call_NameR (km X O R hn hg hid rfl ?_)) (fun v=>rfl);refine PySem.callWith_type (ds hi).1 (jl (ds hi).1 (aH (gS.out (kz X l) hi hn O R h) (fun vs s₁ x=>cK x fun ρ₁ σ₁ lv S1 R1 r hh=>?_) fun z_ z_ e=>e));refine bZ hh fun p hit hq=>y2 (M:=fun lv p=>aZ W s₁.heap ρ₁ lv vs→eV (bV p.2 σ₁) t (dW C b) p.1 loc σ₁ Q→_) hit (fun l1 l2 r hq=>?_) r hq;refine cS r.E fun u1 us y r1 r'=>?_;subst y;refine cS r'.E fun u2 us z r2 r''=>?_;subst z;obtain rfl:=r''.E;refine xu r1.E fun a1 z_ z_ z_ u z_=>?_;subst u;refine xu r2.E fun a2 z_ z_ z_ n z_=>?_;subst n;refine bG (nS r1) fun xa hl1 hr1=>?_;refine bG (nS r2) fun ya hl2 hr2=>?_;refine tW hl1 hl2 fun h' hz hTI hTO h1 h2 eK kk=>?_;refine wpAny_pyIter_zip hz ?_;have la1:@LT.lt Nat instLTNat a1 s₁.heap.objs.size:=let ⟨_,q,_⟩:=hl1;bo q
 have la2:@LT.lt Nat instLTNat a2 s₁.heap.objs.size:=let ⟨_,q,_⟩:=hl2;bo q
 have hzz:s₁.heap.objs.size≤h'.objs.size:=by rw [eK];exact aW _ _
 have hpp:∀a,a=s₁.heap.objs.size+3→s₁.heap.objs.size≤a:=fun a e=>by rw [e];exact aW _ _
 have R':bJ (W.more fun a=>a=s₁.heap.objs.size+3) h' ρ₁ σ₁:=R1.at' kk hzz hpp fun a e=>e▸⟨_,hTO,rfl,_,_,rfl⟩;have S2:bp gF ρ₁ s₁ ρ₁ {s₁ with heap:=h'}:=cR (t:=s₁.toks) kk hzz;have tk:bg (W.more fun a=>a=s₁.heap.objs.size+3) s₁.heap h':=fun b o e z_ z_=>kk b o e;have O2:bv (W.more fun a=>a=s₁.heap.objs.size+3) env loc ρ₁ h':=((O.step0 R S1).at hpp).step (s:=s₁) (s':={s₁ with heap:=h'}) S2 tk fun z_ z_ q=>q;have X':=X.at (p:=fun a=>a=s₁.heap.objs.size+3) fun a e=>am R1.size (hpp a e);have dead:∀a,s₁.heap.objs.size≤a→a≠s₁.heap.objs.size+3→¬(W.more fun a=>a=s₁.heap.objs.size+3).priv a:=fun a ha hne q=>q.elim (fun q=>let ⟨_,e,_⟩:=R1.priv a q;absurd (bo e) (bS.mpr ha)) hne;have ap:∀a,s₁.heap.objs.size≤a→a<s₁.heap.objs.size+5→cb (W.more fun a=>a=s₁.heap.objs.size+3) ρ₁ h' a:=fun a q1 q2=>cb.new R1 q1 (by rw [eK];exact q2);have D:ZipApart (s₁.heap.objs.size+4) (s₁.heap.objs.size+2) (s₁.heap.objs.size+3) s₁.heap.objs.size (s₁.heap.objs.size+1) a1 a2:=by
  constructor<;>(show ¬(@Eq Nat _ _))<;>omega
 have st:jN (W.more fun a=>a=s₁.heap.objs.size+3) (s₁.heap.objs.size+4) (s₁.heap.objs.size+2) (s₁.heap.objs.size+3) s₁.heap.objs.size (s₁.heap.objs.size+1) a1 a2 l1 l2 .none 0 ρ₁ h' :=
  ⟨hz,hTI,⟨_,_,hTO⟩,h1,h2,(r1.at hpp).mono tk (aB _),(r2.at hpp).mono tk (aB _),ap _ (by omega) (by omega),ap _ (by omega) (by omega),ap _ (by omega) (by omega),ap _ (by omega) (by omega),.inr rfl,
   dead _ (by omega) (by omega),dead _ (by omega) (by omega),dead _ (by omega) (by omega),dead _ (by omega) (by omega)⟩
 have own:∀a∈[s₁.heap.objs.size+4,s₁.heap.objs.size+3,s₁.heap.objs.size,s₁.heap.objs.size+1],s.heap.objs.size≤a:=fun a ha=>by
  have:=S1.size;simp only [List.mem_cons,an,or_false] at ha;rcases ha with rfl | rfl | rfl | rfl<;>omega
 exact uf X' (ihb _ X') hb ht (fun z_=>hp) hn O2 R' (Bk D ⟨show ¬(@Eq Nat _ _) by omega,show ¬(@Eq Nat _ _) by omega,show ¬(@Eq Nat _ _) by omega,show ¬(@Eq Nat _ _) by omega⟩) st (S1.trans S2) (fun a ha q=>absurd (O.apart a q).2.1 (bS.mpr (own a ha))) own hq fun f s' o=>o.down
theorem Ec(X:eB W P fa mg mb C k A){t:Tn}{kk:nc}{l:List E}{b:List S}(ihb:j0 W P C A b)(ihz:∀p,eB (W.more p) P fa mg mb C k A→j0 (W.more p) P C A b):qy W P C A (.forr t kk l b):=fun {x nm env loc ρ σ s Q Er} hc hn O R h=>by
 refine wK (M:=fun x=>wpAny _ _ (exec x env) _ _ _) hc ft fun tg it body z pos hc=>bE (M:=fun z=>wpAny _ _ (exec (.For tg it body z pos) env) _ _ _) hc ft fun hc=>?_;have h4:=aG hc;have h3:=aG h4.1;have h2:=aG h3.1;have hlk:=h2.1;have ht:=h2.2;have hb:=h4.2;have hi:=h3.2;clear h2 h3 h4 hc;refine Or.elim (cf.1 hlk) (fun hlk=>?_) (fun hlk=>?_)
 ·have hlk:=aG hlk;have hk3:(kk=.over∨kk=.range∨kk=.enum∨kk=.values)∧(D0 kk=true→lJ t=true):=by
   have:=hlk.2;revert this;cases kk<;>cases lJ t<;>decide
  refine mM (M:=fun o=>cV nm kk it=o→_) hi (fun as hi has=>uS (M:=fun l as=>cV nm kk it=some as→ex C (.forr t kk l b) loc σ Q→_) (aF hlk.1) hi (fun e0 x' hx has h=>?_) has h) rfl;refine wpAny_For (aH (tc X (Er:=Er) (Q2:=fun xs ns σ=>eV (bV ns σ) t (dW C b) xs loc σ Q) (di X e0) hk3.1 has hx hn O R h) (fun xv s₁ w=>m9 w fun ρ₁ σ₁ xs ns S1 R1 hq rdy=>?_) fun z_ z_ e=>e) (kF hk3.1 has hx env);refine rdy A Er _ X.hh fun I s₂ own St Mid S2 R2 It st ho=>?_;have S12:=S1.trans S2;exact uf X ihb hb ht hk3.2 hn (O.step0 R S12) R2 It st S12 (fun a ha q=>absurd (O.apart a q).2.1 (bS.mpr (ho a ha))) ho hq fun f s' o=>o
 ·have hlk:=aG hlk;have hl:=aG hlk.1;cases eq_of_beq hl.2;exact mM (M:=fun o=>cV nm .zip it=o→_) hi (fun as hi has=>Dq X ihz hb ht hlk.2 has hi hn O R h) rfl
end
section
variable{P:gB}{k:Nat}
mutual
theorem Id:∀(st:S) {W:Wd} (X:eB W P fa mg mb C k A),qy W P C A st
 | .expr e,W,X=>Cd X
 | .assign t e,W,X=>w5 X
 | .ite c a b,W,X=>Gi X (ql a X) (ql b X)
 | .whil c b,W,X=>zW X (ql b X)
 | .forr t k l b,W,X=>Ec X (ql b X) fun p X'=>ql b X'
 | .ret e,W,X=>Eh X
 | .cont,W,X=>Cb
 | .stuck,W,X=>zV
theorem ql:∀(l:List S) {W:Wd} (X:eB W P fa mg mb C k A),j0 W P C A l
 | [],W,X=>Gl
 | st::r,W,X=>Ek (Id st X) (ql r X)
end
end
theorem g9{n:Str}:∀{names:Nm} {k:Nat} {acc:List (Str×Addr)},(n,NameKind.cell)∈names∨(acc.lookup n).isSome=true→((cellsFrom k names acc).lookup n).isSome=true
 | [],k,acc,h=>by
  refine Or.elim h (fun h=>?_) (fun h=>?_)
  ·cases h
  ·exact h
 | (m,kd)::r,k,acc,h=>by
  dsimp only [cellsFrom]
  split
  ·refine g9 ?_;refine Or.elim h (fun h=>?_) (fun h=>?_)
   ·refine Or.elim (aP.mp h) (fun e=>?_) (fun h=>?_)
    ·cases e;right;simp
    ·exact .inl h
   ·right;rw [List.lookup_cons]
    split
    ·rfl
    ·exact h
  ·rename_i hk
   refine g9 ?_;refine Or.elim h (fun h=>?_) (fun h=>?_)
   ·refine Or.elim (aP.mp h) (fun e=>?_) (fun h=>?_)
    ·cases e;exact absurd rfl hk
    ·exact .inl h
   ·exact .inr h
theorem qR{kf:Str→Option NameKind}{y:Str}:∀{b:List (Str×Value)} {m:Str→Option Value},(∀p∈b,p.1≠y)→bindL kf b m y=m y
 | [],m,h=>rfl
 | (n,v)::r,m,h=>by
  dsimp only [bindL];rw [qR fun p hp=>h p (aj _ hp)];have:y≠n:=fun e=>h (n,v) ai e.symm
  split
  ·exact if_neg this
  ·rfl
theorem qQ{kf:Str→Option NameKind}{y:Str}:∀{b:List (Str×Value)} {m:Str→Option Value},(∀p∈b,p.1≠y)→bindC kf b m y=m y
 | [],m,h=>rfl
 | (n,v)::r,m,h=>by
  dsimp only [bindC];rw [qQ fun p hp=>h p (aj _ hp)];have:y≠n:=fun e=>h (n,v) ai e.symm
  split
  ·rfl
  ·exact if_neg this
noncomputable abbrev f8(ps:List String)(vals:List Value):List (Str×Value):=(ps.map Str.ofString).zip vals
section
variable{P:gB}{k:Nat}{c:V}
theorem j8{ps:List String}{vals:List Value}{p:Str×Value}(h:p∈f8 ps vals):∃x∈ps,p.1=Str.ofString x:=by
 have:=(List.of_mem_zip h).1;refine bG (List.mem_map.mp this) fun x hx e=>?_;exact ⟨x,hx,e.symm⟩
theorem ly{h:Heap}{kf:Str→Option NameKind}:∀{ps:List String} {vs:List V} {vals:List Value} {m cm:Str→Option Value},ps.Nodup→aZ W h ρ vs vals→∀x v,jT ps vs x=some v→
  ∃u,aK W h ρ v u∧(kf (Str.ofString x)=some .local→bindL kf (f8 ps vals) m (Str.ofString x)=some u)∧(kf (Str.ofString x)=some .cell→bindC kf (f8 ps vals) cm (Str.ofString x)=some u)
 | [],vs,vals,m,cm,nd,r,x,v,hv=>by simp [jT] at hv
 | p::ps,[],vals,m,cm,nd,r,x,v,hv=>by simp [jT] at hv
 | p::ps,w::vs,vals,m,cm,nd,r,x,v,hv=>by
  refine cS r.E fun y ys t rv rl=>?_;subst t;refine xa (List.nodup_cons.mp nd) fun n1 n2=>?_;unfold jT setL at hv;by_cases e:x=p
  ·subst e;rw [if_pos rfl] at hv;cases hv;refine ⟨y,rv,fun hk=>?_,fun hk=>?_⟩
   ·show bindL kf ((Str.ofString x,y)::f8 ps ys) m _=_;dsimp only [bindL];rw [qR fun q hq e=>?_,if_pos hk,if_pos rfl];refine bG (j8 hq) fun z hz e2=>?_;exact n1 (cO (e.symm.trans e2)▸hz)
   ·show bindC kf ((Str.ofString x,y)::f8 ps ys) cm _=_;dsimp only [bindC];rw [qQ fun q hq e=>?_,if_neg (by rw [hk];decide),if_pos rfl];refine bG (j8 hq) fun z hz e2=>?_;exact n1 (cO (e.symm.trans e2)▸hz)
  ·rw [if_neg e] at hv;exact ly n2 rl x v hv
structure GA(W:Wd)(P:gB)(a:Addr)(d:eS)(o:Obj)(fd:FuncData)(body:List Stmt)(dv:List Value):Prop where
 ob:W.K.lookup a=some o
 dat:o.data=.func fd
 bd:fd.body=.stmts body
 g:fd.globals=mainGlobals
 b:fd.builtins=builtinsNs
 clo:fd.closure=[]
 k:fd.scope.kind=.function
 co:fd.scope.isCoroutine=false
 gen:fd.scope.isGenerator=false
 cd:codeIn W.K fd.code fd.qualname=true
 bind:∀vals:List Value,vals.length≤d.params.length→d.params.length≤vals.length+dv.length→∀S,peek W.K S (bindArgs fd ⟨vals,[]⟩)=some (f8 d.params (vals++dv.drop (vals.length+dv.length-d.params.length)))
 dv:∀p:Addr→Prop,aZ (W.at p) W.h₀ [] d.dflts dv
 var:∀x∈d.params,iZ fd.scope.names (Str.ofString x)=true
 nd:d.params.Nodup
 chk:k8 P fd.scope.names d.body body=true
noncomputable abbrev Fh(W:Wd)(P:gB)(a:Addr)(d:eS):Prop:=∃o fd body dv,GA W P a d o fd body dv
theorem bv.call{fd:FuncData}{f:Addr}{ps:List String}{vs:List V}{vals:List Value}{s₁:Shared}(hg:fd.globals=mainGlobals)(hb:fd.builtins=builtinsNs)(hk:fd.scope.kind=.function)(nd:ps.Nodup)(R:bJ W s.heap ρ σ)(r:aZ W s.heap ρ vs vals)
  (X:InCallC s (callEnvC fd s.heap.objs.size f).locals (bindL (callEnvC fd s.heap.objs.size f).kindOf (f8 ps vals) fun z_=>none) (callEnvC fd s.heap.objs.size f).cells (bindC (callEnvC fd s.heap.objs.size f).kindOf (f8 ps vals) fun z_=>none) s₁) :
  bp gF ρ s ρ s₁∧bJ W s₁.heap ρ σ∧bv W (callEnvC fd s.heap.objs.size f) (jT ps vs) ρ s₁.heap∧∀a,dC (callEnvC fd s.heap.objs.size f) a→s.heap.objs.size≤a:=by
 refine cY X.done fun h₁ tk w kk=>?_;subst w;have hLlt:s.heap.objs.size<h₁.objs.size:=X.toInCall.ns.lt;have hz:s.heap.objs.size≤h₁.objs.size:=cT hLlt;have S:bp gF ρ s ρ {s with heap:=h₁,toks:=tk}:=cR kk hz;have R1:bJ W h₁ ρ σ:=R.keep kk hz;have tk1:bg W s.heap h₁:=fun b o e z_ z_=>kk b o e;have own:∀a,dC (callEnvC fd s.heap.objs.size f) a→s.heap.objs.size≤a:=fun a ha=>by
  refine Or.elim ha (fun e=>?_) (fun y=>xe y fun n e=>?_)
  ·rw [e];exact ax _
  ·exact cT (X.above n a (PySem.mem_of_lookup e))
 have live:∀a,dC (callEnvC fd s.heap.objs.size f) a→∃o,h₁.get? a=some o∧¬kb o:=fun a ha=>by
  refine Or.elim ha (fun e=>?_) (fun z=>xe z fun n e=>?_)
  ·refine tw X.toInCall.ns fun o es ep q1 q2 z_=>?_;exact ⟨o,by rw [e];exact q1,fun t=>xp t fun z_ z_ p=>xe p fun z_ q=>by rw [q2] at q;cases q⟩
  ·refine bG (X.cell n a e) fun o q1 q2=>?_;exact ⟨o,q1,fun j=>xp j fun z_ z_ i=>xe i fun z_ q=>by rw [q2] at q;cases q⟩
 refine ⟨S,R1,⟨hk,hg,hb,⟨_,X.toInCall.ns,fun x v hv hkl=>?_⟩,fun n hn=>?_,fun x v hv hkc=>?_,fun a ha=>?_,live,fun n c e=>?_,fun n n' c e e'=>?_⟩,own⟩
 ·refine f7 (ly (kf:=(callEnvC fd s.heap.objs.size f).kindOf) (m:=fun z_=>none) (cm:=fun z_=>none) nd r x v hv) fun u q1 q2 z_=>?_;exact ⟨u,q2 hkl,q1.mono tk1 (aB _)⟩
 ·have:=g9 (n:=n) (names:=fd.scope.names) (k:=s.heap.objs.size+1) (acc:=[]) (.inl (mem_of_lookup hn));refine xe (Option.isSome_iff_exists.mp this) fun c hc=>?_;exact ⟨c,_,hc,X.cell n c hc⟩
 ·refine f7 (ly (kf:=(callEnvC fd s.heap.objs.size f).kindOf) (m:=fun z_=>none) (cm:=fun z_=>none) nd r x v hv) fun u q1 z_ q3=>?_;have:=g9 (n:=Str.ofString x) (names:=fd.scope.names) (k:=s.heap.objs.size+1) (acc:=[]) (.inl (mem_of_lookup hkc));refine xe (Option.isSome_iff_exists.mp this) fun c hc=>?_;have hcell:=X.cell _ c hc;rw [q3 hkc] at hcell;exact ⟨c,u,hc,hcell,q1.mono tk1 (aB _)⟩
 ·refine bG (live a ha) fun o q1 z_=>?_;exact cb.new R (own a ha) (bo q1)
 ·exact bN (X.above n c (PySem.mem_of_lookup e))
 ·exact name_of_addr X.apart (PySem.mem_of_lookup e) (PySem.mem_of_lookup e')
end
theorem AH{P:gB}{F:Tab}{p:Addr→Prop}{a:Addr}{d:eS}{o:Obj}{fd:FuncData}{body:List Stmt}{dv:List Value}{vs:List V}{vals:List Value}(ok:kW (W.at p) P fa mg mb)(lim:W.h₀.NoLimit)
  (fn:GA W P a d o fd body dv) (co:∀p',kW (W.at p') P fa mg mb→rS (W.at p') fa (aY F n) n) (h1:vs.length≤d.params.length) (h2:d.params.length≤vs.length+d.dflts.length) (h3:dW (aY F n) d.body (jT d.params (vs++d.dflts.drop (vs.length+d.dflts.length-d.params.length))) σ (qB Q))
  (hh:A.handled=none) (hdp:A.depth+3*(n+1)+5≤recursionLimit) (hun:A.units+20*(n+1)+60≤cLine) (R:bJ (W.at p) s.heap ρ σ) (r:aZ (W.at p) s.heap ρ vs vals) :
  codeAny (model W.prog W.w) A (.call (.ref a) ⟨vals,[]⟩) (fun r s'=>∃v,r=.ok (.ret v)∧ci (W.at p) ρ s Q v s') s:=by
 have KX:W.K.In s.heap:=R.K ok.wok;have el:vals.length=vs.length:=r.length;have ed:dv.length=d.dflts.length:=(fn.dv p).length;have r':aZ (W.at p) s.heap ρ (vs++d.dflts.drop (vs.length+d.dflts.length-d.params.length)) (vals++dv.drop (vals.length+dv.length-d.params.length)):=by
  rw [el,ed];exact r.append (((fn.dv p).mono (fun a o e z_ z_=>R.top a o e) List.nil_prefix).drop _)
 refine codeAny_call_function (al (ay (aW _ _) (Nat.lt_add_of_pos_right (by decide))) hdp) (KX _ _ fn.ob) fn.dat fn.co fn.gen fn.bd (codeRec_of KX fn.cd) ?_;refine (Looks.of_peek KX (fn.bind vals (el▸h1) (by rw [el,ed];exact h2) _)).here ?_;rw [fn.clo];refine wpAny_newFunctionEnv_cells fn.k (fun x hx=>?_) fun env he s₁ Y=>?_
 ·have ⟨y,hy,e⟩:=j8 hx;rw [e];exact (cf.1 (fn.var y hy)).imp aF fun q=>⟨aF q,g9 (.inl (mem_of_lookup (aF q)))⟩
 ·subst he;have Z:=bv.call (f:=a) fn.g fn.b fn.k fn.nd R r' Y;refine ⟨lim.keeps fun b o e=>Z.2.1.top b o e,codeAny_func ?_⟩;have X:eB (W.at p) P fa mg mb (aY F n) n (A.deeper (callEnvC fd s.heap.objs.size a)):=⟨ok,co,hh,by show A.depth+1+3*n+7≤_;rw [Nat.add_right_comm A.depth];exact hdp,by rw [Around.deeper_units,Nat.add_right_comm A.units];exact hun⟩
  refine aH (ql d.body X (env:=callEnvC fd s.heap.objs.size a) fn.chk rfl Z.2.2.1 Z.2.1 h3) (fun f s₂ h=>?_) fun z_ z_ e=>e;refine dk h fun ρ₂ σ₂ loc₂ fl S₂ R₂ O₂ hf hq=>?_;refine ⟨_,rfl,ρ₂,σ₂,_,(Z.1.any.trans S₂).drop fun z hz=>.inr (Z.2.2.2 z hz),R₂,?_,hq⟩;cases f<;>cases fl<;>first | exact hf.elim | exact .none | exact hf
theorem Dg{P:gB}{F:Tab}(T:∀key d,F key=some d→∃a,fa key=some a∧Fh W P a d)(lim:W.h₀.NoLimit)(n:Nat):∀p:Addr→Prop,kW (W.at p) P fa mg mb→rS (W.at p) fa (aY F n) n:=by
 induction n with
 | zero=>exact fun p ok key vs σ Q h=>by rw [vO] at h;exact h.elim
 | succ n ih =>
  intro p ok key vs σ Q h;rw [pe] at h;refine Fd h fun d hd h1 h2 h3=>?_;refine ED (T key d hd) fun a ha o fd body dv fn=>?_;exact ⟨a,ha,fun A s ρ vals hh hdp hun R r=>AH (W:=W) ok lim fn ih h1 h2 h3 hh hdp hun R r⟩
noncomputable def kT:E:=(.cmp .ne (.var "waiting") (.list []))
noncomputable def kS:List S:=[.assign (.name "here") (.bm .lpop (.var "waiting") []),.ite (.or [(.not (.prim .isTuple [(.var "here")])),(.cmp .eq (.var "here") (.tup []))]) [.cont] [],.assign (.name "kind") (.sub (.var "here") (.const (.int 0))),.ite (.cmp .isIn (.var "kind") (.glob "REFERRING" (.tup [(.str "ptr"),(.str "slice"),(.str "map"),(.str "chan"),(.str "iter")]))) [.assign (.name "number") (.ite (.prim .isTuple [(.sub (.var "here") (.const (.int 1)))]) (.sub (.sub (.var "here") (.const (.int 1))) (.const (.int 0))) (.sub (.var "here") (.const (.int 1)))),.ite (.cmp .notIn (.var "number") (.var "found")) [.expr (.bm .append (.var "found") [(.var "number")])] []] [.ite (.or [(.cmp .eq (.var "kind") (.const (.str "func"))),(.cmp .eq (.var "kind") (.const (.str "face")))]) [.stuck] [.ite (.or [(.cmp .eq (.var "kind") (.const (.str "struct"))),(.cmp .eq (.var "kind") (.const (.str "array")))]) [.stuck] []]]]
noncomputable def fT:eS:=⟨["value"],[],[.assign (.names ["found","waiting"]) (.tup [(.list []),(.list [(.var "value")])]),.whil kT kS,.ret (.var "found")]⟩
noncomputable def j5:E:=(.prim .len [(.var "told")])
noncomputable def gk:List E:=[]
noncomputable def iw:eS:=⟨["summary"],[],[.ret (.bin .add (.bin .add (.prim .len [(.attr (.var "summary") "leaks")]) (.prim .len [(.attr (.var "summary") "kept")])) (.prim .sum [(.comp j5 (.name "told") .values [(.attr (.var "summary") "told")] gk)]))]⟩
noncomputable def ma:List S:=[.assign (.sub (.var "summaries") (.var "key")) (.new "Summary" [])]
noncomputable def gH:E:=(.call "size_of_summary" [(.sub (.var "summaries") (.var "key"))])
noncomputable def gI:List E:=[]
noncomputable def md:E:=(.cmp .ne (.var "ahead") (.prim .sum [(.comp gH (.name "key") .over [(.var "codes")] gI)]))
noncomputable def rW:E:=(.call "size_of_summary" [(.sub (.var "summaries") (.var "key"))])
noncomputable def rX:List E:=[]
noncomputable def jj:List S:=[.assign (.sub (.var "found") (.var "site")) (.ite (.cmp .isIn (.var "site") (.attr (.var "flow") "gone")) (.glob "HEAP" (.str "heap")) (.glob "FRAME" (.str "frame")))]
noncomputable def ji:List S:=[.assign (.name "flow") (.new "EscapeFlow" [(.sub (.var "codes") (.var "key")),(.var "summaries")]),.expr (.meth "EscapeFlow" (.var "flow") "go_through" []),.assign (.sub (.var "summaries") (.var "key")) (.attr (.var "flow") "summary"),.forr (.name "site") .over [(.attr (.var "flow") "sites")] jj]
noncomputable def mc:List S:=[.assign (.name "ahead") (.prim .sum [(.comp rW (.name "key") .over [(.var "codes")] rX)]),.forr (.name "key") .over [(.prim .sorted [(.var "codes")])] ji]
noncomputable def qM:eS:=⟨["codes"],[],[.assign (.names ["summaries","found","ahead"]) (.tup [(.dict []),(.dict []),(.const (.int (-1)))]),.forr (.name "key") .over [(.var "codes")] ma,.whil md mc,.ret (.var "found")]⟩
noncomputable def iu:eS:=⟨["script","k"],[],[.assign (.name "cell") (.const (.int 0)),.ite (.cmp .lt (.var "k") (.prim .len [(.var "script")])) [.assign (.name "cell") (.sub (.var "script") (.var "k"))] [],.assign (.name "big") (.prim .max [(.prim .int [(.var "cell")]),(.prim .int [(.bin .sub (.const (.int (-1))) (.var "cell"))])]),.assign (.name "mixed") (.bin .mod (.prim .int [(.bin .mul (.bin .add (.bin .add (.bin .add (.bin .mod (.prim .int [(.var "big")]) (.const (.int 2147483629))) (.bin .mul (.bin .mul (.const (.int 7919)) (.var "k")) (.var "k"))) (.bin .mul (.const (.int 31)) (.var "k"))) (.const (.int 17))) (.const (.int 48271)))]) (.const (.int 2147483647))),.ret (.list [(.bin .mul (.var "big") (.prim .int [(.cmp .ge (.var "big") (.const (.int 1000000000000000000)))])),(.var "mixed")])]⟩
noncomputable def nY:eS:=⟨["source","top"],[],[.ite (.cmp .gt (.sub (.var "source") (.const (.int 0))) (.const (.int 0))) [.assign (.name "drawn") (.bin .mod (.prim .int [(.sub (.var "source") (.const (.int 0)))]) (.var "top")),.assign (.sub (.var "source") (.const (.int 0))) (.bin .div (.sub (.var "source") (.const (.int 0))) (.var "top")),.ret (.var "drawn")] [],.assign (.sub (.var "source") (.const (.int 1))) (.bin .mod (.prim .int [(.bin .add (.bin .mul (.sub (.var "source") (.const (.int 1))) (.const (.int 39373))) (.const (.int 7)))]) (.const (.int 2147483647))),.ret (.bin .mod (.prim .int [(.bin .div (.bin .mod (.prim .int [(.bin .mul (.sub (.var "source") (.const (.int 1))) (.sub (.var "source") (.const (.int 1))))]) (.const (.int 2147483629))) (.const (.int 32)))]) (.var "top"))]⟩
noncomputable def oY:eS:=⟨["source","things"],[],[.ret (.sub (.var "things") (.call "_law_take" [(.var "source"),(.prim .len [(.var "things")])]))]⟩
noncomputable def kX:eS:=⟨[],[],[.ret (.tup [(.const (.str "const")),(.glob "_law_T" (.tup [(.str "ptr"),(.tup [(.str "int"),(.str "int")])])),(.tup [(.const (.str "ptr")),(.const (.str "main.g")),(.tup [])])])]⟩
noncomputable def lZ:E:=(.tup [(.const (.str "reg")),(.var "at")])
noncomputable def l7:List E:=[]
noncomputable def j4:eS:=⟨["source"],[],[.ret (.call "_law_one" [(.var "source"),(.bin .add (.comp lZ (.name "at") .range [(.const (.int 6))] l7) (.list [(.tup [(.const (.str "reg")),(.const (.int 0))]),(.tup [(.const (.str "reg")),(.const (.int 1))])]))])]⟩
noncomputable def gX:eS:=⟨["source","key","at"],[],[.assign (.names ["way","d"]) (.tup [(.call "_law_take" [(.var "source"),(.const (.int 10))]),(.bin .add (.const (.int 2)) (.call "_law_take" [(.var "source"),(.const (.int 4))]))]),.ite (.cmp .lt (.var "way") (.const (.int 2))) [.ret (.tup [(.const (.str "new")),(.var "d"),(.glob "_law_T" (.tup [(.str "ptr"),(.tup [(.str "int"),(.str "int")])])),(.tup [(.var "key"),(.var "at")])])] [],.ite (.cmp .lt (.var "way") (.const (.int 4))) [.ret (.tup [(.const (.str "store")),(.call "_law_operand" [(.var "source")]),(.call "_law_operand" [(.var "source")])])] [],.ite (.cmp .eq (.var "way") (.const (.int 4))) [.ret (.tup [(.const (.str "load")),(.var "d"),(.call "_law_operand" [(.var "source")])])] [],.ite (.cmp .eq (.var "way") (.const (.int 5))) [.assign (.name "one") (.call "_law_operand" [(.var "source")]),.ret (.call "_law_one" [(.var "source"),(.list [(.tup [(.const (.str "store")),(.call "_law_GLOBAL" []),(.var "one")]),(.tup [(.const (.str "load")),(.var "d"),(.call "_law_GLOBAL" [])]),(.tup [(.const (.str "move")),(.var "d"),(.var "one")])])])] [],.ite (.cmp .eq (.var "way") (.const (.int 6))) [.ret (.tup [(.const (.str "struct")),(.const (.int 6)),(.tup [(.call "_law_operand" [(.var "source")]),(.call "_law_operand" [(.var "source")])])])] [],.ite (.cmp .eq (.var "way") (.const (.int 7))) [.ret (.tup [(.const (.str "part")),(.var "d"),(.tup [(.const (.str "reg")),(.const (.int 6))]),(.call "_law_take" [(.var "source"),(.const (.int 2))])])] [],.assign (.name "called") (.tup [(.const (.str "fn")),(.call "_law_one" [(.var "source"),(.list [(.const (.str "f")),(.const (.str "g")),(.const (.str "h"))])])]),.ret (.tup [(.const (.str "call")),(.tup [(.var "d"),(.bin .add (.const (.int 2)) (.call "_law_take" [(.var "source"),(.const (.int 4))]))]),(.var "called"),(.tup [(.call "_law_operand" [(.var "source")]),(.call "_law_operand" [(.var "source")])])])]⟩
noncomputable def jQ:E:=(.call "_law_instruction" [(.var "source"),(.var "key"),(.var "at")])
noncomputable def jR:List E:=[]
noncomputable def jP:List S:=[.assign (.name "lines") (.comp jQ (.name "at") .range [(.bin .add (.const (.int 3)) (.call "_law_take" [(.var "source"),(.const (.int 5))]))] jR),.assign (.name "end") (.tup [(.const (.str "return")),(.tup [(.call "_law_operand" [(.var "source")]),(.call "_law_operand" [(.var "source")])])]),.assign (.sub (.var "found") (.var "key")) (.new "Code" [(.var "key"),(.const (.int 2)),(.bin .mul (.list [(.glob "_law_T" (.tup [(.str "ptr"),(.tup [(.str "int"),(.str "int")])]))]) (.const (.int 7))),(.list [(.list [(.var "lines"),(.var "end")])]),(.const (.int 0)),(.const (.int 2))])]
noncomputable def lX:eS:=⟨["source"],[],[.assign (.name "found") (.dict []),.forr (.name "key") .over [(.list [(.const (.str "f")),(.const (.str "g")),(.const (.str "h"))])] jP,.ret (.var "found")]⟩
noncomputable def gA:E:=(.cmp .ne (.var "left") (.list []))
noncomputable def gz:List S:=[.assign (.name "here") (.bm .lpop (.var "left") []),.ite (.prim .isTuple [(.var "here")]) [.expr (.bm .extend (.var "left") [(.var "here")])] [.ite (.and [(.cmp .notNone (.var "here") (.const .none)),(.cmp .notIn (.var "here") (.var "found"))]) [.expr (.bm .append (.var "found") [(.var "here")]),.expr (.bm .append (.var "left") [(.bm .get (.sub (.var "book") (.const (.str "held"))) [(.var "here")])])] []]]
noncomputable def lY:eS:=⟨["book","some"],[],[.assign (.names ["found","left"]) (.tup [(.list []),(.prim .list [(.var "some")])]),.whil gA gz,.ret (.var "found")]⟩
noncomputable def nX:eS:=⟨["registers","operand"],[],[.ite (.cmp .eq (.sub (.var "operand") (.const (.int 0))) (.const (.str "const"))) [.ret (.ite (.cmp .isNone (.sub (.var "operand") (.const (.int 2))) (.const .none)) (.const .none) (.const (.int 0)))] [],.ret (.sub (.var "registers") (.sub (.var "operand") (.const (.int 1))))]⟩
noncomputable def o0:E:=(.call "_law_plain" [(.call "_law_read" [(.var "registers"),(.var "operand")])])
noncomputable def o7:List E:=[]
noncomputable def o6:E:=(.call "_law_read" [(.var "registers"),(.var "operand")])
noncomputable def o8:List E:=[]
noncomputable def oZ:List S:=[.assign (.sub (.var "registers") (.var "register")) (.var "value")]
noncomputable def dG:eS:=⟨["book","registers","line","owned","above"],[],[.assign (.name "word") (.sub (.var "line") (.const (.int 0))),.ite (.cmp .eq (.var "word") (.const (.str "new"))) [.assign (.sub (.var "book") (.const (.str "made"))) (.bin .add (.sub (.var "book") (.const (.str "made"))) (.const (.int 1))),.assign (.sub (.var "registers") (.sub (.var "line") (.const (.int 1)))) (.sub (.var "book") (.const (.str "made"))),.assign (.sub (.sub (.var "book") (.const (.str "held"))) (.sub (.var "book") (.const (.str "made")))) (.const .none),.ite (.cmp .eq (.sub (.sub (.var "book") (.const (.str "told"))) (.sub (.var "line") (.const (.int 3)))) (.const (.str "frame"))) [.expr (.bm .append (.var "owned") [(.sub (.var "book") (.const (.str "made")))])] []] [.ite (.cmp .eq (.var "word") (.const (.str "store"))) [.assign (.name "goal") (.call "_law_read" [(.var "registers"),(.sub (.var "line") (.const (.int 1)))]),.ite (.prim .isInt [(.var "goal")]) [.assign (.sub (.sub (.var "book") (.const (.str "held"))) (.var "goal")) (.call "_law_read" [(.var "registers"),(.sub (.var "line") (.const (.int 2)))])] []] [.ite (.cmp .eq (.var "word") (.const (.str "load"))) [.assign (.name "place") (.call "_law_read" [(.var "registers"),(.sub (.var "line") (.const (.int 2)))]),.assign (.sub (.var "registers") (.sub (.var "line") (.const (.int 1)))) (.ite (.prim .isInt [(.var "place")]) (.bm .get (.sub (.var "book") (.const (.str "held"))) [(.var "place")]) (.const .none))] [.ite (.cmp .eq (.var "word") (.const (.str "move"))) [.assign (.sub (.var "registers") (.sub (.var "line") (.const (.int 1)))) (.call "_law_read" [(.var "registers"),(.sub (.var "line") (.const (.int 2)))])] [.ite (.cmp .eq (.var "word") (.const (.str "struct"))) [.assign (.sub (.var "registers") (.const (.int 6))) (.prim .tuple [(.comp o0 (.name "operand") .over [(.sub (.var "line") (.const (.int 2)))] o7)])] [.ite (.cmp .eq (.var "word") (.const (.str "part"))) [.assign (.sub (.var "registers") (.sub (.var "line") (.const (.int 1)))) (.ite (.prim .isTuple [(.sub (.var "registers") (.const (.int 6)))]) (.sub (.sub (.var "registers") (.const (.int 6))) (.sub (.var "line") (.const (.int 3)))) (.const .none))] [.assign (.name "given") (.comp o6 (.name "operand") .over [(.sub (.var "line") (.const (.int 3)))] o8),.forr (.pair "register" "value") .zip [(.sub (.var "line") (.const (.int 1))),(.call "_law_called" [(.var "book"),(.sub (.sub (.var "line") (.const (.int 2))) (.const (.int 1))),(.var "given"),(.bin .add (.var "above") (.list [(.var "registers")]))])] oZ]]]]]]]⟩
noncomputable def l9:eS:=⟨["value"],[],[.ret (.ite (.prim .isTuple [(.var "value")]) (.const .none) (.var "value"))]⟩
noncomputable def iR:List S:=[.expr (.call "_law_step" [(.var "book"),(.var "registers"),(.var "line"),(.var "owned"),(.var "above")])]
noncomputable def nr:E:=(.call "_law_read" [(.var "registers"),(.var "operand")])
noncomputable def nt:List E:=[]
noncomputable def fR:E:=(.var "value")
noncomputable def fS:List E:=[]
noncomputable def iT:E:=(.var "one")
noncomputable def iU:List E:=[(.cmp .isIn (.var "one") (.var "owned"))]
noncomputable def iS:List S:=[.expr (.bm .dpop (.sub (.var "book") (.const (.str "held"))) [(.var "one")])]
noncomputable def dO:eS:=⟨["book","key","given","above"],[],[.assign (.sub (.var "book") (.const (.str "fuel"))) (.bin .sub (.sub (.var "book") (.const (.str "fuel"))) (.const (.int 1))),.ite (.or [(.cmp .lt (.sub (.var "book") (.const (.str "fuel"))) (.const (.int 0))),(.cmp .gt (.prim .len [(.var "above")]) (.const (.int 4)))]) [.ret (.tup [(.const .none),(.const .none)])] [],.assign (.names ["registers","owned"]) (.tup [(.bin .add (.prim .list [(.var "given")]) (.bin .mul (.list [(.const .none)]) (.const (.int 5)))),(.list [])]),.assign (.names ["lines","end"]) (.sub (.attr (.sub (.sub (.var "book") (.const (.str "codes"))) (.var "key")) "blocks") (.const (.int 0))),.forr (.name "line") .over [(.var "lines")] iR,.assign (.name "told") (.prim .tuple [(.comp nr (.name "operand") .over [(.sub (.var "end") (.const (.int 1)))] nt)]),.assign (.name "some") (.bin .add (.bin .add (.comp2 fR (.name "one") .over [(.var "above")] (.name "value") .over [(.var "one")] fS) (.prim .list [(.var "told")])) (.list [(.const (.int 0))])),.ite (.and [(.cmp .ne (.var "owned") (.list [])),(.cmp .ne (.comp iT (.name "one") .over [(.call "_law_leads" [(.var "book"),(.var "some")])] iU) (.list []))]) [.assign (.sub (.var "book") (.const (.str "safe"))) (.const (.bool false))] [],.forr (.name "one") .over [(.var "owned")] iS,.ret (.var "told")]⟩
noncomputable def dY:E:=(.sub (.var "line") (.const (.int 3)))
noncomputable def dZ:List E:=[(.cmp .eq (.sub (.var "line") (.const (.int 0))) (.const (.str "new")))]
noncomputable def j3:eS:=⟨["codes","key"],[],[.assign (.name "told") (.call "escapes" [(.var "codes")]),.assign (.name "due") (.comp2 dY (.name "name") .over [(.var "codes")] (.name "line") .over [(.sub (.sub (.attr (.sub (.var "codes") (.var "name")) "blocks") (.const (.int 0))) (.const (.int 0)))] dZ),.ite (.cmp .ne (.prim .sorted [(.var "told")]) (.prim .sorted [(.var "due")])) [.ret (.const (.bool false))] [],.assign (.name "book") (.dict [((.const (.str "codes")),(.var "codes")),((.const (.str "told")),(.var "told")),((.const (.str "held")),(.dict [((.const (.int 0)),(.const .none)),((.const (.int 1)),(.const .none)),((.const (.int 2)),(.const (.int 1)))])),((.const (.str "made")),(.const (.int 2))),((.const (.str "fuel")),(.const (.int 30))),((.const (.str "safe")),(.const (.bool true)))]),.expr (.call "_law_called" [(.var "book"),(.var "key"),(.list [(.const (.int 1)),(.const (.int 2))]),(.list [(.list [(.const (.int 1)),(.const (.int 2))])])]),.ret (.sub (.var "book") (.const (.str "safe")))]⟩
noncomputable def gY:eS:=⟨[],[],[.assign (.name "new") (.tup [(.const (.str "new")),(.const (.int 2)),(.glob "_law_T" (.tup [(.str "ptr"),(.tup [(.str "int"),(.str "int")])])),(.const (.int 5))]),.assign (.name "codes") (.dict [((.const (.str "f")),(.new "Code" [(.const (.str "f")),(.const (.int 2)),(.bin .mul (.list [(.glob "_law_T" (.tup [(.str "ptr"),(.tup [(.str "int"),(.str "int")])]))]) (.const (.int 7))),(.list [(.list [(.list [(.var "new")]),(.tup [(.const (.str "return")),(.tup [(.tup [(.const (.str "reg")),(.const (.int 2))]),(.tup [(.const (.str "reg")),(.const (.int 0))])])])])]),(.const (.int 0)),(.const (.int 2))]))]),.assign (.name "lines") (.list [(.tup [(.const (.str "new")),(.const (.int 2)),(.glob "_law_T" (.tup [(.str "ptr"),(.tup [(.str "int"),(.str "int")])])),(.const (.int 6))]),(.tup [(.const (.str "new")),(.const (.int 3)),(.glob "_law_T" (.tup [(.str "ptr"),(.tup [(.str "int"),(.str "int")])])),(.const (.int 7))]),(.tup [(.const (.str "store")),(.tup [(.const (.str "reg")),(.const (.int 2))]),(.tup [(.const (.str "reg")),(.const (.int 3))])]),(.tup [(.const (.str "load")),(.const (.int 4)),(.tup [(.const (.str "reg")),(.const (.int 2))])])]),.assign (.sub (.var "codes") (.const (.str "g"))) (.new "Code" [(.const (.str "g")),(.const (.int 2)),(.bin .mul (.list [(.glob "_law_T" (.tup [(.str "ptr"),(.tup [(.str "int"),(.str "int")])]))]) (.const (.int 7))),(.list [(.list [(.var "lines"),(.tup [(.const (.str "return")),(.tup [(.tup [(.const (.str "reg")),(.const (.int 0))]),(.tup [(.const (.str "reg")),(.const (.int 1))])])])])]),(.const (.int 0)),(.const (.int 2))]),.assign (.name "lines") (.list [(.tup [(.const (.str "new")),(.const (.int 2)),(.glob "_law_T" (.tup [(.str "ptr"),(.tup [(.str "int"),(.str "int")])])),(.const (.int 8))]),(.tup [(.const (.str "store")),(.tup [(.const (.str "reg")),(.const (.int 0))]),(.tup [(.const (.str "reg")),(.const (.int 2))])])]),.assign (.sub (.var "codes") (.const (.str "h"))) (.new "Code" [(.const (.str "h")),(.const (.int 2)),(.bin .mul (.list [(.glob "_law_T" (.tup [(.str "ptr"),(.tup [(.str "int"),(.str "int")])]))]) (.const (.int 7))),(.list [(.list [(.var "lines"),(.tup [(.const (.str "return")),(.tup [(.tup [(.const (.str "reg")),(.const (.int 0))]),(.tup [(.const (.str "reg")),(.const (.int 1))])])])])]),(.const (.int 0)),(.const (.int 2))]),.ret (.cmp .eq (.call "escapes" [(.var "codes")]) (.dict [((.const (.int 5)),(.const (.str "heap"))),((.const (.int 6)),(.const (.str "frame"))),((.const (.int 7)),(.const (.str "frame"))),((.const (.int 8)),(.const (.str "heap")))]))]⟩
noncomputable def l8:eS:=⟨["first","second"],[],[.assign (.name "codes") (.dict [((.const (.str "h")),(.new "Code" [(.const (.str "h")),(.const (.int 2)),(.bin .mul (.list [(.glob "_law_T" (.tup [(.str "ptr"),(.tup [(.str "int"),(.str "int")])]))]) (.const (.int 7))),(.list [(.list [(.list []),(.tup [(.const (.str "return")),(.tup [(.tup [(.const (.str "reg")),(.const (.int 0))]),(.tup [(.const (.str "reg")),(.const (.int 1))])])])])]),(.const (.int 0)),(.const (.int 2))]))]),.assign (.name "nothing") (.tup [(.const (.str "const")),(.glob "_law_T" (.tup [(.str "ptr"),(.tup [(.str "int"),(.str "int")])])),(.const .none)]),.assign (.sub (.var "codes") (.const (.str "g"))) (.new "Code" [(.const (.str "g")),(.const (.int 2)),(.bin .mul (.list [(.glob "_law_T" (.tup [(.str "ptr"),(.tup [(.str "int"),(.str "int")])]))]) (.const (.int 7))),(.list [(.list [(.var "first"),(.tup [(.const (.str "return")),(.tup [(.var "nothing"),(.var "nothing")])])])]),(.const (.int 0)),(.const (.int 2))]),.assign (.name "begin") (.list [(.tup [(.const (.str "new")),(.const (.int 2)),(.glob "_law_T" (.tup [(.str "ptr"),(.tup [(.str "int"),(.str "int")])])),(.tup [(.const (.str "f")),(.const (.int 1))])]),(.tup [(.const (.str "new")),(.const (.int 3)),(.glob "_law_T" (.tup [(.str "ptr"),(.tup [(.str "int"),(.str "int")])])),(.tup [(.const (.str "f")),(.const (.int 2))])]),(.tup [(.const (.str "store")),(.tup [(.const (.str "reg")),(.const (.int 2))]),(.tup [(.const (.str "reg")),(.const (.int 3))])])]),.expr (.bm .append (.var "begin") [(.tup [(.const (.str "call")),(.tup [(.const (.int 4)),(.const (.int 5))]),(.tup [(.const (.str "fn")),(.const (.str "g"))]),(.tup [(.tup [(.const (.str "reg")),(.const (.int 2))]),(.tup [(.const (.str "reg")),(.const (.int 3))])])])]),.assign (.sub (.var "codes") (.const (.str "f"))) (.new "Code" [(.const (.str "f")),(.const (.int 2)),(.bin .mul (.list [(.glob "_law_T" (.tup [(.str "ptr"),(.tup [(.str "int"),(.str "int")])]))]) (.const (.int 7))),(.list [(.list [(.bin .add (.var "begin") (.var "second")),(.tup [(.const (.str "return")),(.tup [(.tup [(.const (.str "reg")),(.const (.int 5))]),(.tup [(.const (.str "reg")),(.const (.int 0))])])])])]),(.const (.int 0)),(.const (.int 2))]),.ret (.var "codes")]⟩
noncomputable def gD:E:=(.var "row")
noncomputable def gE:List E:=[(.not (.call "_law_is_safe" [(.call "_law_pairs" [(.sub (.var "row") (.const (.int 0))),(.sub (.var "row") (.const (.int 1)))]),(.const (.str "f"))]))]
noncomputable def ey:eS:=⟨[],[],[.assign (.names ["one","other"]) (.tup [(.tup [(.const (.str "reg")),(.const (.int 0))]),(.tup [(.const (.str "reg")),(.const (.int 1))])]),.assign (.names ["load","twice"]) (.tup [(.list [(.tup [(.const (.str "load")),(.const (.int 5)),(.tup [(.const (.str "reg")),(.const (.int 2))])])]),(.list [(.tup [(.const (.str "load")),(.const (.int 4)),(.tup [(.const (.str "reg")),(.const (.int 2))])]),(.tup [(.const (.str "load")),(.const (.int 5)),(.tup [(.const (.str "reg")),(.const (.int 4))])])])]),.assign (.name "rows") (.list [(.tup [(.list [(.tup [(.const (.str "store")),(.var "one"),(.var "one")])]),(.var "load")]),(.tup [(.list [(.tup [(.const (.str "load")),(.const (.int 2)),(.var "one")]),(.tup [(.const (.str "store")),(.tup [(.const (.str "reg")),(.const (.int 2))]),(.var "one")])]),(.var "twice")])]),.expr (.bm .append (.var "rows") [(.tup [(.list [(.tup [(.const (.str "store")),(.var "one"),(.var "other")]),(.tup [(.const (.str "load")),(.const (.int 2)),(.var "one")]),(.tup [(.const (.str "store")),(.tup [(.const (.str "reg")),(.const (.int 2))]),(.var "one")])]),(.list [(.tup [(.const (.str "load")),(.const (.int 5)),(.tup [(.const (.str "reg")),(.const (.int 3))])])])])]),.expr (.bm .append (.var "rows") [(.tup [(.list [(.tup [(.const (.str "new")),(.const (.int 2)),(.glob "_law_T" (.tup [(.str "ptr"),(.tup [(.str "int"),(.str "int")])])),(.tup [(.const (.str "g")),(.const (.int 1))])]),(.tup [(.const (.str "store")),(.tup [(.const (.str "reg")),(.const (.int 2))]),(.var "other")]),(.tup [(.const (.str "store")),(.var "one"),(.tup [(.const (.str "reg")),(.const (.int 2))])])]),(.var "twice")])]),.ret (.cmp .eq (.comp gD (.name "row") .over [(.var "rows")] gE) (.list []))]⟩
noncomputable def EG:eS:=⟨["script"],[],[.ite (.or [(.not (.call "_law_small_right" [])),(.not (.call "_law_met_right" []))]) [.ret (.const (.bool false))] [],.assign (.name "source") (.call "_law_pool" [(.var "script"),(.const (.int 0))]),.assign (.name "codes") (.call "_law_codes" [(.var "source")]),.ret (.and [(.call "_law_is_safe" [(.var "codes"),(.call "_law_one" [(.var "source"),(.list [(.const (.str "f")),(.const (.str "g")),(.const (.str "h"))])])]),(.call "_law_is_safe" [(.var "codes"),(.const (.str "f"))])])]⟩
noncomputable def gW:eS:=⟨["self"],[],[.assign (.attr (.var "self") "leaks") (.dict []),.assign (.attr (.var "self") "kept") (.dict []),.assign (.attr (.var "self") "told") (.dict [])]⟩
noncomputable def ir:eS:=⟨["self","at"],[],[.ret (.bm .setdefault (.attr (.var "self") "told") [(.var "at"),(.dict [])])]⟩
noncomputable def eH:List S:=[.assign (.sub (.attr (.var "self") "held") (.var "register")) (.dict [((.tup [(.const (.str "outer")),(.var "register")]),(.const (.bool true)))])]
noncomputable def dS:eS:=⟨["self","code","summaries"],[],[.assign (.attr (.var "self") "code") (.var "code"),.assign (.attr (.var "self") "summaries") (.var "summaries"),.assign (.attr (.var "self") "held") (.dict []),.assign (.attr (.var "self") "inside") (.dict []),.assign (.attr (.var "self") "sites") (.dict []),.assign (.attr (.var "self") "gone") (.dict []),.assign (.attr (.var "self") "summary") (.new "Summary" []),.assign (.attr (.var "self") "is_new") (.const (.bool false)),.forr (.name "register") .range [(.bin .add (.attr (.var "code") "captured") (.attr (.var "code") "params"))] eH]⟩
noncomputable def fC:eS:=⟨["self","operand"],[],[.ite (.cmp .isNone (.var "operand") (.const .none)) [.ret (.list [])] [],.ite (.cmp .eq (.sub (.var "operand") (.const (.int 0))) (.const (.str "reg"))) [.ret (.prim .list [(.bm .get (.attr (.var "self") "held") [(.sub (.var "operand") (.const (.int 1))),(.dict [])])])] [],.ret (.ite (.cmp .ne (.call "objects_within" [(.sub (.var "operand") (.const (.int 2)))]) (.list [])) (.list [(.glob "BEYOND" (.tup [(.str "beyond")]))]) (.list []))]⟩
noncomputable def dF:List S:=[.expr (.bm .extend (.var "found") [(.meth "EscapeFlow" (.var "self") "tokens_of" [(.var "operand")])])]
noncomputable def eo:eS:=⟨["self","operands"],[],[.assign (.name "found") (.list []),.forr (.name "operand") .over [(.var "operands")] dF,.ret (.var "found")]⟩
noncomputable def fc:E:=(.cmp .ne (.var "waiting") (.list []))
noncomputable def fb:List S:=[.assign (.name "token") (.bm .lpop (.var "waiting") []),.ite (.cmp .notIn (.var "token") (.var "found")) [.assign (.sub (.var "found") (.var "token")) (.const (.bool true)),.expr (.bm .extend (.var "waiting") [(.meth "EscapeFlow" (.var "self") "loaded" [(.list [(.var "token")])])])] []]
noncomputable def gj:eS:=⟨["self","tokens"],[],[.assign (.names ["found","waiting"]) (.tup [(.dict []),(.prim .list [(.var "tokens")])]),.whil fc fb,.ret (.prim .list [(.var "found")])]⟩
noncomputable def dI:List S:=[.ite (.cmp .eq (.var "token") (.tup [(.const (.str "outer")),(.var "outer")])) [.assign (.sub (.var "found") (.ite (.cmp .eq (.var "inner") (.glob "UNKNOWN" (.int (-1)))) (.glob "BEYOND" (.tup [(.str "beyond")])) (.tup [(.const (.str "outer")),(.var "inner")]))) (.const (.bool true))] []]
noncomputable def fB:List S:=[.assign (.sub (.var "found") (.var "inner")) (.const (.bool true))]
noncomputable def cE:List S:=[.ite (.cmp .ne (.sub (.var "token") (.const (.int 0))) (.const (.str "site"))) [.assign (.sub (.var "found") (.var "token")) (.const (.bool true)),.forr (.pair "inner" "outer") .over [(.attr (.attr (.var "self") "summary") "kept")] dI,.cont] [],.forr (.name "inner") .over [(.bm .get (.attr (.var "self") "inside") [(.sub (.var "token") (.const (.int 1))),(.dict [])])] fB,.ite (.cmp .isIn (.sub (.var "token") (.const (.int 1))) (.attr (.var "self") "gone")) [.assign (.sub (.var "found") (.glob "BEYOND" (.tup [(.str "beyond")]))) (.const (.bool true))] []]
noncomputable def gC:eS:=⟨["self","tokens"],[],[.assign (.name "found") (.dict []),.forr (.name "token") .over [(.var "tokens")] cE,.ret (.prim .list [(.var "found")])]⟩
noncomputable def iq:eS:=⟨["self","table","key"],[],[.ite (.cmp .notIn (.var "key") (.var "table")) [.assign (.sub (.var "table") (.var "key")) (.const (.bool true)),.assign (.attr (.var "self") "is_new") (.const (.bool true))] []]⟩
noncomputable def gh:List S:=[.expr (.meth "EscapeFlow" (.var "self") "note" [(.var "held"),(.var "token")])]
noncomputable def im:eS:=⟨["self","register","tokens"],[],[.ite (.cmp .notNone (.var "register") (.const .none)) [.assign (.name "held") (.bm .setdefault (.attr (.var "self") "held") [(.var "register"),(.dict [])]),.forr (.name "token") .over [(.var "tokens")] gh] []]⟩
noncomputable def ip:eS:=⟨["self","register","site"],[],[.expr (.meth "EscapeFlow" (.var "self") "note" [(.attr (.var "self") "sites"),(.var "site")]),.expr (.meth "EscapeFlow" (.var "self") "give" [(.var "register"),(.list [(.tup [(.const (.str "site")),(.var "site")])])])]⟩
noncomputable def j2:List S:=[.ite (.cmp .eq (.sub (.var "token") (.const (.int 0))) (.const (.str "site"))) [.expr (.meth "EscapeFlow" (.var "self") "note" [(.attr (.var "self") "gone"),(.sub (.var "token") (.const (.int 1)))])] [.ite (.cmp .eq (.sub (.var "token") (.const (.int 0))) (.const (.str "outer"))) [.expr (.meth "EscapeFlow" (.var "self") "note" [(.attr (.attr (.var "self") "summary") "leaks"),(.sub (.var "token") (.const (.int 1)))])] []]]
noncomputable def io:eS:=⟨["self","tokens"],[],[.forr (.name "token") .over [(.meth "EscapeFlow" (.var "self") "reached" [(.var "tokens")])] j2]⟩
noncomputable def kR:List S:=[.expr (.meth "EscapeFlow" (.var "self") "note" [(.var "held"),(.var "token")])]
noncomputable def kQ:List S:=[.ite (.cmp .eq (.var "target") (.glob "BEYOND" (.tup [(.str "beyond")]))) [.expr (.meth "EscapeFlow" (.var "self") "leak" [(.var "tokens")])] [.ite (.cmp .eq (.sub (.var "target") (.const (.int 0))) (.const (.str "outer"))) [.expr (.meth "EscapeFlow" (.var "self") "put_out" [(.sub (.var "target") (.const (.int 1))),(.var "tokens")])] [.assign (.name "held") (.bm .setdefault (.attr (.var "self") "inside") [(.sub (.var "target") (.const (.int 1))),(.dict [])]),.forr (.name "token") .over [(.var "tokens")] kR,.ite (.cmp .isIn (.sub (.var "target") (.const (.int 1))) (.attr (.var "self") "gone")) [.expr (.meth "EscapeFlow" (.var "self") "leak" [(.var "tokens")])] []]]]
noncomputable def iP:eS:=⟨["self","targets","tokens"],[],[.forr (.name "target") .over [(.var "targets")] kQ]⟩
noncomputable def iQ:List S:=[.ite (.cmp .eq (.sub (.var "token") (.const (.int 0))) (.const (.str "site"))) [.expr (.meth "EscapeFlow" (.var "self") "leak" [(.list [(.var "token")])])] [],.expr (.meth "EscapeFlow" (.var "self") "note" [(.attr (.attr (.var "self") "summary") "kept"),(.tup [(.ite (.cmp .eq (.sub (.var "token") (.const (.int 0))) (.const (.str "outer"))) (.sub (.var "token") (.const (.int 1))) (.glob "UNKNOWN" (.int (-1)))),(.var "outer")])])]
noncomputable def gi:eS:=⟨["self","outer","tokens"],[],[.forr (.name "token") .over [(.meth "EscapeFlow" (.var "self") "reached" [(.var "tokens")])] iQ]⟩
noncomputable def ej:E:=(.attr (.var "self") "is_new")
noncomputable def gU:List S:=[.expr (.meth "EscapeFlow" (.var "self") "look" [(.var "instruction")])]
noncomputable def ei:List S:=[.forr (.name "instruction") .over [(.var "instructions")] gU,.expr (.meth "EscapeFlow" (.var "self") "leave" [(.var "terminator")])]
noncomputable def eh:List S:=[.assign (.attr (.var "self") "is_new") (.const (.bool false)),.forr (.pair "instructions" "terminator") .over [(.attr (.attr (.var "self") "code") "blocks")] ei]
noncomputable def e8:eS:=⟨["self"],[],[.assign (.attr (.var "self") "is_new") (.const (.bool true)),.whil ej eh]⟩
noncomputable def fO:List S:=[.expr (.meth "EscapeFlow" (.var "self") "note" [(.var "told"),(.ite (.cmp .eq (.sub (.var "token") (.const (.int 0))) (.const (.str "outer"))) (.sub (.var "token") (.const (.int 1))) (.glob "UNKNOWN" (.int (-1))))])]
noncomputable def dT:E:=(.var "token")
noncomputable def dU:List E:=[(.cmp .eq (.sub (.var "token") (.const (.int 0))) (.const (.str "site")))]
noncomputable def fN:List S:=[.assign (.names ["told","tokens"]) (.tup [(.meth "Summary" (.attr (.var "self") "summary") "told_by" [(.var "at")]),(.meth "EscapeFlow" (.var "self") "tokens_of" [(.var "operand")])]),.forr (.name "token") .over [(.var "tokens")] fO,.expr (.meth "EscapeFlow" (.var "self") "leak" [(.comp dT (.name "token") .over [(.var "tokens")] dU)])]
noncomputable def gV:eS:=⟨["self","terminator"],[],[.ite (.cmp .eq (.sub (.var "terminator") (.const (.int 0))) (.const (.str "panic"))) [.expr (.meth "EscapeFlow" (.var "self") "leak" [(.meth "EscapeFlow" (.var "self") "tokens_of" [(.sub (.var "terminator") (.const (.int 1)))])])] [.ite (.cmp .eq (.sub (.var "terminator") (.const (.int 0))) (.const (.str "return"))) [.forr (.pair "at" "operand") .enum [(.sub (.var "terminator") (.const (.int 1)))] fN] []]]⟩
noncomputable def cq:eS:=⟨["self","instruction"],[],[.assign (.name "op") (.sub (.var "instruction") (.const (.int 0))),.ite (.cmp .isIn (.var "op") (.tup [(.const (.str "new")),(.const (.str "makeslice")),(.const (.str "makemap")),(.const (.str "makechan")),(.const (.str "closure")),(.const (.str "bound")),(.const (.str "append"))])) [.expr (.meth "EscapeFlow" (.var "self") "look_at_making" [(.var "op"),(.var "instruction")])] [.ite (.cmp .isIn (.var "op") (.tup [(.const (.str "call")),(.const (.str "go")),(.const (.str "defer"))])) [.expr (.meth "EscapeFlow" (.var "self") "look_at_call" [(.var "op"),(.var "instruction")])] [.ite (.cmp .isIn (.var "op") (.tup [(.const (.str "store")),(.const (.str "mapset")),(.const (.str "send")),(.const (.str "select")),(.const (.str "face")),(.const (.str "copy"))])) [.expr (.meth "EscapeFlow" (.var "self") "look_at_putting" [(.var "op"),(.var "instruction")])] [.ite (.cmp .isIn (.var "op") (.tup [(.const (.str "move")),(.const (.str "convert")),(.const (.str "fieldptr")),(.const (.str "elemptr")),(.const (.str "part")),(.const (.str "elem")),(.const (.str "cut")),(.const (.str "iter"))])) [.expr (.meth "EscapeFlow" (.var "self") "give" [(.sub (.var "instruction") (.const (.int 1))),(.meth "EscapeFlow" (.var "self") "tokens_of" [(.sub (.var "instruction") (.const (.int 2)))])]),.ite (.cmp .eq (.var "op") (.const (.str "convert"))) [.expr (.meth "EscapeFlow" (.var "self") "give" [(.sub (.var "instruction") (.const (.int 1))),(.list [(.glob "BEYOND" (.tup [(.str "beyond")]))])])] []] [.ite (.cmp .isIn (.var "op") (.tup [(.const (.str "struct")),(.const (.str "array"))])) [.expr (.meth "EscapeFlow" (.var "self") "give" [(.sub (.var "instruction") (.const (.int 1))),(.meth "EscapeFlow" (.var "self") "tokens_of_all" [(.sub (.var "instruction") (.const (.int 2)))])])] [.expr (.meth "EscapeFlow" (.var "self") "look_at_reading" [(.var "op"),(.var "instruction")])]]]]]]⟩
noncomputable def dK:eS:=⟨["self","op","instruction"],[],[.ite (.cmp .eq (.var "op") (.const (.str "load"))) [.expr (.meth "EscapeFlow" (.var "self") "give" [(.sub (.var "instruction") (.const (.int 1))),(.meth "EscapeFlow" (.var "self") "loaded" [(.meth "EscapeFlow" (.var "self") "tokens_of" [(.sub (.var "instruction") (.const (.int 2)))])])])] [.ite (.cmp .eq (.var "op") (.const (.str "mapget"))) [.expr (.meth "EscapeFlow" (.var "self") "give" [(.sub (.var "instruction") (.const (.int 1))),(.meth "EscapeFlow" (.var "self") "loaded" [(.meth "EscapeFlow" (.var "self") "tokens_of" [(.sub (.var "instruction") (.const (.int 3)))])])])] [.ite (.cmp .eq (.var "op") (.const (.str "next"))) [.assign (.name "found") (.meth "EscapeFlow" (.var "self") "loaded" [(.meth "EscapeFlow" (.var "self") "tokens_of" [(.sub (.var "instruction") (.const (.int 4)))])]),.expr (.meth "EscapeFlow" (.var "self") "give" [(.sub (.var "instruction") (.const (.int 2))),(.var "found")]),.expr (.meth "EscapeFlow" (.var "self") "give" [(.sub (.var "instruction") (.const (.int 3))),(.var "found")])] [.ite (.cmp .eq (.var "op") (.const (.str "assert"))) [.expr (.meth "EscapeFlow" (.var "self") "give" [(.sub (.var "instruction") (.const (.int 1))),(.meth "EscapeFlow" (.var "self") "tokens_of" [(.sub (.var "instruction") (.const (.int 3)))])])] [.ite (.or [(.cmp .eq (.var "op") (.const (.str "recv"))),(.cmp .eq (.var "op") (.const (.str "recover")))]) [.expr (.meth "EscapeFlow" (.var "self") "give" [(.sub (.var "instruction") (.const (.int 1))),(.list [(.glob "BEYOND" (.tup [(.str "beyond")]))])])] []]]]]]⟩
noncomputable def dX:eS:=⟨["self","op","instruction"],[],[.assign (.name "site") (.sub (.var "instruction") (.const (.int (-1)))),.expr (.meth "EscapeFlow" (.var "self") "make" [(.sub (.var "instruction") (.const (.int 1))),(.var "site")]),.ite (.cmp .eq (.var "op") (.const (.str "append"))) [.assign (.names ["rows","more"]) (.tup [(.meth "EscapeFlow" (.var "self") "tokens_of" [(.sub (.var "instruction") (.const (.int 2)))]),(.meth "EscapeFlow" (.var "self") "loaded" [(.meth "EscapeFlow" (.var "self") "tokens_of" [(.sub (.var "instruction") (.const (.int 3)))])])]),.expr (.meth "EscapeFlow" (.var "self") "give" [(.sub (.var "instruction") (.const (.int 1))),(.var "rows")]),.expr (.meth "EscapeFlow" (.var "self") "put" [(.bin .add (.var "rows") (.list [(.tup [(.const (.str "site")),(.var "site")])])),(.var "more")]),.expr (.meth "EscapeFlow" (.var "self") "put" [(.list [(.tup [(.const (.str "site")),(.var "site")])]),(.meth "EscapeFlow" (.var "self") "loaded" [(.var "rows")])])] [.ite (.cmp .eq (.var "op") (.const (.str "closure"))) [.expr (.meth "EscapeFlow" (.var "self") "close_over" [(.sub (.var "instruction") (.const (.int 2))),(.sub (.var "instruction") (.const (.int 3))),(.var "site")])] [.ite (.cmp .eq (.var "op") (.const (.str "bound"))) [.expr (.meth "EscapeFlow" (.var "self") "put" [(.list [(.tup [(.const (.str "site")),(.var "site")])]),(.meth "EscapeFlow" (.var "self") "tokens_of" [(.sub (.var "instruction") (.const (.int 2)))])]),.expr (.meth "EscapeFlow" (.var "self") "leak" [(.meth "EscapeFlow" (.var "self") "tokens_of" [(.sub (.var "instruction") (.const (.int 2)))])])] []]]]⟩
noncomputable def iO:eS:=⟨["self","key","operands","site"],[],[.stuck]⟩
noncomputable def fM:List S:=[.ite (.cmp .eq (.sub (.var "case") (.const (.int 0))) (.const (.str "send"))) [.expr (.meth "EscapeFlow" (.var "self") "leak" [(.meth "EscapeFlow" (.var "self") "tokens_of" [(.sub (.var "case") (.const (.int 2)))])])] []]
noncomputable def dJ:eS:=⟨["self","op","instruction"],[],[.ite (.cmp .eq (.var "op") (.const (.str "store"))) [.expr (.meth "EscapeFlow" (.var "self") "put" [(.meth "EscapeFlow" (.var "self") "tokens_of" [(.sub (.var "instruction") (.const (.int 1)))]),(.meth "EscapeFlow" (.var "self") "tokens_of" [(.sub (.var "instruction") (.const (.int 2)))])])] [.ite (.cmp .eq (.var "op") (.const (.str "mapset"))) [.stuck] [.ite (.cmp .eq (.var "op") (.const (.str "copy"))) [.expr (.meth "EscapeFlow" (.var "self") "put" [(.meth "EscapeFlow" (.var "self") "tokens_of" [(.sub (.var "instruction") (.const (.int 2)))]),(.meth "EscapeFlow" (.var "self") "loaded" [(.meth "EscapeFlow" (.var "self") "tokens_of" [(.sub (.var "instruction") (.const (.int 3)))])])])] [.ite (.cmp .eq (.var "op") (.const (.str "send"))) [.expr (.meth "EscapeFlow" (.var "self") "leak" [(.meth "EscapeFlow" (.var "self") "tokens_of" [(.sub (.var "instruction") (.const (.int 2)))])])] [.ite (.cmp .eq (.var "op") (.const (.str "select"))) [.forr (.name "case") .over [(.sub (.var "instruction") (.const (.int 4)))] fM,.expr (.meth "EscapeFlow" (.var "self") "give" [(.sub (.var "instruction") (.const (.int 2))),(.list [(.glob "BEYOND" (.tup [(.str "beyond")]))])])] [.expr (.meth "EscapeFlow" (.var "self") "leak" [(.meth "EscapeFlow" (.var "self") "tokens_of" [(.sub (.var "instruction") (.const (.int 2)))])]),.expr (.meth "EscapeFlow" (.var "self") "give" [(.sub (.var "instruction") (.const (.int 1))),(.meth "EscapeFlow" (.var "self") "tokens_of" [(.sub (.var "instruction") (.const (.int 2)))])])]]]]]]⟩
noncomputable def gy:List S:=[.expr (.meth "EscapeFlow" (.var "self") "give" [(.var "register"),(.list [(.glob "BEYOND" (.tup [(.str "beyond")]))])])]
noncomputable def eD:eS:=⟨["self","op","instruction"],[],[.assign (.names ["called","operands"]) (.ite (.cmp .eq (.var "op") (.const (.str "call"))) (.tup [(.sub (.var "instruction") (.const (.int 2))),(.sub (.var "instruction") (.const (.int 3)))]) (.tup [(.sub (.var "instruction") (.const (.int 1))),(.sub (.var "instruction") (.const (.int 2)))])),.assign (.name "registers") (.ite (.cmp .eq (.var "op") (.const (.str "call"))) (.prim .list [(.sub (.var "instruction") (.const (.int 1)))]) (.list [])),.assign (.name "summary") (.ite (.and [(.cmp .eq (.sub (.var "called") (.const (.int 0))) (.const (.str "fn"))),(.cmp .ne (.var "op") (.const (.str "go")))]) (.bm .get (.attr (.var "self") "summaries") [(.sub (.var "called") (.const (.int 1)))]) (.const .none)),.ite (.cmp .notNone (.var "summary") (.const .none)) [.expr (.meth "EscapeFlow" (.var "self") "follow" [(.var "summary"),(.var "operands"),(.var "registers")]),.ret (.const .none)] [],.expr (.meth "EscapeFlow" (.var "self") "leak" [(.meth "EscapeFlow" (.var "self") "tokens_of_all" [(.var "operands")])]),.ite (.or [(.and [(.cmp .eq (.var "op") (.const (.str "go"))),(.cmp .ne (.sub (.var "called") (.const (.int 0))) (.const (.str "fn")))]),(.cmp .eq (.sub (.var "called") (.const (.int 0))) (.const (.str "face")))]) [.expr (.meth "EscapeFlow" (.var "self") "leak" [(.meth "EscapeFlow" (.var "self") "tokens_of" [(.sub (.var "called") (.const (.int 1)))])])] [],.forr (.name "register") .over [(.var "registers")] gy]⟩
noncomputable def jg:E:=(.meth "EscapeFlow" (.var "self") "reached" [(.meth "EscapeFlow" (.var "self") "tokens_of" [(.var "operand")])])
noncomputable def jh:List E:=[]
noncomputable def fx:List S:=[.ite (.cmp .lt (.var "outer") (.prim .len [(.var "handed")])) [.expr (.meth "EscapeFlow" (.var "self") "leak" [(.sub (.var "handed") (.var "outer"))])] []]
noncomputable def fy:List S:=[.ite (.cmp .lt (.var "outer") (.prim .len [(.var "handed")])) [.expr (.meth "EscapeFlow" (.var "self") "put" [(.sub (.var "handed") (.var "outer")),(.ite (.chain (.const (.int 0)) (.var "inner") (.prim .len [(.var "handed")])) (.sub (.var "handed") (.var "inner")) (.list [(.glob "BEYOND" (.tup [(.str "beyond")]))]))])] []]
noncomputable def fA:List S:=[.expr (.meth "EscapeFlow" (.var "self") "give" [(.var "register"),(.ite (.cmp .eq (.var "told") (.glob "UNKNOWN" (.int (-1)))) (.list [(.glob "BEYOND" (.tup [(.str "beyond")]))]) (.sub (.var "handed") (.var "told")))])]
noncomputable def fz:List S:=[.forr (.name "told") .over [(.bm .get (.attr (.var "summary") "told") [(.var "at"),(.dict [])])] fA]
noncomputable def eG:eS:=⟨["self","summary","operands","registers"],[],[.assign (.name "handed") (.comp jg (.name "operand") .over [(.var "operands")] jh),.forr (.name "outer") .over [(.prim .sorted [(.attr (.var "summary") "leaks")])] fx,.forr (.pair "inner" "outer") .over [(.prim .sorted [(.attr (.var "summary") "kept")])] fy,.forr (.pair "at" "register") .enum [(.var "registers")] fz]⟩
noncomputable def jO:eS:=⟨["self","key","params","registers","blocks","captured","results","recovery"],[(.int 0),(.int 0),.none],[.assign (.attr (.var "self") "key") (.var "key"),.assign (.attr (.var "self") "params") (.var "params"),.assign (.attr (.var "self") "registers") (.prim .list [(.var "registers")]),.assign (.attr (.var "self") "blocks") (.var "blocks"),.assign (.attr (.var "self") "captured") (.var "captured"),.assign (.attr (.var "self") "results") (.var "results"),.assign (.attr (.var "self") "recovery") (.var "recovery")]⟩
noncomputable def Gx(a b:String):Bool:=@decide (a=b) (instDecidableEqString a b)
noncomputable def t8(k:String×String):List ((String×String)×Nat×eS)→Option (Nat×eS)
 | []=>none
 | r::t=>bif Gx r.1.1 k.1&&Gx r.1.2 k.2 then some r.2 else t8 k t
noncomputable def jk:List ((String×String)×Nat×eS):=[(("","objects_within"),22,fT),(("","size_of_summary"),204,iw),(("","escapes"),209,qM),(("","_law_pool"),257,iu),(("","_law_take"),264,nY),(("","_law_one"),271,oY),(("","_law_GLOBAL"),280,kX),(("","_law_operand"),285,j4),(("","_law_instruction"),292,gX),(("","_law_codes"),297,lX),(("","_law_leads"),304,lY),(("","_law_read"),311,nX),(("","_law_step"),316,dG),(("","_law_plain"),323,l9),(("","_law_called"),328,dO),(("","_law_is_safe"),333,j3),(("","_law_small_right"),340,gY),(("","_law_pairs"),347,l8),(("","_law_met_right"),352,ey),(("","law"),359,EG),(("Summary","__init__"),37,gW),(("Summary","told_by"),44,ir),(("EscapeFlow","__init__"),65,dS),(("EscapeFlow","tokens_of"),72,fC),(("EscapeFlow","tokens_of_all"),79,eo),(("EscapeFlow","reached"),86,gj),(("EscapeFlow","loaded"),93,gC),(("EscapeFlow","note"),100,iq),(("EscapeFlow","give"),107,im),(("EscapeFlow","make"),114,ip),(("EscapeFlow","leak"),121,io),(("EscapeFlow","put"),128,iP),(("EscapeFlow","put_out"),135,gi),(("EscapeFlow","go_through"),142,e8),(("EscapeFlow","leave"),147,gV),(("EscapeFlow","look"),154,cq),(("EscapeFlow","look_at_reading"),161,dK),(("EscapeFlow","look_at_making"),168,dX),(("EscapeFlow","close_over"),173,iO),(("EscapeFlow","look_at_putting"),180,dJ),(("EscapeFlow","look_at_call"),187,eD),(("EscapeFlow","follow"),192,eG),(("Code","__init__"),224,jO)]
noncomputable def ba:Tab:=fun k=>(t8 k jk).map (·.2)
noncomputable def At:String×String→Option Nat:=fun k=>(t8 k jk).map (·.1)
theorem yP{k:String×String}{l:List ((String×String)×Nat×eS)}{p:Nat×eS}(h:t8 k l=some p):(k,p)∈l:=by
 induction l with
 | nil=>cases h
 | cons r t ih =>
  have h:(bif Gx r.1.1 k.1&&Gx r.1.2 k.2 then some r.2 else t8 k t)=some p:=h
  cases e:Gx r.1.1 k.1&&Gx r.1.2 k.2 with
  | false=>rw [e] at h;exact aj _ (ih h)
  | true =>
   rw [e] at h;have e:=Bool.and_eq_true_iff.mp e;have q:(k,p)=r:=Prod.ext (Prod.ext (aF e.1).symm (aF e.2).symm) (aX h).symm;exact q▸ai
theorem yQ{k:String×String}{d:eS}(h:ba k=some d):∃a,At k=some a∧(k,a,d)∈jk:=by
 obtain ⟨p,h1,rfl⟩:=bR.mp h;exact ⟨p.1,Option.map_eq_some_iff.mpr ⟨p,h1,rfl⟩,yP h1⟩
noncomputable def HB:List (String×V):=[("REFERRING",(.tup [(.str "ptr"),(.str "slice"),(.str "map"),(.str "chan"),(.str "iter")])),("BEYOND",(.tup [(.str "beyond")])),("UNKNOWN",(.int (-1))),("HEAP",(.str "heap")),("FRAME",(.str "frame")),("_law_T",(.tup [(.str "ptr"),(.tup [(.str "int"),(.str "int")])]))]
noncomputable def jS:gB:=⟨HB,["objects_within","size_of_summary","escapes","_law_pool","_law_take","_law_one","_law_GLOBAL","_law_operand","_law_instruction","_law_codes","_law_leads","_law_read","_law_step","_law_plain","_law_called","_law_is_safe","_law_small_right","_law_pairs","_law_met_right","law"],["Summary","EscapeFlow","Code"],[("Summary","told_by"),("EscapeFlow","tokens_of"),("EscapeFlow","tokens_of_all"),("EscapeFlow","reached"),("EscapeFlow","loaded"),("EscapeFlow","note"),("EscapeFlow","give"),("EscapeFlow","make"),("EscapeFlow","leak"),("EscapeFlow","put"),("EscapeFlow","put_out"),("EscapeFlow","go_through"),("EscapeFlow","leave"),("EscapeFlow","look"),("EscapeFlow","look_at_reading"),("EscapeFlow","look_at_making"),("EscapeFlow","close_over"),("EscapeFlow","look_at_putting"),("EscapeFlow","look_at_call"),("EscapeFlow","follow")],["blocks","captured","code","gone","held","inside","is_new","kept","key","leaks","params","recovery","registers","results","sites","summaries","summary","told"]⟩
open Classical
theorem bq{a:Nat}{o':Ob}(h:σ[a]?=some o):(σ.set a o')[a]?=some o':=by
 have:=(aE.mp h).1;rw [List.getElem?_set_self this]
theorem aM{a:Nat}{o':Ob}(h:a≠n):(σ.set a o')[n]?=σ[n]?:=List.getElem?_set_ne h
theorem a0{a:Nat}(h:σ[a]?=some o):a<σ.length:=(aE.mp h).1
theorem aI:(σ++[o])[σ.length]?=some o:=by simp
theorem aT{τ:Hp}{a:Nat}(h:σ[a]?=some o):(σ++τ)[a]?=some o:=by
 rw [au (a0 h)];exact h
theorem aD{τ:Hp}:σ <+:σ++τ:=cj _ _
theorem eU{a:Nat}(h:σ <+:σ₁)(ha:σ.length≤a):σ <+:σ₁.set a o:=by
 refine xe h fun τ q=>?_;subst q;rw [List.set_append_right _ _ ha];exact aD
theorem bM(h:σ <+:σ₁):σ.length≤σ₁.length:=h.length_le
theorem bU{a:Nat}(h:σ <+:σ₁)(e:σ[a]?=some o):σ₁[a]?=some o:=gM h e
noncomputable def dE(l:List V)(k:V):List V:=if k∈l then l else l++[k]
theorem dM:v∈dE l k↔v∈l∨v=k:=by
 unfold dE
 split
 ·rename_i h
  exact ⟨.inl,fun e=>e.elim id fun e=>e▸h⟩
 ·simp
theorem jC(h:l.Nodup):(dE l k).Nodup:=by
 unfold dE
 split
 ·exact h
 ·rename_i hk
  exact List.nodup_append.mpr ⟨h,by simp,fun a ha b hb=>by rw [aq.mp hb];exact fun e=>hk (e▸ha)⟩
noncomputable def bQ(l:List V)(ns:List V):List V:=ns.foldl dE l
theorem eI{a b:List V}:bQ l (a++b)=bQ (bQ l a) b:=List.foldl_append ..
noncomputable abbrev fv(ts:List V):List (V×V):=ts.map fun t=>(t,V.bool true)
theorem AX(ts:List V)(k:V):(fv ts).find? (fun p=>V.deq p.1 k)=if k∈ts then some (k,.bool true) else none:=by
 induction ts with
 | nil=>simp
 | cons t r ih =>
  simp only [fv,List.map_cons] at ih ⊢;by_cases h:t=k
  ·subst h;rw [List.find?_cons_of_pos (by exact V.deq_self t),if_pos ai]
  ·rw [List.find?_cons_of_neg (by rw [V.deq_ne h];simp),ih];simp only [List.mem_cons,show ¬k=t from fun e=>h e.symm,false_or]
theorem A5(ts:List V)(k:V):getD (fv ts) k=if k∈ts then some (.bool true) else none:=by
 unfold getD;rw [AX]
 split<;>rfl
theorem BW(ts:List V)(k:V):dw (fv ts) k (.bool true)=fv (dE ts k):=by
 unfold dw
 cases e:fW (fv ts) k with
 | some i =>
  refine xe (fX e) fun v hv=>?_;rw [List.getElem?_map] at hv;refine bG (bR.mp hv) fun t ht e2=>?_;cases e2;have hk:k∈ts:=List.mem_of_getElem? ht;unfold dE;rw [if_pos hk];apply List.ext_getElem?;intro j;simp only [List.getElem?_modify,fv,List.getElem?_map]
  cases ts[j]? with
  | none=>simp
  | some t=>by_cases h:i=j<;>simp [h]
 | none =>
  have:=kG e;unfold dE;rw [if_neg (fun h=>this (k,.bool true) (bH.mpr ⟨k,h,rfl⟩) rfl)];simp [fv]
theorem Cp(ts:List V)(e:Nat)(k:V):∃e',fK (fv ts) e k (.bool true)=.dict (fv (dE ts k)) e':=⟨_,by unfold fK;rw [BW]⟩
theorem hW(ts:List V):(fv ts).map (·.1)=ts:=by simp [fv,List.map_map,Function.comp_def]
theorem bs{F:Tab}{key:String×String}{vs:List V}{d:eS}(h:F key=some d)(h1:vs.length≤d.params.length)(h2:d.params.length≤vs.length+d.dflts.length)
  (h3:dW (aY F n) d.body (jT d.params (vs++d.dflts.drop (vs.length+d.dflts.length-d.params.length))) σ (qB Q)):aY F (n+1) key vs σ Q:=by
 rw [pe];exact ⟨d,h,h1,h2,h3⟩
noncomputable def Ii:BM→Bool | .append | .extend | .lpop=>true | _=>false
section
variable{m:List (V×V)}{e:Nat}{w:V}
theorem bz{c f:String}{l:List (String×V)}{Q:Unit→Prop}(h:σ[n]?=some (.inst c l))(h2:mu l f=none)(q:Q ()):dh (uL σ (.obj n) c f) Q:=by
 have:uL σ (.obj n) c f=some ():=by unfold uL;simp only [h,h2,decide_true]
 rw [this];exact q
theorem bP{c a:String}{l:List (String×V)}{Q:V→Prop}(h:σ[n]?=some (.inst c l))(h2:mu l a=some w)(q:Q w):dh (qP σ (.obj n) a) Q:=by
 have:qP σ (.obj n) a=some w:=by unfold qP;simp only [h];exact h2
 rw [this];exact q
theorem oJ{r:Bool}{Q:Bool→Prop}(h:Ba σ a b=some r)(q:Q r):dh (ml .isIn σ a b) Q:=aw h q
theorem mH{r:Bool}{Q:Bool→Prop}(h:Ba σ a b=some r)(q:Q (!r)):dh (ml .notIn σ a b) Q:=aw (show (Ba σ a b).map (!·)=_ by rw [h];rfl) q
theorem cQ{i:Int}{Q:V→Prop}(h:σ[n]?=some (.list l))(hl:l.length<big)(h2:DT l i=some w)(q:Q w):dh (kc σ (.obj n) (.int i)) Q:=aw ((cZ h).trans ((if_pos hl).trans h2)) q
theorem pH{Q:V→Prop}(h:σ[n]?=some (.dict m e))(hk:k.key=true)(hd:k.dep≤6)(h2:getD m k=some w)(q:Q w):dh (kc σ (.obj n) k) Q:=aw ((eO h).trans ((if_pos (Bool.and_eq_true_iff.2 ⟨hk,bh hd⟩)).trans h2)) q
theorem FC{a b:Nat}{x y:List V}(h1:σ[a]?=some (.list x))(h2:σ[b]?=some (.list y))(d1:V.dats x=true)(d3:V.deps x≤6)(d2:V.dats y=true):FE σ (.obj a) (.obj b)=some (V.deq (.tup x) (.tup y)):=(cZ h1).trans ((cZ h2).trans (if_pos (by rw [d1,d2,bh d3];rfl)))
theorem BG{a b:Nat}{x y:List V}(h1:σ[a]?=some (.list x))(h2:σ[b]?=some (.list y))(d1:V.dats x=true)(d3:V.deps x≤6)(d2:V.dats y=true):FX σ (.obj a) (.obj b)=some (V.deq (.tup x) (.tup y)):=(cZ h1).trans ((cZ h2).trans (if_pos (by rw [d1,d2,bh d3];rfl)))
theorem xV{b:BM}(h:σ[n]?=some (.list l))(hb:Ii b=true):F2 b σ (.obj n)=true:=by
 have:=congrArg Option.isSome (cZ (f:=fun z_=>some ()) (g:=fun z_ z_=>none) h);cases b<;>first | cases hb;done | exact this
theorem EX{b:BM}(h:σ[n]?=some (.dict m e))(hb:Ii b=false):F2 b σ (.obj n)=true:=by
 have:=congrArg Option.isSome (eO (f:=fun z_=>none) (g:=fun z_ z_=>some ()) h);cases b<;>first | cases hb;done | exact this
theorem fh(h:σ[n]?=some (.list l))(hl:l.length<big)(q:Q .none (σ.set n (.list (l++[w])))):vF .append (.obj n) [w] σ Q:=eM h ⟨hl,q⟩
theorem nz{l':List V}(h:σ[n]?=some (.list l))(h2:fP σ w=some l')(hl:l.length+l'.length<big)(q:Q .none (σ.set n (.list (l++l')))):vF .extend (.obj n) [w] σ Q:=eM h (aw h2 ⟨hl,q⟩)
theorem sB(h:σ[n]?=some (.list l))(hl:l.length<big)(h2:l.getLast?=some w)(q:Q w (σ.set n (.list l.dropLast))):vF .lpop (.obj n) [] σ Q:=eM h ⟨hl,aw h2 q⟩
theorem sg(h:σ[n]?=some (.dict m e))(hk:k.key=true)(hd:k.dep≤6)(q:Q ((getD m k).getD .none) σ):vF .get (.obj n) [k] σ Q:=i6 h ⟨⟨hk,hd⟩,q⟩
theorem sh(h:σ[n]?=some (.dict m e))(hk:k.key=true)(hd:k.dep≤6)(q:Q ((getD m k).getD w) σ):vF .get (.obj n) [k,w] σ Q:=i6 h ⟨⟨hk,hd⟩,q⟩
theorem B5{u:V}(h:σ[n]?=some (.dict m e))(hk:k.key=true)(hd:k.dep≤6)(hl:m.length<big)(h2:getD m k=some u)(q:Q u σ):vF .setdefault (.obj n) [k,w] σ Q:=i6 h ⟨⟨hk,hd⟩,hl,by rw [h2];exact q⟩
theorem B4(h:σ[n]?=some (.dict m e))(hk:k.key=true)(hd:k.dep≤6)(hl:m.length<big)(h2:getD m k=none)(q:Q w (σ.set n (fK m e k w))):vF .setdefault (.obj n) [k,w] σ Q:=i6 h ⟨⟨hk,hd⟩,hl,by rw [h2];exact q⟩
theorem jI{c a:String}{l:List (String×V)}{Q:Hp→Prop}(h:σ[n]?=some (.inst c l))(hl:l.length<100)(q:Q (σ.set n (.inst c (jV l a w)))) :
  Gg a w n σ Q σ[n]?:=by
 rw [h];exact ⟨hl,q⟩
theorem gc{i:V}{Q:Hp→Prop}(h:σ[n]?=some (.dict m e))(hk:i.key=true)(hd:i.dep≤6)(hl:m.length<big)(q:Q (σ.set n (fK m e i w))):dp (.obj n) i w σ Q:=i6 h ⟨⟨hk,hd⟩,hl,q⟩
theorem s0{i:Int}{Q:Hp→Prop}(h:σ[n]?=some (.list l))(h0:0≤i)(hi:i<l.length)(hl:l.length<big)(q:Q (σ.set n (.list (l.set i.toNat w)))):dp (.obj n) (.int i) w σ Q:=eM h ⟨h0,hi,hl,q⟩
theorem kj{j:Nat}(h:zf σ v=some j)(hj:j<big)(q:Q (.int j) σ):ic .len [v] σ Q:=aw h ⟨hj,q⟩
theorem jz(h:gK σ v=some l)(hj:l.length<big)(q:Q (.obj σ.length) (σ++[.list l])):ic .list [v] σ Q:=aw h ⟨hj,q⟩
theorem vt(h:fP σ v=some l)(hj:l.length<big)(q:Q (.tup l) σ):ic .tuple [v] σ Q:=aw h ⟨hj,q⟩
theorem je(h:uJ σ v=some l)(hj:cF l=true)(q:Q (.obj σ.length) (σ++[.list (cz l)])):ic .sorted [v] σ Q:=aw h ⟨hj,q⟩
theorem jd(h:σ[n]?=some (.list l)):fP σ (.obj n)=some l:=cZ h
theorem hU(h:σ[n]?=some (.list l)):gK σ (.obj n)=some l:=cZ h
theorem jx(h:σ[n]?=some (.dict m e)):gK σ (.obj n)=some (m.map (·.1)):=eO h
theorem DK(h:σ[n]?=some (.list l)):uJ σ (.obj n)=some l:=cZ h
theorem sC(h:σ[n]?=some (.dict m e)):uJ σ (.obj n)=some (m.map (·.1)):=eO h
theorem i9(h:σ[n]?=some (.list l)):zf σ (.obj n)=some l.length:=congrArg (Option.map List.length) (hU h)
theorem Bu(h:σ[n]?=some (.dict m e)):zf σ (.obj n)=some m.length:=(congrArg (Option.map List.length) (jx h)).trans (congrArg some (aJ _))
theorem ch(h:σ[n]?=some (.list l)):dm .over [.obj n] σ=some (l,[n]):=cZ h
theorem eA(h:σ[n]?=some (.dict m e)):dm .over [.obj n] σ=some (m.map (·.1),[n]):=eO h
theorem vz(h:σ[n]?=some (.dict m e)):dm .values [.obj n] σ=some (m.map (·.2),[n]):=eO h
end
inductive Tb where
 | held (r:V) | inside (s:V) | told (i:V) | sites | gone | leaks | kept
variable{tb:Tb}
noncomputable def Tb.h?:Tb→Option V | .held r=>some r | _=>none
noncomputable def Tb.i?:Tb→Option V | .inside r=>some r | _=>none
noncomputable def Tb.t?:Tb→Option V | .told r=>some r | _=>none
theorem Tb.h_some{t:Tb}{r:V}(h:t.h?=some r):t=.held r:=by cases t<;>simp [Tb.h?] at h;rw [h]
theorem Tb.i_some{t:Tb}{r:V}(h:t.i?=some r):t=.inside r:=by cases t<;>simp [Tb.i?] at h;rw [h]
theorem Tb.t_some{t:Tb}{r:V}(h:t.t?=some r):t=.told r:=by cases t<;>simp [Tb.t?] at h;rw [h]
noncomputable abbrev tB:V:=.tup [.str "beyond"]
noncomputable abbrev tO(i:V):V:=.tup [.str "outer",i]
noncomputable abbrev tS(s:V):V:=.tup [.str "site",s]
theorem lp{s:V}:tB≠tS s:=fun e=>absurd (V.str.inj (List.cons.inj (V.tup.inj e)).1) (by decide)
theorem oq{i s:V}:tO i≠tS s:=fun e=>absurd (V.str.inj (List.cons.inj (V.tup.inj e)).1) (by decide)
theorem qn{i:V}:tB≠tO i:=fun e=>absurd (V.str.inj (List.cons.inj (V.tup.inj e)).1) (by decide)
noncomputable abbrev Facts:=Tb→V→Prop
variable{F:Facts}{R R':Facts→Facts}
noncomputable abbrev Tabs:=List (Tb×Nat×List V)
noncomputable def Tabs.fact(S:Tabs):Facts:=fun tb v=>∃a ts,(tb,a,ts)∈S∧v∈ts
noncomputable def Tabs.size(S:Tabs):Nat:=(S.map fun p=>p.2.2.length).sum
noncomputable def Tabs.idx(S:Tabs)(f:Tb→Option V):List (V×V):=S.filterMap fun p=>(f p.1).map fun r=>(r,V.obj p.2.1)
noncomputable def Tabs.add(S:Tabs)(a:Nat)(k:V):Tabs:=S.map fun p=>if p.2.1=a then (p.1,p.2.1,dE p.2.2 k) else p
structure cN where
 sites:List V
 few:sites.length≤20
 key:∀s∈sites,s.key=true∧s.dep≤3
noncomputable def cN.toks(M:cN):List V:=tB::tO (.int 0)::tO (.int 1)::M.sites.map tS
noncomputable def regs:List V:=(List.range 10).map fun (i:Nat)=>V.int (i:Int)
noncomputable def cN.tbs(M:cN):List Tb:=regs.map .held++M.sites.map .inside++[.told (.int 0),.told (.int 1),.sites,.gone,.leaks,.kept]
noncomputable def cN.vals(M:cN):Tb→List V
 | .held _ | .inside _=>M.toks
 | .told _=>[.int (-1),.int 0,.int 1]
 | .sites | .gone=>M.sites
 | .leaks=>[.int 0,.int 1]
 | .kept=>[.tup [.int (-1),.int 0],.tup [.int (-1),.int 1],.tup [.int 0,.int 0],.tup [.int 0,.int 1],.tup [.int 1,.int 0],.tup [.int 1,.int 1]]
theorem cN.tok_key(M:cN){t:V}(h:t∈M.toks):t.key=true∧t.dep≤5:=by
 unfold cN.toks at h;simp only [List.mem_cons,List.mem_map] at h;rcases h with rfl | rfl | rfl | ⟨s,hs,rfl⟩
 ·exact ⟨rfl,by decide⟩
 ·exact ⟨rfl,by decide⟩
 ·exact ⟨rfl,by decide⟩
 ·refine xa (M.key s hs) fun h1 h2=>?_;refine ⟨by simp [V.key,V.keys,h1],?_⟩;simp only [V.dep,V.deps];omega
theorem cN.val_key(M:cN){t:V}(h:t∈M.vals tb):t.key=true∧t.dep≤5:=by
 cases tb with
 | held _=>exact M.tok_key h
 | inside _=>exact M.tok_key h
 | told _=>simp only [cN.vals,List.mem_cons,an,or_false] at h;rcases h with rfl | rfl | rfl<;>exact ⟨rfl,by decide⟩
 | leaks=>simp only [cN.vals,List.mem_cons,an,or_false] at h;rcases h with rfl | rfl<;>exact ⟨rfl,by decide⟩
 | kept=>simp only [cN.vals,List.mem_cons,an,or_false] at h;rcases h with rfl | rfl | rfl | rfl | rfl | rfl<;>exact ⟨rfl,by decide⟩
 | sites=>refine xa (M.key t h) fun h1 h2=>?_;exact ⟨h1,by omega⟩
 | gone=>refine xa (M.key t h) fun h1 h2=>?_;exact ⟨h1,by omega⟩
theorem cN.vals_len(M:cN)(tb:Tb):(M.vals tb).length≤23:=by
 have:=M.few;cases tb<;>simp [cN.vals,cN.toks]<;>omega
theorem cM{α:Type}:∀{l m:List α},l.Nodup→(∀x∈l,x∈m)→l.length≤m.length
 | [],m,_,_=>aS _
 | x::r,m,h,hs=>by
  refine xa (List.nodup_cons.mp h) fun h1 h2=>?_;refine Ak (List.append_of_mem (hs x ai)) fun a b q=>?_;subst q;have:=cM (l:=r) (m:=a++b) h2 fun y hy=>by
   have:=hs y (aj _ hy);simp only [List.mem_append,List.mem_cons] at this ⊢;refine Or.elim this (fun h=>?_) (fun w=>Or.elim w (fun h=>?_) (fun h=>?_))
   ·exact .inl h
   ·exact absurd (h▸hy) h1
   ·exact .inr h
  simp only [aO,List.length_cons] at this ⊢;omega
structure FL where
 (f code sums held inside sites gone summ leaks kept told:Nat)
noncomputable def FL.own(L:FL):List Nat:=[L.f,L.held,L.inside,L.summ,L.told]
noncomputable def Ad(L:FL)(S:Tabs)(n:Nat):Prop:=n∈L.own++S.map (·.2.1)
noncomputable def FL.flow(L:FL)(nw:Bool):Ob:=.inst "EscapeFlow" [("code",.obj L.code),("summaries",.obj L.sums),("held",.obj L.held),("inside",.obj L.inside),("sites",.obj L.sites),("gone",.obj L.gone),("summary",.obj L.summ),("is_new",.bool nw)]
noncomputable def FL.summary(L:FL):Ob:=.inst "Summary" [("leaks",.obj L.leaks),("kept",.obj L.kept),("told",.obj L.told)]
structure aV(M:cN)(L:FL)(S:Tabs)(nw:Bool)(σ:Hp):Prop where
 fo:σ[L.f]?=some (L.flow nw)
 so:σ[L.summ]?=some L.summary
 hd:∃e,σ[L.held]?=some (.dict (S.idx Tb.h?) e)
 ins:∃e,σ[L.inside]?=some (.dict (S.idx Tb.i?) e)
 td:∃e,σ[L.told]?=some (.dict (S.idx Tb.t?) e)
 tb:∀p∈S,∃e,σ[p.2.1]?=some (.dict (fv p.2.2) e)
 ads:(L.own++S.map (·.2.1)).Nodup
 keys:(S.map (·.1)).Nodup
 nd:∀p∈S,p.2.2.Nodup
 tbs:∀p∈S,p.1∈M.tbs
 ok:∀p∈S,∀v∈p.2.2,v∈M.vals p.1
 atS:∃ts,(Tb.sites,L.sites,ts)∈S
 atG:∃ts,(Tb.gone,L.gone,ts)∈S
 atL:∃ts,(Tb.leaks,L.leaks,ts)∈S
 atK:∃ts,(Tb.kept,L.kept,ts)∈S
section
variable{M:cN}{L:FL}{S S':Tabs}{nw nw':Bool}
theorem aV.ext(h:aV M L S nw σ)(p:σ <+:σ'):aV M L S nw σ' :=
 ⟨bU p h.fo,bU p h.so,let ⟨e,q⟩:=h.hd;⟨e,bU p q⟩,let ⟨e,q⟩:=h.ins;⟨e,bU p q⟩,let ⟨e,q⟩:=h.td;⟨e,bU p q⟩,fun x hx=>let ⟨e,q⟩:=h.tb x hx;⟨e,bU p q⟩,h.ads,h.keys,h.nd,h.tbs,h.ok,h.atS,h.atG,h.atL,h.atK⟩
theorem aV.lt(h:aV M L S nw σ)(ha:Ad L S n):n<σ.length:=by
 unfold Ad FL.own at ha;simp only [List.mem_append,List.mem_cons,an,or_false,List.mem_map] at ha;rcases ha with (rfl | rfl | rfl | rfl | rfl) | ⟨p,hp,rfl⟩
 ·exact a0 h.fo
 ·refine xe h.hd fun e q=>?_;exact a0 q
 ·refine xe h.ins fun e q=>?_;exact a0 q
 ·exact a0 h.so
 ·refine xe h.td fun e q=>?_;exact a0 q
 ·refine xe (h.tb p hp) fun e q=>?_;exact a0 q
theorem aV.len(h:aV M L S nw σ){p:Tb×Nat×List V}(hp:p∈S):p.2.2.length≤23 :=
 am (cM (h.nd p hp) (h.ok p hp)) (M.vals_len _)
theorem Fc(hk:(S.map (·.1)).Nodup){a b:Nat}{us:List V}(h1:(tb,a,ts)∈S)(h2:(tb,b,us)∈S):a=b∧ts=us:=by
 obtain ⟨i,hi,e1⟩:=List.getElem_of_mem h1;obtain ⟨j,hj,e2⟩:=List.getElem_of_mem h2;have e:(S.map (·.1))[i]?=(S.map (·.1))[j]?:=by
  rw [List.getElem?_map,List.getElem?_map,aC hi,aC hj,e1,e2];rfl
 cases (List.getElem?_inj (by rw [aJ];exact hi) hk).mp e;rw [e1] at e2;cases e2;exact ⟨rfl,rfl⟩
theorem q9(hk:(S.map (·.1)).Nodup){a:Nat}(h1:(tb,a,ts)∈S):S.fact tb v↔v∈ts :=
 ⟨fun q=>cY q fun b us h2 h3=>(Fc hk h1 h2).2▸h3,fun hv=>⟨a,ts,h1,hv⟩⟩
theorem my(f:Tb→Option V)(g:V→Tb)(hf:∀{t r},f t=some r→t=g r)(hg:∀r,f (g r)=some r)(r:V) :
  (∃a ts,(g r,a,ts)∈S∧getD (S.idx f) r=some (.obj a))∨((∀a ts,(g r,a,ts)∉S)∧getD (S.idx f) r=none):=by
 cases e:getD (S.idx f) r with
 | some w =>
  refine bG (ez e) fun i z_ hi=>?_;refine bG (List.mem_filterMap.mp (List.mem_of_getElem? hi)) fun q hq e2=>?_;refine bG (bR.mp e2) fun r' e3 e4=>?_;cases e4;exact .inl ⟨q.2.1,q.2.2,hf e3▸hq,rfl⟩
 | none=>exact .inr ⟨fun a ts hm=>kG (nC e) (r,.obj a) (List.mem_filterMap.mpr ⟨_,hm,by rw [hg];rfl⟩) rfl,rfl⟩
theorem aV.uniq(h:aV M L S nw σ){a b:Nat}{us:List V}(h1:(tb,a,ts)∈S)(h2:(tb,b,us)∈S):a=b∧ts=us:=Fc h.keys h1 h2
theorem aV.adSame(h:aV M L S nw σ){p q:Tb×Nat×List V}(h1:p∈S)(h2:q∈S)(e:p.2.1=q.2.1):p=q:=by
 have nd:=(cu.mp h.ads).2.1;obtain ⟨i,hi,e1⟩:=List.getElem_of_mem h1;obtain ⟨j,hj,e2⟩:=List.getElem_of_mem h2;have e':(S.map (·.2.1))[i]?=(S.map (·.2.1))[j]?:=by
  rw [List.getElem?_map,List.getElem?_map,aC hi,aC hj,e1,e2,Option.map_some,Option.map_some,e]
 have:=(List.getElem?_inj (by simpa using hi) nd).mp e';subst this;rw [e1] at e2;exact e2
theorem aV.fact_iff(h:aV M L S nw σ){a:Nat}(h1:(tb,a,ts)∈S):S.fact tb v↔v∈ts:=q9 h.keys h1
theorem aV.apart(h:aV M L S nw σ){p:Tb×Nat×List V}(hp:p∈S):p.2.1∉L.own:=fun q =>
 (cu.mp h.ads).2.2 _ q _ (bH.mpr ⟨p,hp,rfl⟩) rfl
end
section
variable{M:cN}{L:FL}{S S' S'':Tabs}{nw nw' nw'':Bool}{ms:List V}
theorem Ax{a:Nat}:(S.add a k).map (·.1)=S.map (·.1):=by
 delta Tabs.add;rw [List.map_map];apply List.map_congr_left;intro p _;dsimp only [Function.comp]
 split<;>rfl
theorem tN{a:Nat}:(S.add a k).map (·.2.1)=S.map (·.2.1):=by
 delta Tabs.add;rw [List.map_map];apply List.map_congr_left;intro p _;dsimp only [Function.comp]
 split<;>rfl
theorem sk{a:Nat}{f:Tb→Option V}:(S.add a k).idx f=S.idx f:=by
 delta Tabs.add Tabs.idx;rw [List.filterMap_map]
 congr 1
 funext p
 dsimp only [Function.comp]
 split<;>rfl
theorem cW{a:Nat}{p:Tb×Nat×List V}:p∈S.add a k↔∃q∈S,p=if q.2.1=a then (q.1,q.2.1,dE q.2.2 k) else q:=by
 delta Tabs.add;rw [List.mem_map];exact ⟨fun w=>bG w fun q h1 h2=>⟨q,h1,h2.symm⟩,fun x=>bG x fun q h1 h2=>⟨q,h1,h2.symm⟩⟩
theorem Fg{a:Nat}:Ad L (S.add a k) n↔Ad L S n:=by unfold Ad;rw [tN]
theorem AT(h:aV M L S nw σ){a:Nat}(hm:(tb,a,ts)∈S):(S.add a k).fact=fun tb' v=>S.fact tb' v∨(tb'=tb∧v=k):=by
 funext tb' v
 apply propext;constructor
 ·intro w;refine cY w fun b us h1 h2=>?_;clear w;refine bG (cW.mp h1) fun q hq e=>?_
  split at e
  ·rename_i ea
   have:=h.adSame hq hm ea;subst this;cases e;refine Or.elim (dM.mp h2) (fun h3=>?_) (fun h3=>?_)
   ·exact .inl ⟨_,_,hm,h3⟩
   ·exact .inr ⟨rfl,h3⟩
  ·subst e;exact .inl ⟨_,_,hq,h2⟩
 ·rintro (⟨b,us,h1,h2⟩ | ⟨rfl,rfl⟩)
  ·by_cases ea:b=a
   ·subst ea;exact ⟨b,dE us k,cW.mpr ⟨_,h1,by rw [if_pos rfl]⟩,dM.mpr (.inl h2)⟩
   ·exact ⟨b,us,cW.mpr ⟨_,h1,by rw [if_neg ea]⟩,h2⟩
  ·exact ⟨a,dE ts v,cW.mpr ⟨_,hm,by rw [if_pos rfl]⟩,dM.mpr (.inr rfl)⟩
theorem yi{l m:Tabs}:(l++m).size=l.size+m.size:=by unfold Tabs.size;simp
theorem u6(h:aV M L S nw σ){a:Nat}(hm:(tb,a,ts)∈S)(hk:k∉ts):S.size<(S.add a k).size:=by
 refine Ak (List.append_of_mem hm) fun l1 l2 w=>?_;subst w;have same:∀l:Tabs,(∀q∈l,q.2.1≠a)→(l.add a k).size=l.size:=fun l hl=>by
  delta Tabs.add Tabs.size;rw [List.map_map]
  congr 1
  apply List.map_congr_left;intro q hq;dsimp only [Function.comp];rw [if_neg (hl q hq)]
 have nd:=(cu.mp h.ads).2.1;rw [List.map_append,List.map_cons] at nd;refine ni (cu.mp nd) fun n1 n2 n3=>?_;refine xa (List.nodup_cons.mp n2) fun n4 n5=>?_;have e:Tabs.add (l1++(tb,a,ts)::l2) a k=Tabs.add l1 a k++((tb,a,dE ts k)::Tabs.add l2 a k):=by
  delta Tabs.add;rw [List.map_append,List.map_cons];simp
 rw [e,yi,yi,same l1 fun q hq e=>n3 _ (bH.mpr ⟨q,hq,rfl⟩) a ai e];have e2:Tabs.size ((tb,a,dE ts k)::Tabs.add l2 a k)=(dE ts k).length+(Tabs.add l2 a k).size:=by unfold Tabs.size;simp
 have e3:Tabs.size ((tb,a,ts)::l2)=ts.length+Tabs.size l2:=by unfold Tabs.size;simp
 rw [e2,e3,same l2 fun q hq e=>n4 (bH.mpr ⟨q,hq,e⟩)];delta dE;rw [if_neg hk];simp
structure Op(M:cN)(L:FL)(ns:List V)(R:Facts→Facts)(S:Tabs)(nw:Bool)(σ:Hp)(S':Tabs)(nw':Bool)(σ':Hp):Prop where
 fl:aV M L S' nw' σ'
 le:σ.length≤σ'.length
 fr:∀n,n<σ.length→¬Ad L S n→σ'[n]?=σ[n]?
 ad:∀n,Ad L S' n→Ad L S n∨σ.length≤n
 nwm:nw=true→nw'=true
 same:nw'=false→S'.fact=S.fact
 snd:nw'=false→∀tb v,R S'.fact tb v→S'.fact tb v
 mono:∀tb v,S.fact tb v→S'.fact tb v
 lst:∀C:Facts,(∀tb v,S.fact tb v→C tb v)→(∀tb v,R C tb v→C tb v)→∀tb v,S'.fact tb v→C tb v
 sts:∀ts ts',(Tb.sites,L.sites,ts)∈S→(Tb.sites,L.sites,ts')∈S'→ts'=bQ ts ns
 tab:∀tb a ts,(tb,a,ts)∈S→∃ts',(tb,a,ts')∈S'
 szm:S.size≤S'.size
 sz:nw=false→nw'=true→S.size<S'.size
noncomputable abbrev H8:Facts→Facts:=fun z_ z_ z_=>False
noncomputable abbrev Hz(R R':Facts→Facts):Facts→Facts:=fun F tb v=>R F tb v∨R' F tb v
theorem Op.ext(h:aV M L S nw σ)(p:σ <+:σ')(hR:∀tb v,R S.fact tb v→S.fact tb v):Op M L [] R S nw σ S nw σ' where
 fl:=h.ext p
 le:=bM p
 fr n hn _:=by refine xe p fun τ q=>?_;subst q;rw [au hn]
 ad n hn:=.inl hn
 nwm e:=e
 same _:=rfl
 snd _:=hR
 mono _ _ f:=f
 lst C hC _:=hC
 sts ts ts' h1 h2:=(h.uniq h2 h1).2
 tab tb a ts h:=⟨ts,h⟩
 szm:=ax _
 sz h1 h2:=by rw [h1] at h2;cases h2
theorem Op.refl(h:aV M L S nw σ):Op M L [] H8 S nw σ S nw σ:=.ext h (aB _) fun z_ z_ f=>f.elim
theorem Op.trans(h:aV M L S nw σ)(x:Op M L ns R S nw σ S' nw' σ')(y:Op M L ms R' S' nw' σ' S'' nw'' σ''):Op M L (ns++ms) (Hz R R') S nw σ S'' nw'' σ'' where
 fl:=y.fl
 le:=am x.le y.le
 fr n hn ha:=(y.fr n (al hn x.le) fun q=>(x.ad n q).elim ha fun q=>absurd hn (bS.mpr q)).trans (x.fr n hn ha)
 ad n hn:=(y.ad n hn).elim (x.ad n) fun q=>.inr (am x.le q)
 nwm e:=y.nwm (x.nwm e)
 same e:=by
  have e1:=y.same e;have:nw'=false:=by cases h:nw' with | false=>rfl | true=>rw [y.nwm h] at e;cases e
  rw [e1,x.same this]
 snd e tb v:=by
  have e1:=y.same e;have:nw'=false:=by cases h:nw' with | false=>rfl | true=>rw [y.nwm h] at e;cases e
  rintro (q | q)
  ·rw [e1] at q ⊢;exact x.snd this tb v q
  ·exact y.snd e tb v q
 mono tb v f:=y.mono tb v (x.mono tb v f)
 lst C h1 h2:=y.lst C (x.lst C h1 fun tb v q=>h2 tb v (.inl q)) fun tb v q=>h2 tb v (.inr q)
 sts ts ts' h1 h2:=by
  refine xe x.fl.atS fun us hu=>?_;rw [y.sts us ts' hu h2,x.sts ts us h1 hu,eI]
 tab tb a ts h:=let ⟨us,q⟩:=x.tab tb a ts h;y.tab tb a us q
 szm:=am x.szm y.szm
 sz e e':=by
  cases h:nw' with
  | false=>exact ay x.szm (y.sz h e')
  | true=>exact al (x.sz e h) y.szm
theorem Op.conv(x:Op M L ns R S nw σ S' nw' σ')(h1:S'.fact=S.fact→∀tb v,R' S'.fact tb v→R S'.fact tb v)(h2:∀C:Facts,(∀tb v,S.fact tb v→C tb v)→∀tb v,R C tb v→R' C tb v):Op M L ns R' S nw σ S' nw' σ' :=
 {x with snd:=fun e tb v q=>x.snd e tb v (h1 (x.same e) tb v q),lst:=fun C c1 c2=>x.lst C c1 fun tb v q=>c2 tb v (h2 C c1 tb v q)}
theorem Op.conv'(x:Op M L ns R S nw σ S' nw' σ')(h:∀F tb v,R' F tb v↔R F tb v):Op M L ns R' S nw σ S' nw' σ':=x.conv (fun z_ tb v q=>(h _ tb v).mp q) fun C z_ tb v q=>(h _ tb v).mpr q
theorem Op.pre(x:Op M L ns R S nw σ' S' nw' σ'')(p:σ <+:σ'):Op M L ns R S nw σ S' nw' σ'' :=
 {x with le:=am (bM p) x.le,fr:=fun n hn ha=>(by
   rw [x.fr n (al hn (bM p)) ha];refine xe p fun τ w=>?_;subst w;rw [au hn]),ad:=fun n hn=>(x.ad n hn).imp id fun q=>am (bM p) q}
theorem Op.keep(x:Op M L ns R S nw σ S' nw' σ')(e:σ[n]?=some o)(ha:¬Ad L S n):σ'[n]?=some o∧¬Ad L S' n :=
 ⟨(x.fr n (a0 e) ha).trans e,fun q=>(x.ad n q).elim ha fun q=>absurd (a0 e) (bS.mpr q)⟩
noncomputable abbrev DS(tb:Tb)(k:V):List V:=match tb with | .sites=>[k] | _=>[]
theorem DX(h:aV M L S nw σ){a:Nat}(hm:(tb,a,ts)∈S)(hv:k∈M.vals tb)(hk:k∉ts)(e':Nat) :
  Op M L (DS tb k) (fun z_ tb' v=>tb'=tb∧v=k) S nw σ (S.add a k) true ((σ.set a (.dict (fv (dE ts k)) e')).set L.f (L.flow true)):=by
 have own:=h.apart hm;unfold FL.own at own;simp only [List.mem_cons,an,or_false,not_or] at own;refine vB own fun o1 o2 o3 o4 o5=>?_;have nd:=(cu.mp h.ads).1;unfold FL.own at nd;simp only [List.nodup_cons,List.mem_cons,an,or_false,not_or] at nd;refine vB nd fun w x y d10 z_=>?_;refine nU w fun d1 d2 d3 d4=>?_;refine ni x fun d5 d6 d7=>?_;refine xa y fun d8 d9=>?_;have ff:(S.add a k).fact=_:=AT h hm;have other:∀n,n≠a→n≠L.f→((σ.set a (.dict (fv (dE ts k)) e')).set L.f (L.flow true))[n]?=σ[n]?:=fun n h1 h2=>by
  rw [aM (aU h2),aM (aU h1)]
 refine ⟨⟨?_,?_,?_,?_,?_,fun p hp=>?_,?_,?_,fun p hp=>?_,fun p hp=>?_,fun p hp v hv'=>?_,?_,?_,?_,?_⟩,?_,fun n hn ha=>?_,fun n hn=>.inl (Fg.mp hn),fun z_=>rfl,fun e=>(by cases e),fun e=>(by cases e),fun tb' v f=>?_,fun C h1 h2 tb' v f=>?_,fun us us' h1 h2=>?_,fun tb' a' us hu=>?_,?_,?_⟩
 ·exact bq ((aM o1).trans h.fo)
 ·rw [other _ (aU o4) (aU d3)];exact h.so
 ·rw [other _ (aU o2) (aU d1),sk];exact h.hd
 ·rw [other _ (aU o3) (aU d2),sk];exact h.ins
 ·rw [other _ (aU o5) (aU d4),sk];exact h.td
 ·refine bG (cW.mp hp) fun q hq e=>?_;by_cases ea:q.2.1=a
  ·have:=h.adSame hq hm ea;subst this;rw [if_pos rfl] at e;subst e;refine xe (h.tb _ hm) fun e0 he0=>?_;exact ⟨e',(aM (aU o1)).trans (bq he0)⟩
  ·rw [if_neg ea] at e;subst e;have hf:=h.apart hq;rw [other _ ea fun e=>hf (e▸by unfold FL.own;exact ai)];exact h.tb _ hq
 ·rw [tN];exact h.ads
 ·rw [Ax];exact h.keys
 ·refine bG (cW.mp hp) fun q hq e=>?_
  split at e<;>subst e
  ·exact jC (h.nd _ hq)
  ·exact h.nd _ hq
 ·refine bG (cW.mp hp) fun q hq e=>?_;have ht:=h.tbs _ hq
  split at e<;>subst e<;>exact ht
 ·refine bG (cW.mp hp) fun q hq e=>?_
  split at e
  ·rename_i ea
   have:=h.adSame hq hm ea;subst this;subst e;refine Or.elim (dM.mp hv') (fun q=>?_) (fun q=>?_)
   ·exact h.ok _ hm v q
   ·exact q▸hv
  ·subst e;exact h.ok _ hq v hv'
 ·refine xe h.atS fun us hu=>?_;by_cases ea:L.sites=a
  ·exact ⟨_,cW.mpr ⟨_,hu,by rw [if_pos ea]⟩⟩
  ·exact ⟨_,cW.mpr ⟨_,hu,by rw [if_neg ea]⟩⟩
 ·refine xe h.atG fun us hu=>?_;by_cases ea:L.gone=a
  ·exact ⟨_,cW.mpr ⟨_,hu,by rw [if_pos ea]⟩⟩
  ·exact ⟨_,cW.mpr ⟨_,hu,by rw [if_neg ea]⟩⟩
 ·refine xe h.atL fun us hu=>?_;by_cases ea:L.leaks=a
  ·exact ⟨_,cW.mpr ⟨_,hu,by rw [if_pos ea]⟩⟩
  ·exact ⟨_,cW.mpr ⟨_,hu,by rw [if_neg ea]⟩⟩
 ·refine xe h.atK fun us hu=>?_;by_cases ea:L.kept=a
  ·exact ⟨_,cW.mpr ⟨_,hu,by rw [if_pos ea]⟩⟩
  ·exact ⟨_,cW.mpr ⟨_,hu,by rw [if_neg ea]⟩⟩
 ·simp
 ·refine other n (fun e=>ha ?_) fun e=>ha ?_
  ·unfold Ad;rw [e];exact bj.mpr (.inr (bH.mpr ⟨_,hm,rfl⟩))
  ·unfold Ad FL.own;rw [e];exact bj.mpr (.inl ai)
 ·rw [ff];exact .inl f
 ·rw [ff] at f;rcases f with f | ⟨rfl,rfl⟩
  ·exact h1 _ _ f
  ·exact h2 _ _ ⟨rfl,rfl⟩
 ·refine bG (cW.mp h2) fun q hq e=>?_
  split at e
  ·rename_i ea
   have:=h.adSame hq hm ea;subst this;cases e;rw [(h.uniq h1 hm).2];rfl
  ·subst e
   rename_i ea
   have e2:=(h.uniq hq h1).2;rw [e2]
   cases tb with
   | sites=>exact absurd (h.uniq h1 hm).1 ea
   | _=>rfl
 ·by_cases ea:a'=a
  ·exact ⟨_,cW.mpr ⟨_,hu,by rw [if_pos ea]⟩⟩
  ·exact ⟨_,cW.mpr ⟨_,hu,by rw [if_neg ea]⟩⟩
 ·exact cT (u6 h hm hk)
 ·exact fun z_ z_=>u6 h hm hk
end
section
variable{M:cN}{L:FL}{S S' S'':Tabs}{nw nw' nw'':Bool}{ms:List V}
noncomputable abbrev Dn(tb:Tb)(k:V):Facts→Facts:=fun z_ tb' v=>tb'=tb∧v=k
theorem mA{a e:Nat}(h:σ[a]?=some (.dict (fv ts) e))(h1:k.key=true)(h2:k.dep≤6):Ba σ k (.obj a)=some (decide (k∈ts)):=by
 refine (eO h).trans ((if_pos (Bool.and_eq_true_iff.2 ⟨h1,bh h2⟩)).trans ?_);rw [A5];by_cases hk:k∈ts<;>simp [hk]
theorem e7{a e:Nat}{Q:Hp→Prop}(h:σ[a]?=some (.dict (fv ts) e))(h1:k.key=true)(h2:k.dep≤6)(hl:ts.length<1000)(hQ:∀e',Q (σ.set a (.dict (fv (dE ts k)) e'))):dp (.obj a) k (.bool true) σ Q:=by
 refine xe (Cp ts e k) fun e' he=>?_;refine gc h h1 h2 (by rw [aJ];exact bf hl (by decide)) ?_;rw [he];exact hQ e'
theorem aV.tbl(h:aV M L S nw σ){a:Nat}(hm:(tb,a,ts)∈S):∃e,σ[a]?=some (.dict (fv ts) e):=h.tb _ hm
theorem aV.ln(h:aV M L S nw σ){a:Nat}(hm:(tb,a,ts)∈S):ts.length≤23:=h.len hm
theorem F7{a:Nat}(h:aV M L S nw σ)(hm:(tb,a,ts)∈S)(hk:k∈ts):Op M L (DS tb k) (Dn tb k) S nw σ S nw σ:=by
 refine ⟨h,ax _,fun z_ z_ z_=>rfl,fun z_=>.inl,id,fun z_=>rfl,?_,fun z_ z_=>id,fun C h1 z_=>h1,?_,fun z_ z_ us q=>⟨us,q⟩,ax _,fun h1 h2=>by rw [h1] at h2;cases h2⟩
 ·intro _ tb' v w;refine xa w fun x y=>?_;clear w;subst x;subst y;exact ⟨a,ts,hm,hk⟩
 ·intro us us' h1 h2;rw [(h.uniq h2 h1).2]
  cases tb with
  | sites=>rw [(h.uniq h1 hm).2];show ts=dE ts k;unfold dE;rw [if_pos hk]
  | _=>rfl
theorem dQ{a:Nat}(h:aV M L S nw σ)(hm:(tb,a,ts)∈S)(hv:k∈M.vals tb)
  (hQ:∀S' nw' σ',Op M L (DS tb k) (Dn tb k) S nw σ S' nw' σ'→Q .none σ'):aY ba (n+1) ("EscapeFlow","note") [.obj L.f,.obj a,k] σ Q:=by
 have hk:=M.val_key hv;have k2:k.dep≤6:=bD hk.2;refine xe (h.tbl hm) fun e he=>?_;have ha:a≠L.f:=fun e=>h.apart hm (by unfold FL.own;rw [←e];exact ai);refine bs (d:=iq) rfl ae ae ?_;refine mH (mA he hk.1 k2) ?_;by_cases hts:k∈ts
 ·rw [bh hts];exact hQ S nw σ (F7 h hm hts)
 ·rw [decide_eq_false hts];refine e7 he hk.1 k2 (ay (h.ln hm) (by decide)) fun e'=>?_;refine jI (c:="EscapeFlow") ((aM ha).trans h.fo) ae ?_;exact hQ _ _ _ (DX h hm hv hts e')
end
section
variable{M:cN}{L:FL}{S S' S'':Tabs}{nw nw' nw'':Bool}{ms:List V}
noncomputable def bT(ns:List String)(loc loc':Loc):Prop:=∀x,x∉ns→loc' x=loc x
theorem bT.refl{ns:List String}:bT ns loc loc:=fun z_ z_=>rfl
theorem bT.at{ns:List String}(h:bT ns loc loc'){x:String}{v:Option V}(hx:x∉ns:=by decide)(e:loc x=v):loc' x=v:=(h x hx).trans e
theorem bT.trans{ns:List String}{loc'':Loc}(h:bT ns loc loc')(g:bT ns loc' loc''):bT ns loc loc'':=fun x hx=>(g x hx).trans (h x hx)
theorem bT.set{ns:List String}{x:String}(h:bT ns loc loc')(hx:x∈ns):bT ns loc (setL loc' x v):=fun y hy=>by
 unfold setL;rw [if_neg (fun e:y=x=>hy (e▸hx))];exact h y hy
theorem Cq(h0:σ₀[n]?=some o)(h:σ[n]?=some o):bV [n] σ₀ σ:=fun m hm=>by
 rw [aq.mp hm,h,h0]
theorem j6{x:V}:bQ l (x::xs)=bQ (dE l x) xs:=rfl
theorem eX{v:V}:∀{xs l:List V},v∈bQ l xs↔v∈l∨v∈xs
 | [],l=>by simp [bQ]
 | x::xs,l=>by
  rw [j6,eX,dM,List.mem_cons];exact or_assoc
theorem mG:∀{xs l:List V},l.Nodup→(bQ l xs).Nodup
 | [],l,h=>h
 | x::xs,l,h=>mG (xs:=xs) (jC h)
structure Lo(M:cN)(σ:Hp)(d:Nat)(fs:List V)(σ₁:Hp):Prop where
 pre:σ <+:σ₁
 new:σ.length≤d
 at':∃e,σ₁[d]?=some (.dict (fv fs) e)
 nd:fs.Nodup
 ok:∀u∈fs,u∈M.toks
theorem Lo.len{d:Nat}(h:Lo M σ d fs σ₁):fs.length≤23:=am (cM h.nd h.ok) (M.vals_len (.held .none))
theorem Lo.set{d e':Nat}{fs:List V}{k:V}(h:Lo M σ d fs σ₁)(hk:k∈M.toks):Lo M σ d (dE fs k) (σ₁.set d (.dict (fv (dE fs k)) e')) :=
 ⟨eU h.pre h.new,h.new,let ⟨e,q⟩:=h.at';⟨e',bq q⟩,jC h.nd,fun u hu=>(dM.mp hu).elim (h.ok u) fun e=>e▸hk⟩
theorem Lo.app{d:Nat}{τ:Hp}(h:Lo M σ d fs σ₁):Lo M σ d fs (σ₁++τ) :=
 ⟨h.pre.trans aD,h.new,let ⟨e,q⟩:=h.at';⟨e,aT q⟩,h.nd,h.ok⟩
theorem Lo.ext{d:Nat}{σ₂:Hp}(h:Lo M σ d fs σ₁)(p:σ₁ <+:σ₂):Lo M σ d fs σ₂ :=
 ⟨h.pre.trans p,h.new,let ⟨e,q⟩:=h.at';⟨e,bU p q⟩,h.nd,h.ok⟩
theorem zp{ns:List Nat}{d:Nat}(hx:∀x∈xs,x∈M.toks)(hf:loc "found"=some (.obj d))(lo:Lo M σ d fs σ₁)(hs:∀n∈ns,n≠d∧σ₁[n]?=σ₀[n]?)
  (hQ:∀loc' σ',bT ["inner"] loc loc'→Lo M σ d (bQ fs xs) σ'→(∀n,n≠d→σ'[n]?=σ₁[n]?)→σ'.length=σ₁.length→QQ .next loc' σ'):eV (bV ns σ₀) (.name "inner") (dW C fB) xs loc σ₁ QQ:=by
 induction xs generalizing fs loc σ₁ with
 | nil=>exact ⟨fun n hn=>(hs n hn).2,hQ loc σ₁ .refl lo (fun z_ z_=>rfl) rfl⟩
 | cons x xs ih =>
  refine xe lo.at' fun e he=>?_;have k:=M.tok_key (hx x ai);refine ⟨fun n hn=>(hs n hn).2,?_⟩
  (conv=>whnf)
  refine aw hf ?_
  (conv=>whnf)
  refine e7 he k.1 (bD k.2) (ay lo.len (by decide)) fun e'=>?_
  (conv=>whnf)
  refine ih (fun y hy=>hx y (aj _ hy)) hf (lo.set (e':=e') (hx x ai)) (fun n hn=>⟨(hs n hn).1,(aM (aU (hs n hn).1)).trans (hs n hn).2⟩) fun loc' σ' ag lo' same len=>hQ loc' σ' ((bT.refl.set ai).trans ag) lo' (fun n hn=>(same n hn).trans (aM (aU hn))) (len.trans bO)
noncomputable def Ld(F:Facts)(t u:V):Prop :=
 (∃s,t=tS s∧(F (.inside s) u∨(F .gone s∧u=tB)))∨((∀s,t≠tS s)∧(u=t∨∃i o,t=tO o∧F .kept (.tup [i,o])∧u=if i=.int (-1) then tB else tO i))
noncomputable def pI(t:V):V→Option V
 | .tup [i,o]=>if t=tO o then some (if i=.int (-1) then tB else tO i) else none
 | _=>none
noncomputable def jy(t:V)(xs:List V):List V:=xs.filterMap (pI t)
theorem uy{x:V}(h:x∈M.vals .kept):∃i o:Int,x=.tup [.int i,.int o]∧(i= -1∨i=0∨i=1)∧(o=0∨o=1):=by
 simp only [cN.vals,List.mem_cons,an,or_false] at h;rcases h with rfl | rfl | rfl | rfl | rfl | rfl<;>exact ⟨_,_,rfl,by simp,by simp⟩
theorem Bn{i:Int}(h:i= -1∨i=0∨i=1):(if V.int i=.int (-1) then tB else tO (.int i))∈M.toks:=by
 rcases h with rfl | rfl | rfl
 ·rw [if_pos rfl];exact ai
 ·rw [if_neg (fun e=>by cases e)];exact aj _ ai
 ·rw [if_neg (fun e=>by cases e)];exact aj _ (aj _ ai)
theorem uw{t i o:V}:jy t (.tup [i,o]::xs)=(if t=tO o then (if i=.int (-1) then tB else tO i)::jy t xs else jy t xs):=by
 unfold jy;by_cases h:t=tO o
 ·rw [if_pos h,List.filterMap_cons_some (f:=pI t) (show pI t (.tup [i,o])=some _ from if_pos h)]
 ·rw [if_neg h,List.filterMap_cons_none (f:=pI t) (show pI t (.tup [i,o])=none from if_neg h)]
theorem EJ{Q:Bool→Prop}(h:a.dat=true)(h':b.dat=true)(hd:a.dep≤6)(q:Q (V.deq a b)):dh (ml .eq σ a b) Q:=by
 refine aw (show FE σ a b=some _ from ?_) q;unfold FE;rw [h,h',bh hd];rfl
theorem zd{ns:List Nat}{d:Nat}{t:V}(ht:t∈M.toks)(hx:∀x∈xs,x∈M.vals .kept)(hf:loc "found"=some (.obj d))(htk:loc "token"=some t)(lo:Lo M σ d fs σ₁)(hs:∀n∈ns,n≠d∧σ₁[n]?=σ₀[n]?)
  (hQ:∀loc' σ',bT ["inner","outer"] loc loc'→Lo M σ d (bQ fs (jy t xs)) σ'→(∀n,n≠d→σ'[n]?=σ₁[n]?)→σ'.length=σ₁.length→QQ .next loc' σ'):eV (bV ns σ₀) (.pair "inner" "outer") (dW C dI) xs loc σ₁ QQ:=by
 induction xs generalizing fs loc σ₁ with
 | nil=>exact ⟨fun n hn=>(hs n hn).2,hQ loc σ₁ .refl lo (fun z_ z_=>rfl) rfl⟩
 | cons x xs ih =>
  refine cS (uy (hx _ ai)) fun i o q hi ho=>?_;subst q;have hk:=M.tok_key ht;refine xe lo.at' fun e he=>?_;have nx:∀{fs' σ'},Lo M σ d fs' σ'→bQ fs' (jy t xs)=bQ fs (jy t (.tup [.int i,.int o]::xs))→(∀n,n≠d→σ'[n]?=σ₁[n]?)→σ'.length=σ₁.length→eV (bV ns σ₀) (.pair "inner" "outer") (dW C dI) xs (setL (setL loc "inner" (.int i)) "outer" (.int o)) σ' QQ:=fun {fs' σ'} lo' hl same len =>
   ih (fun y hy=>hx y (aj _ hy)) hf htk lo' (fun n hn=>⟨(hs n hn).1,(same n (hs n hn).1).trans (hs n hn).2⟩) fun loc' σ'' ag' lo'' same' len'=>hQ loc' σ'' (((bT.refl.set ai).set (aj _ ai)).trans ag') (hl▸lo'') (fun n hn=>(same' n hn).trans (same n hn)) (len'.trans len)
  rw [uw] at nx;have l3:=ay lo.len (by decide:23<1000);refine ⟨fun n hn=>(hs n hn).2,?_⟩
  (conv=>whnf)
  refine aw htk ?_
  (conv=>whnf)
  refine EJ (V.dat_of_key hk.1) rfl (bD hk.2) ?_;by_cases h1:t=tO (.int o)
  ·rw [if_pos h1] at nx;rw [V.deq_iff.mpr h1];by_cases h2:V.int i=.int (-1)
   ·rw [if_pos h2] at nx;cases h2
    (conv=>whnf)
    refine aw hf ?_
    (conv=>whnf)
    exact e7 (k:=tB) he rfl ae l3 fun e'=>nx (lo.set (k:=tB) (e':=e') ai) rfl (fun n hn=>aM (aU hn)) bO
   ·rw [if_neg h2] at nx
    (conv=>whnf)
    refine aw hf ?_
    (conv=>whnf)
    rw [V.deq_ne h2]
    (conv=>whnf)
    have:=Bn (M:=M) hi;rw [if_neg h2] at this;exact e7 (k:=tO (.int i)) he rfl ae l3 fun e'=>nx (lo.set (k:=tO (.int i)) (e':=e') this) rfl (fun n hn=>aM (aU hn)) bO
  ·rw [if_neg h1] at nx;rw [V.deq_ne h1]
   (conv=>whnf)
   exact nx lo rfl (fun z_ z_=>rfl) rfl
end
section
variable{M:cN}{L:FL}{S S' S'':Tabs}{nw nw' nw'':Bool}{ms:List V}
theorem f6{t:V}(h:t∈M.toks):t=tB∨(∃i:Int,(i=0∨i=1)∧t=tO (.int i))∨∃s∈M.sites,t=tS s:=by
 unfold cN.toks at h;simp only [List.mem_cons,List.mem_map] at h;rcases h with rfl | rfl | rfl | ⟨s,hs,rfl⟩
 ·exact .inl rfl
 ·exact .inr (.inl ⟨0,.inl rfl,rfl⟩)
 ·exact .inr (.inl ⟨1,.inr rfl,rfl⟩)
 ·exact .inr (.inr ⟨s,hs,rfl⟩)
set_option tactic.hygienic true in
theorem wj{t u x:V}(h:pI t x=some u):∃i o,x=.tup [i,o]∧t=tO o∧u=if i=.int (-1) then tB else tO i:=by
 unfold pI at h
 split at h
 ·rename_i i o
  by_cases ht:t=tO o
  ·rw [if_pos ht] at h;cases h;exact ⟨i,o,rfl,ht,rfl⟩
  ·rw [if_neg ht] at h;cases h
 ·cases h
theorem wB{t u:V}:u∈jy t xs↔∃i o,V.tup [i,o]∈xs∧t=tO o∧u=if i=.int (-1) then tB else tO i:=by
 delta jy;rw [List.mem_filterMap];exact ⟨fun q=>bG q fun x hx e=>let ⟨i,o,e1,e2,e3⟩:=wj e;⟨i,o,e1▸hx,e2,e3⟩,fun w=>cS w fun i o hx ht e=>⟨_,hx,e▸if_pos ht⟩⟩
theorem qN{p:Tb×Nat×List V}(h:p∈S):Ad L S p.2.1:=bj.mpr (.inr (bH.mpr ⟨p,h,rfl⟩))
theorem pN{d:Nat}{t:V}{x:String}(h:aV M L S nw σ)(lo:Lo M σ d fs σ₁)(ht:t∈M.toks)(hs:loc "self"=some (.obj L.f))(hf:loc "found"=some (.obj d))(htk:loc "token"=some t)
  (hx:kc σ₁ t (.int 0)=some (.str x)) (hne:x≠"site") (hns:∀s,t≠tS s)
  (hQ:∀fl loc' σ' fs',(fl=.next∨fl=.cont)→bT ["inner","outer"] loc loc'→Lo M σ d fs' σ'→(∀u,u∈fs'↔u∈fs∨Ld S.fact t u)→(∀n,n<σ₁.length→n≠d→σ'[n]?=σ₁[n]?)→QQ fl loc' σ'):dW C cE loc σ₁ QQ:=by
 refine xe lo.at' fun e he=>?_;refine xe h.atK fun ks hks=>?_;have hk:=M.tok_key ht;refine aw htk ?_;refine aw hx ?_;(conv=>whnf);rw [V.deq_ne fun e=>hne (V.str.inj e)];refine aw hf ?_;refine aw htk ?_;refine e7 he hk.1 (bD hk.2) (ay lo.len (by decide)) fun e'=>?_;have lo2:=lo.set (e':=e') ht;have h2:=h.ext lo2.pre;refine xe (h2.tbl hks) fun ke hke=>?_;refine aw hs ?_;refine bP h2.fo rfl ?_;refine bP h2.so rfl ?_;refine aw (eA hke) ?_;rw [hW];refine zd (C:=C) ht (fun x hx=>h.ok _ hks x hx) hf htk lo2 (fun n hn=>?_) fun loc' σ' ag lo' same len=>hQ .cont loc' σ' _ (.inr rfl) ag lo' (fun u=>?_) fun n hn hne=>(same n hne).trans (aM (aU hne))
 ·rw [aq.mp hn];exact ⟨fun e=>bX _ (al (h.lt (qN hks)) (e▸lo.new)),rfl⟩
 ·rw [eX,dM,wB,or_assoc];refine or_congr Iff.rfl ⟨fun q=>.inr ⟨hns,q.imp id fun ⟨i,o,q1,q2,q3⟩=>⟨i,o,q2,(h.fact_iff hks).mpr q1,q3⟩⟩,fun q=>q.elim (fun w=>bG w fun s q z_=>absurd q (hns s)) fun q=>q.2.imp id fun ⟨i,o,q2,q1,q3⟩=>⟨i,o,(h.fact_iff hks).mp q1,q2,q3⟩⟩
theorem Gn{s s':V}(h:tS s=tS s'):s=s':=by cases h;rfl
theorem zg{d:Nat}{s:V}{fs':List V}(h:aV M L S nw σ)(hk:s.key=true∧s.dep≤3)(hs:loc' "self"=some (.obj L.f))(hf:loc' "found"=some (.obj d))(htk:loc' "token"=some (tS s))
  (lo':Lo M σ d fs' σ') (hu:∀u,u∈fs'↔u∈fs∨S.fact (.inside s) u) (hQ:∀σ'' fs',Lo M σ d fs' σ''→(∀u,u∈fs'↔u∈fs∨Ld S.fact (tS s) u)→(∀n,n≠d→σ''[n]?=σ'[n]?)→QQ .next loc' σ'') :
  dW C [.ite (.cmp .isIn (.sub (.var "token") (.const (.int 1))) (.attr (.var "self") "gone")) [.assign (.sub (.var "found") (.glob "BEYOND" (.tup [(.str "beyond")]))) (.const (.bool true))] []] loc' σ' QQ:=by
 have h3:=h.ext lo'.pre;refine xe h.atG fun gs hgs=>?_;refine xe (h3.tbl hgs) fun ge hge=>?_;have ld:∀u,(u∈fs∨Ld S.fact (tS s) u)↔(u∈fs'∨(s∈gs∧u=tB)):=fun u=>by
  rw [hu,or_assoc];refine or_congr Iff.rfl ⟨fun q=>q.elim (fun w=>bG w fun s' e q=>?_) fun q=>absurd rfl (q.1 s),fun q=>.inl ⟨s,rfl,q.imp id fun q=>⟨(h.fact_iff hgs).mpr q.1,q.2⟩⟩⟩;cases e;exact q.imp id fun q=>⟨(h.fact_iff hgs).mp q.1,q.2⟩
 refine aw htk ?_;refine aw hs ?_;refine bP h3.fo rfl ?_;refine oJ (mA hge hk.1 (am hk.2 (by decide))) ?_;by_cases hg:s∈gs
 ·refine xe lo'.at' fun e he=>?_;rw [bh hg];refine aw hf ?_;exact e7 (k:=tB) he rfl ae (ay lo'.len (by decide)) fun e'=>hQ _ _ (lo'.set (k:=tB) (e':=e') ai) (fun u=>by rw [dM,ld];exact or_congr Iff.rfl ⟨fun q=>⟨hg,q⟩,And.right⟩) fun n hn=>aM (aU hn)
 ·rw [decide_eq_false hg];exact hQ _ _ lo' (fun u=>by rw [ld];exact ⟨.inl,fun q=>q.elim id fun q=>absurd q.1 hg⟩) fun z_ z_=>rfl
theorem zi{d:Nat}{t:V}(h:aV M L S nw σ)(lo:Lo M σ d fs σ₁)(ht:t∈M.toks)(hs:loc "self"=some (.obj L.f))(hf:loc "found"=some (.obj d))(htk:loc "token"=some t)
  (hQ:∀fl loc' σ' fs',(fl=.next∨fl=.cont)→bT ["inner","outer"] loc loc'→Lo M σ d fs' σ'→(∀u,u∈fs'↔u∈fs∨Ld S.fact t u)→(∀n,n<σ₁.length→n≠d→σ'[n]?=σ₁[n]?)→QQ fl loc' σ'):dW C cE loc σ₁ QQ:=by
 rcases f6 ht with rfl | ⟨i,_,rfl⟩ | ⟨s,hs',rfl⟩
 ·exact pN h lo ht hs hf htk rfl (by decide) (fun s=>lp) hQ
 ·exact pN h lo ht hs hf htk rfl (by decide) (fun s=>oq) hQ
 ·have hk:=M.key s hs';have k6:s.dep≤6:=am hk.2 (by decide);have h1:=h.ext lo.pre;refine xe h1.ins fun ie hie=>?_;have h2:aV M L S nw (σ₁++[fD [] [] 0]):=h1.ext aD;refine xe h2.ins fun ie2 hie2=>?_;have tail:∀{loc' σ' fs'},bT ["inner"] loc loc'→Lo M σ d fs' σ'→(∀u,u∈fs'↔u∈fs∨S.fact (.inside s) u)→(∀n,n<σ₁.length→n≠d→σ'[n]?=σ₁[n]?)→
    dW C [.ite (.cmp .isIn (.sub (.var "token") (.const (.int 1))) (.attr (.var "self") "gone")) [.assign (.sub (.var "found") (.glob "BEYOND" (.tup [(.str "beyond")]))) (.const (.bool true))] []] loc' σ' QQ:=fun {loc' σ' fs'} ag lo' hu same =>
   zg h hk (ag.at (by decide) hs) (ag.at (by decide) hf) (ag.at (by decide) htk) lo' hu fun σ'' fs'' lo'' hu'' same''=>hQ .next loc' σ'' fs'' (.inl rfl) (fun x hx=>ag x fun q=>hx (by rw [aq.mp q];exact ai)) lo'' hu'' fun n hn hne=>(same'' n hne).trans (same n hn hne)
  refine aw htk ?_;refine aw hs ?_;refine bP h1.fo rfl ?_;refine ⟨EX hie rfl,?_⟩;refine aw htk ?_;refine ⟨fun p hp=>(an hp).elim,ae,?_⟩;refine sh hie2 hk.1 k6 ?_;
  rcases my Tb.i? .inside Tb.i_some (fun z_=>rfl) s with ⟨a,ts,hm,hget⟩ | ⟨hno,hget⟩
  ·refine xe (h2.tbl hm) fun te hte=>?_;rw [hget];refine aw (eA hte) ?_;rw [hW];refine zp (C:=C) (fun x hx=>h.ok _ hm x hx) hf lo.app (fun n hn=>?_) fun loc' σ' ag lo' same len=>tail ag lo' (fun u=>by rw [eX,h.fact_iff hm]) fun n hn hne=>(same n hne).trans (au hn);rw [aq.mp hn];exact ⟨fun e=>bX _ (al (h.lt (qN hm)) (e▸lo.new)),rfl⟩
  ·rw [hget];refine aw (eA (show (σ₁++[fD [] [] 0])[σ₁.length]?=some (.dict [] 0) from aI)) ⟨fun n z_=>rfl,?_⟩;exact tail .refl lo.app (fun u=>⟨.inl,fun q=>q.elim id fun w=>cY w fun a ts hm z_=>absurd hm (hno a ts)⟩) fun n hn hne=>au hn
end
section
variable{M:cN}{L:FL}{S S' S'':Tabs}{nw nw' nw'':Bool}{ms:List V}
theorem zh{d l:Nat}(h:aV M L S nw σ)(hx:∀x∈ts,x∈M.toks)(hs:loc "self"=some (.obj L.f))(hf:loc "found"=some (.obj d))(lo:Lo M σ d fs σ₁)(hl:l≠d)(hl2:l<σ₁.length)(he:σ₁[l]?=σ₀[l]?)
  (hQ:∀loc' σ' fs',bT ["token","inner","outer"] loc loc'→Lo M σ d fs' σ'→(∀u,u∈fs'↔u∈fs∨∃t∈ts,Ld S.fact t u)→QQ .next loc' σ'):eV (bV [l] σ₀) (.name "token") (dW C cE) ts loc σ₁ QQ:=by
 induction ts generalizing fs loc σ₁ with
 | nil=>exact ⟨fun n hn=>by rw [aq.mp hn];exact he,hQ loc σ₁ fs .refl lo fun u=>⟨.inl,fun q=>q.elim id fun w=>bG w fun z_ q z_=>(an q).elim⟩⟩
 | cons t ts ih =>
  refine ⟨fun n hn=>by rw [aq.mp hn];exact he,?_⟩;refine zi h lo (hx t ai) hs hf rfl fun fl loc' σ' fs' hfl ag lo' hu same=>?_;have ag2:bT ["token","inner","outer"] loc loc':=(bT.refl.set ai).trans fun x q=>ag x fun q'=>q (aj _ q');have hl3:σ'[l]?=σ₁[l]?:=same l hl2 hl;have go:eV (bV [l] σ₀) (.name "token") (dW C cE) ts loc' σ' QQ :=
   ih (fun x q=>hx x (aj _ q)) (ag2.at (by decide) hs) (ag2.at (by decide) hf) lo' (a0 (hl3.trans (aC hl2))) (hl3.trans he) fun loc'' σ'' fs'' ag' lo'' hu'=>hQ loc'' σ'' fs'' (ag2.trans ag') lo'' fun u=>by
    rw [hu',hu,or_assoc];exact or_congr Iff.rfl ⟨fun q=>q.elim (fun q=>⟨t,ai,q⟩) fun y=>bG y fun t' q1 q2=>⟨t',aj _ q1,q2⟩,fun z=>bG z fun t' q1 q2=>(aP.mp q1).elim (fun e=>.inl (e▸q2)) fun q1=>.inr ⟨t',q1,q2⟩⟩
  rcases hfl with rfl | rfl<;>exact go
theorem Lo.nil:Lo M σ σ.length [] (σ++[fD [] [] 0]):=⟨aD,ax _,⟨0,aI⟩,List.nodup_nil,fun u hu=>(an hu).elim⟩
theorem Lo.big{d:Nat}{fs:List V}(h:Lo M σ d fs σ₁):fs.length<Mine.big:=ay h.len (by decide)
theorem er{p:V×V}(hp:p∈([]:List (V×V))):p.1.key=true∧p.1.dep≤6:=(an hp).elim
theorem uA{d:Nat}(lo:Lo M σ d fs σ₁)(hQ:Q (.obj σ₁.length) (σ₁++[.list fs])):ic .list [.obj d] σ₁ Q:=by
 refine xe lo.at' fun e he=>?_;have hi:=jx he;rw [hW] at hi;exact jz hi lo.big hQ
theorem oh{l:Nat}(h:aV M L S nw σ)(hl:σ[l]?=some (.list ts))(hx:∀x∈ts,x∈M.toks)
  (hQ:∀r σ' us,σ <+:σ'→σ'[r]?=some (.list us)→σ.length≤r→us.Nodup→(∀u∈us,u∈M.toks)→(∀u,u∈us↔∃t∈ts,Ld S.fact t u)→Q (.obj r) σ') :
  aY ba (n+1) ("EscapeFlow","loaded") [.obj L.f,.obj l] σ Q:=by
 refine bs (d:=gC) rfl ae ae ?_;refine ⟨fun p hp=>er hp,ae,?_⟩;have hl2:(σ++[fD [] [] 0])[l]?=some (.list ts):=aT hl;refine aw (ch hl2) ?_;refine zh (C:=aY ba n) (d:=σ.length) h hx rfl rfl Lo.nil (aN (a0 hl)) (a0 hl2) rfl fun loc' σ' fs' ag lo' hu=>?_;refine aw (ag.at (by decide) rfl) ?_;exact uA lo' (hQ _ _ fs' (lo'.pre.trans aD) aI (bM lo'.pre) lo'.nd lo'.ok fun u=>by rw [hu];exact ⟨fun q=>q.elim (fun q=>(an q).elim) id,.inr⟩)
inductive rU(r:V→V→Prop):V→V→Prop
 | refl {a:V}:rU r a a
 | tail {a b c:V}:rU r a b→r b c→rU r a c
theorem rU.mono{r r':V→V→Prop}(h:∀a b,r a b→r' a b)(x:rU r a b):rU r' a b:=by
 induction x with
 | refl=>exact .refl
 | tail _ q ih=>exact .tail ih (h _ _ q)
noncomputable def Rc(F:Facts)(T:V→Prop)(u:V):Prop:=∃t,T t∧rU (Ld F) t u
theorem iz{w r:Nat}{ws:List V}{b:Bool}{Q:Bool→Prop}(hw:σ[w]?=some (.list ws))(hr:σ[r]?=some (.list []))(h1:V.dats ws=true)(h2:V.deps ws≤6)(hb:ws.isEmpty=b)(q:Q (!b)):dh (ml .ne σ (.obj w) (.obj r)) Q:=by
 refine aw (show (FX σ (.obj w) (.obj r)).map (!·)=some (!b) from ?_) q;have:FX σ (.obj w) (.obj r)=some (V.deq (.tup ws) (.tup [])):=BG hw hr h1 h2 rfl;rw [this,←hb];cases ws<;>rfl
theorem Dj{ws:List V}(h:∀x∈ws,x∈M.toks):V.dats ws=true∧V.deps ws≤6:=by
 constructor
 ·exact V.dats_iff.mpr fun v hv=>V.dat_of_key (M.tok_key (h v hv)).1
 ·induction ws with
  | nil=>exact aS _
  | cons x r ih =>
   have h1:=(M.tok_key (h x ai)).2;have h2:=ih fun y hy=>h y (aj _ hy);dsimp only [V.deps];omega
structure RI(F:Facts)(T:V→Prop)(fs ws:List V):Prop where
 i1:∀u,u∈fs∨u∈ws→Rc F T u
 i2:∀t,T t→t∈fs∨t∈ws
 i3:∀t u,t∈fs→Ld F t u→u∈fs∨u∈ws
section
variable{T:V→Prop}{ws us:List V}{t:V}
theorem b9{ws:List α}{t u:α}:u∈ws++[t]↔u∈ws∨u=t:=by rw [List.mem_append,List.mem_singleton]
theorem rU.keep(h:∀t u,t∈fs→Ld F t u→u∈fs)(st:rU (Ld F) a b):a∈fs→b∈fs:=by
 induction st with
 | refl=>exact id
 | tail _ q ih=>exact fun ha=>h _ _ (ih ha) q
theorem RI.done(h:RI F T fs [])(u:V):u∈fs↔Rc F T u :=
 have k:∀{u},u∈fs∨u∈([]:List V)→u∈fs:=fun q=>q.elim id fun q=>(an q).elim
 ⟨fun q=>h.i1 u (.inl q),fun w=>bG w fun t ht st=>st.keep (fun a b ha l=>k (h.i3 a b ha l)) (k (h.i2 t ht))⟩
theorem RI.skip(h:RI F T fs (ws++[t]))(ht:t∈fs):RI F T fs ws :=
 have k:∀u,u∈fs∨u∈ws++[t]→u∈fs∨u∈ws:=fun u q=>q.elim .inl fun q=>(b9.mp q).elim .inr fun e=>.inl (e▸ht)
 ⟨fun u q=>h.i1 u (q.imp id fun q=>b9.mpr (.inl q)),fun u q=>k u (h.i2 u q),fun a u q1 q2=>k u (h.i3 a u q1 q2)⟩
theorem RI.step(h:RI F T fs (ws++[t]))(hu:∀u,u∈us↔Ld F t u):RI F T (dE fs t) (ws++us) :=
 have k:∀u,u∈fs∨u∈ws++[t]→u∈dE fs t∨u∈ws++us:=fun u q=>q.elim (fun q=>.inl (dM.mpr (.inl q))) fun q=>(b9.mp q).elim (fun q=>.inr (bj.mpr (.inl q))) fun e=>.inl (dM.mpr (.inr e))
 ⟨fun u q=>q.elim (fun q=>(dM.mp q).elim (fun q=>h.i1 u (.inl q)) fun e=>h.i1 u (.inr (b9.mpr (.inr e)))) fun q=>(bA.mp q).elim (fun q=>h.i1 u (.inr (b9.mpr (.inl q)))) fun q=>let ⟨x,hx,st⟩:=h.i1 t (.inr (b9.mpr (.inr rfl)));⟨x,hx,st.tail ((hu u).mp q)⟩,
  fun u q=>k u (h.i2 u q),fun a u q1 q2=>(dM.mp q1).elim (fun q1=>k u (h.i3 a u q1 q2)) fun e=>.inr (bj.mpr (.inr ((hu u).mpr (e▸q2))))⟩
theorem uG(ws:List V):ws=[]∨∃a b,ws=a++[b]:=(List.eq_nil_or_concat ws).imp id fun ⟨a,b,e⟩=>⟨a,b,e.trans List.concat_eq_append⟩
theorem Aw(h:t∉fs):dE fs t=fs++[t]:=if_neg h
end
theorem Lo.setL{d w:Nat}(lo:Lo M σ d fs σ₁)(hdw:d≠w)(hw0:σ.length≤w):Lo M σ d fs (σ₁.set w o) :=
 ⟨eU lo.pre hw0,lo.new,let ⟨e,q⟩:=lo.at';⟨e,(aM (aU hdw)).trans q⟩,lo.nd,lo.ok⟩
theorem mT:M.toks.length≤23:=M.vals_len (.held .none)
theorem wW{k d w:Nat}(h:aV M L S nw σ){T:V→Prop}(hdw:d≠w)(hw0:σ.length≤w){m:Nat}:∀{fs ws:List V} {loc:Loc} {σ₁:Hp},(∀x∈ws,x∈M.toks)→loc "self"=some (.obj L.f)→loc "found"=some (.obj d)→loc "waiting"=some (.obj w)→Lo M σ d fs σ₁→σ₁[w]?=some (.list ws)→
  RI S.fact T fs ws→(M.toks.length-fs.length)*24+ws.length<m→m≤100000→
  (∀loc' σ' fs',bT ["token"] loc loc'→Lo M σ d fs' σ'→(∀u,u∈fs'↔Rc S.fact T u)→QQ .next loc' σ')→jL (tF (aY ba (k+1)) fc) (dW (aY ba (k+1)) fb) m loc σ₁ QQ:=by
 induction m with
 | zero=>intro fs ws loc σ₁ hx hs hf hw lo he ri hm;exact absurd hm (Nat.not_lt_zero _)
 | succ m ih =>
  intro fs ws loc σ₁ hx hs hf hw lo he ri hm hm2 hQ;have he2:(σ₁++[Ob.list []])[w]?=some (.list ws):=aT he;have hd:=Dj hx;refine aw hw ?_;rcases uG ws with rfl | ⟨ws',t,rfl⟩
  ·refine iz (b:=true) he2 aI hd.1 hd.2 rfl ?_;exact hQ loc _ fs .refl lo.app ri.done
  ·refine iz (b:=false) he2 aI hd.1 hd.2 (by cases ws'<;>rfl) ?_;have tk:t∈M.toks:=hx t (b9.mpr (.inr rfl));have hk:=M.tok_key tk;have hlen:(ws'++[t]).length=ws'.length+1:=aO;have hm':(M.toks.length-fs.length)*24+(ws'.length+1)<m+1:=hlen▸hm;have hb:(ws'++[t]).length<big:=ay (Nat.le_add_left _ _) (al hm (am hm2 (by decide)));have lo1:Lo M σ d fs ((σ₁++[Ob.list []]).set w (.list ws')):=lo.app.setL hdw hw0;have hw1:((σ₁++[Ob.list []]).set w (.list ws'))[w]?=some (.list ws'):=bq he2;refine xe lo1.at' fun fe hfe=>?_;have hx':∀x∈ws',x∈M.toks:=fun x q=>hx x (b9.mpr (.inl q));refine aw hw ?_;refine ⟨xV he2 rfl,?_⟩;refine sB he2 hb List.getLast?_concat ?_;rw [List.dropLast_concat];refine aw hf ?_;refine mH (mA hfe hk.1 (bD hk.2)) ?_;have ag:bT ["token"] loc (setL loc "token" t):=bT.refl.set ai;by_cases ht:t∈fs
   ·rw [bh ht];exact ih hx' hs hf hw lo1 hw1 (ri.skip ht) (Nat.lt_of_succ_lt_succ hm') (Nat.le_of_succ_le hm2) fun loc' σ' fs' ag' lo' hu=>hQ loc' σ' fs' (ag.trans ag') lo' hu
   ·rw [decide_eq_false ht];refine aw hf ?_;refine e7 hfe hk.1 (bD hk.2) (ay lo1.len (by decide)) fun e'=>?_;have lo2:=lo1.set (e':=e') tk;have hw2:(((σ₁++[Ob.list []]).set w (.list ws')).set d (.dict (fv (dE fs t)) e'))[w]?=some (.list ws'):=(aM hdw).trans hw1;generalize ((σ₁++[Ob.list []]).set w (.list ws')).set d (.dict (fv (dE fs t)) e')=σ₂ at lo2 hw2 ⊢;have h2:=h.ext lo2.pre;refine aw hw ?_;refine ⟨xV hw2 rfl,?_⟩;refine aw hs ?_;refine bz h2.fo rfl ?_;refine oh (h2.ext aD) aI (fun x q=>by rw [aq.mp q];exact tk) fun r σ' us p hr z_ nd ok hu=>?_;have p2:σ₂ <+:σ':=aD.trans p;have hul:us.length≤23:=am (cM nd ok) mT;have lo3:=lo2.ext p2;have e9:(dE fs t).length=fs.length+1:=by rw [Aw ht];exact aO
    have hlt:(dE fs t).length≤M.toks.length:=cM lo3.nd lo3.ok;refine nz (bU p2 hw2) (jd hr) (ay (Nat.add_le_add (Nat.le_of_succ_le_succ (am (cT (ay (Nat.le_add_left _ _) hm')) hm2:_≤100000)) hul) (by decide)) ?_;refine ih (fun x q=>(bA.mp q).elim (hx' x) (ok x)) hs hf hw (lo3.setL hdw hw0) (bq (bU p2 hw2)) (ri.step fun u=>(hu u).trans ⟨fun y=>bG y fun t' q1 q2=>aq.mp q1▸q2,fun q=>⟨t,ai,q⟩⟩) (by rw [e9,aO];exact FQ hm' (e9▸hlt) hul) (Nat.le_of_succ_le hm2) fun loc' σ' fs' ag' lo' hu=>hQ loc' σ' fs' (ag.trans ag') lo' hu
theorem gN{l:Nat}(h:aV M L S nw σ)(hl:σ[l]?=some (.list ts))(hx:∀x∈ts,x∈M.toks)(hlen:ts.length<1000)
  (hQ:∀r σ' us,σ <+:σ'→σ'[r]?=some (.list us)→σ.length≤r→us.Nodup→(∀u∈us,u∈M.toks)→(∀u,u∈us↔Rc S.fact (·∈ts) u)→Q (.obj r) σ') :
  aY ba (n+2) ("EscapeFlow","reached") [.obj L.f,.obj l] σ Q:=by
 refine bs (d:=gj) rfl ae ae ?_;refine ⟨fun p hp=>er hp,ae,?_⟩;refine jz (hU (aT hl)) (bf hlen (by decide)) ?_;refine ⟨((M.toks.length-0)*24+ts.length)+1,?_⟩;have htl:M.toks.length≤23:=mT;refine wW (k:=n) (d:=σ.length) (w:=(σ++[fD [] [] 0]).length) (T:=(·∈ts)) h (aN (a0 aI)) (bM aD) hx rfl rfl rfl Lo.nil.app aI ⟨fun u q=>⟨u,q.elim (fun q=>(an q).elim) id,.refl⟩,fun t=>.inr,fun t u q=>(an q).elim⟩ (bY _) (am (Nat.succ_le_succ (Nat.add_le_add (Nat.mul_le_mul_right 24 htl) (cT hlen))) (by decide)) fun loc' σ' fs' ag lo' hu=>?_;refine aw (ag.at (by decide) rfl) ?_;exact uA lo' (hQ _ _ fs' (lo'.pre.trans aD) aI (bM lo'.pre) lo'.nd lo'.ok hu)
end
section
variable{M:cN}{L:FL}{S S' S'':Tabs}{nw nw' nw'':Bool}{ms:List V}
noncomputable abbrev vT:V:=.tup [.str "ptr",.tup [.str "int",.str "int"]]
noncomputable abbrev vG:V:=.tup [.str "ptr",.str "main.g",.tup []]
noncomputable abbrev oR(r:V):V:=.tup [.str "reg",r]
noncomputable abbrev oN:V:=.tup [.str "const",vT,.none]
noncomputable abbrev oG:V:=.tup [.str "const",vT,vG]
theorem D6{o':Ob}:(σ++[o]).set σ.length o'=σ++[o']:=by simp
theorem uR{w:Nat}(hw:σ[w]?=some (.list [v]))(q:Q v (σ.set w (.list []))):vF .lpop (.obj w) [] σ Q:=sB hw ae rfl q
theorem xl(hQ:∀r σ',σ <+:σ'→σ'[r]?=some (.list [])→Q (.obj r) σ'):aY ba (n+1) ("","objects_within") [.none] σ Q:=by
 refine bs (d:=fT) rfl ae ae ?_;refine ⟨2,?_⟩;have g1:(σ++[Ob.list []]++[Ob.list [V.none]])[(σ++[Ob.list []]).length]?=some (.list [.none]):=aI;have g2:(σ++[Ob.list []]++[Ob.list [V.none]]++[Ob.list []])[(σ++[Ob.list []]).length]?=some (.list [.none]):=aT g1;refine iz (b:=false) g2 aI rfl (aS _) rfl ?_;refine ⟨xV g2 rfl,?_⟩;refine uR g2 ?_;have g0:(σ++[Ob.list []])[σ.length]?=some (.list []):=aI;have p3:σ++[Ob.list []] <+:(σ++[Ob.list []]++[Ob.list [V.none]]++[Ob.list []]).set (σ++[Ob.list []]).length (.list []):=eU (aD.trans aD) (ax _);have g3:=bq (o':=.list []) g2;generalize (σ++[Ob.list []]++[Ob.list [V.none]]++[Ob.list []]).set (σ++[Ob.list []]).length (.list [])=σ₃ at p3 g3 ⊢;refine iz (b:=true) (aT g3) aI rfl (aS _) rfl ?_;exact hQ _ _ ((aD.trans p3).trans aD) (aT (bU p3 g0))
theorem xm(hQ:∀r σ',σ <+:σ'→σ'[r]?=some (.list [.str "main.g"])→Q (.obj r) σ'):aY ba (n+1) ("","objects_within") [vG] σ Q:=by
 refine bs (d:=fT) rfl ae ae ?_;refine ⟨2,?_⟩;have g1:(σ++[Ob.list []]++[Ob.list [vG]])[(σ++[Ob.list []]).length]?=some (.list [vG]):=aI;have g2:(σ++[Ob.list []]++[Ob.list [vG]]++[Ob.list []])[(σ++[Ob.list []]).length]?=some (.list [vG]):=aT g1;refine iz (b:=false) g2 aI rfl ae rfl ?_;refine ⟨xV g2 rfl,?_⟩;refine uR g2 ?_;have g0:(σ++[Ob.list []])[σ.length]?=some (.list []):=aI;have p3:σ++[Ob.list []] <+:(σ++[Ob.list []]++[Ob.list [vG]]++[Ob.list []]).set (σ++[Ob.list []]).length (.list []):=eU (aD.trans aD) (ax _);have g3:=bq (o':=.list []) g2;generalize (σ++[Ob.list []]++[Ob.list [vG]]++[Ob.list []]).set (σ++[Ob.list []]).length (.list [])=σ₃ at p3 g3 ⊢;have gf:σ₃[σ.length]?=some (.list []):=bU p3 g0;refine mH (r:=false) (show Ba σ₃ (.str "main.g") (.obj σ.length)=some false from cZ gf) ?_;refine ⟨xV gf rfl,?_⟩;refine fh gf ae ?_;have ne:σ.length≠(σ++[Ob.list []]).length:=aN (a0 g0);refine iz (b:=true) (aT ((aM ne).trans g3)) aI rfl (aS _) rfl ?_;exact hQ _ _ ((eU (aD.trans p3) (ax _)).trans aD) (aT (bq gf))
noncomputable def cX(F:Facts)(op:V)(t:V):Prop:=(∃r,op=oR r∧F (.held r) t)∨(op=oG∧t=tB)
noncomputable def jY(op:V):Prop:=(∃r∈regs,op=oR r)∨op=oN∨op=oG
theorem ye{r:V}(h:r∈regs):∃i:Nat,r=.int i∧i<10:=by
 unfold regs at h;refine bG (List.mem_map.mp h) fun i hi q=>?_;subst q;exact ⟨i,rfl,List.mem_range.mp hi⟩
theorem F1{r r':V}(h:oR r=oR r'):r=r':=by cases h;rfl
theorem Io{r:V}:oR r≠oG:=fun e=>absurd (V.str.inj (List.cons.inj (V.tup.inj e)).1) (by decide)
theorem IH{r:V}:oR r≠oN:=fun e=>absurd (V.str.inj (List.cons.inj (V.tup.inj e)).1) (by decide)
theorem IG:oN≠oG:=fun e=>by cases e
theorem vp{r u:V}:cX F (oR r) u↔F (.held r) u:=⟨fun q=>q.elim (fun w=>bG w fun r' e q=>F1 e▸q) fun q=>absurd q.1 Io,fun q=>.inl ⟨r,rfl,q⟩⟩
theorem CE{u:V}:¬cX F oN u:=fun q=>q.elim (fun w=>bG w fun r' e q=>absurd e.symm IH) fun q=>absurd q.1 IG
theorem Ag{u:V}:cX F oG u↔u=tB:=⟨fun q=>q.elim (fun w=>bG w fun r' e q=>absurd e.symm Io) And.right,fun q=>.inr ⟨rfl,q⟩⟩
theorem cG{op:V}(h:aV M L S nw σ)(ho:jY op)
  (hQ:∀r σ' us,σ <+:σ'→σ'[r]?=some (.list us)→σ.length≤r→us.Nodup→(∀u∈us,u∈M.toks)→(∀u,u∈us↔cX S.fact op u)→Q (.obj r) σ') :
  aY ba (n+2) ("EscapeFlow","tokens_of") [.obj L.f,op] σ Q:=by
 refine bs (d:=fC) rfl ae ae ?_;rcases ho with ⟨r,hr,rfl⟩ | rfl | rfl
 ·refine bG (ye hr) fun i w hi=>?_;subst w;have h2:aV M L S nw (σ++[fD [] [] 0]):=h.ext aD;refine xe h.hd fun ie hie=>?_;refine xe h2.hd fun ie2 hie2=>?_;refine bP h.fo rfl ?_;refine ⟨EX hie rfl,?_⟩;refine ⟨fun p hp=>er hp,ae,?_⟩;refine sh hie2 rfl (aS _) ?_;rcases my Tb.h? .held Tb.h_some (fun z_=>rfl) (.int i) with ⟨a,ts,hm,hget⟩ | ⟨hno,hget⟩
  ·rw [hget];refine xe (h2.tbl hm) fun te hte=>?_;have hi:=jx hte;rw [hW] at hi;refine jz hi (ay (h2.ln hm) (by decide)) ?_;exact hQ _ _ ts (aD.trans aD) aI (bM aD) (h.nd _ hm) (fun u hu=>h.ok _ hm u hu) fun u=>by rw [vp,h.fact_iff hm]
  ·rw [hget];refine jz (jx (aI (σ:=σ) (o:=fD [] [] 0))) ae ?_;exact hQ _ _ [] (aD.trans aD) aI (bM aD) List.nodup_nil (fun u hu=>(an hu).elim) fun u=>⟨fun q=>(an q).elim,fun q=>let ⟨a,ts,hm,_⟩:=vp.mp q;absurd hm (hno a ts)⟩
 ·refine xl fun r σ' p hr=>?_;refine iz (b:=true) (aT hr) aI rfl (aS _) rfl ?_;exact hQ _ _ [] ((p.trans aD).trans aD) aI (bM (p.trans aD)) List.nodup_nil (fun u hu=>(an hu).elim) fun u=>⟨fun q=>(an q).elim,fun q=>(CE q).elim⟩
 ·refine xm fun r σ' p hr=>?_;refine iz (b:=false) (aT hr) aI rfl (aS _) rfl ?_;exact hQ _ _ [tB] ((p.trans aD).trans aD) aI (bM (p.trans aD)) (List.nodup_cons.mpr ⟨an,List.nodup_nil⟩) (fun u hu=>aq.mp hu▸ai) fun u=>List.mem_singleton.trans Ag.symm
end
section
variable{M:cN}{L:FL}{S S' S'':Tabs}{nw nw' nw'':Bool}{ms:List V}
inductive Ix where | h | i | t
noncomputable def Ix.f:Ix→Tb→Option V | .h=>Tb.h? | .i=>Tb.i? | .t=>Tb.t?
noncomputable def Ix.g:Ix→V→Tb | .h=>.held | .i=>.inside | .t=>.told
noncomputable def Ix.ad(L:FL):Ix→Nat | .h=>L.held | .i=>L.inside | .t=>L.told
theorem Ix.some(c:Ix){t:Tb}{r:V}(h:c.f t=.some r):t=c.g r:=by
 cases c
 ·exact Tb.h_some h
 ·exact Tb.i_some h
 ·exact Tb.t_some h
theorem Ix.fg(c:Ix)(r:V):c.f (c.g r)=.some r:=by cases c<;>rfl
theorem Ix.other{c d:Ix}(h:c≠d)(r:V):c.f (d.g r)=none:=by cases c<;>cases d<;>first | exact absurd rfl h | rfl
theorem aV.ix(h:aV M L S nw σ)(c:Ix):∃e,σ[c.ad L]?=.some (.dict (S.idx c.f) e):=by
 cases c
 ·exact h.hd
 ·exact h.ins
 ·exact h.td
theorem aV.own5(h:aV M L S nw σ):(L.f≠L.held∧L.f≠L.inside∧L.f≠L.summ∧L.f≠L.told)∧(L.held≠L.inside∧L.held≠L.summ∧L.held≠L.told)∧(L.inside≠L.summ∧L.inside≠L.told)∧L.summ≠L.told:=by
 have nd:=(cu.mp h.ads).1;unfold FL.own at nd;simp only [List.nodup_cons,List.mem_cons,an,or_false,not_or] at nd;refine vB nd fun q w x d10 z_=>?_;refine nU q fun d1 d2 d3 d4=>?_;refine ni w fun d5 d6 d7=>?_;refine xa x fun d8 d9=>?_;exact ⟨⟨d1,d2,d3,d4⟩,⟨d5,d6,d7⟩,⟨d8,d9⟩,d10⟩
theorem Ix.inj(h:aV M L S nw σ){c d:Ix}(hne:c≠d):c.ad L≠d.ad L:=by
 refine nU h.own5 fun q w x d10=>?_;refine nU q fun d1 d2 d3 d4=>?_;refine ni w fun d5 d6 d7=>?_;refine xa x fun d8 d9=>?_;cases c<;>cases d<;>first | exact absurd rfl hne | assumption | exact aU (by assumption)
theorem Ix.notFS(h:aV M L S nw σ)(c:Ix):c.ad L≠L.f∧c.ad L≠L.summ:=by
 refine nU h.own5 fun q w x d10=>?_;refine nU q fun d1 d2 d3 d4=>?_;refine ni w fun d5 d6 d7=>?_;refine xa x fun d8 d9=>?_;cases c
 ·exact ⟨aU d1,d6⟩
 ·exact ⟨aU d2,d8⟩
 ·exact ⟨aU d4,aU d10⟩
theorem Ix.mem(c:Ix):c.ad L∈L.own:=by unfold FL.own;cases c<;>simp [Ix.ad]
theorem pB{a:Nat}:Tabs.fact (S++[(tb,a,[])])=S.fact:=by
 funext tb' v
 apply propext;constructor
 ·intro q;refine cY q fun b us h1 h2=>?_;clear q;refine Or.elim (bA.mp h1) (fun h1=>?_) (fun h1=>?_)
  ·exact ⟨b,us,h1,h2⟩
  ·rw [List.mem_singleton] at h1;cases h1;cases h2
 ·exact fun w=>cY w fun b us h1 h2=>⟨b,us,bj.mpr (.inl h1),h2⟩
theorem BO(h:aV M L S nw σ)(c:Ix){r:V}{e e':Nat}(hr:c.g r∈M.tbs)(hno:∀a ts,(c.g r,a,ts)∉S) :
  Op M L [] H8 S nw σ (S++[(c.g r,σ.length,[])]) nw ((σ++[Ob.dict [] e]).set (c.ad L) (.dict (S.idx c.f++[(r,.obj σ.length)]) e')):=by
 have new:∀{n},Ad L S n→n≠σ.length:=fun {n} ha e=>bX _ (e▸h.lt ha);have adO:∀{n},n∈L.own→Ad L S n:=fun {n} q=>bj.mpr (.inl q);have adT:∀{p},p∈S→Ad L S p.2.1:=fun {p} q=>bj.mpr (.inr (bH.mpr ⟨_,q,rfl⟩));have clt:c.ad L<σ.length:=h.lt (adO c.mem);refine xa (c.notFS h) fun nf nsm=>?_;have at0:∀{n o},σ[n]?=some o→n≠c.ad L→((σ++[Ob.dict [] e]).set (c.ad L) (.dict (S.idx c.f++[(r,.obj σ.length)]) e'))[n]?=some o:=fun q1 q2=>(aM (aU q2)).trans (aT q1);have atI:((σ++[Ob.dict [] e]).set (c.ad L) (.dict (S.idx c.f++[(r,.obj σ.length)]) e'))[c.ad L]?=some (.dict (S.idx c.f++[(r,.obj σ.length)]) e'):=by
  refine xe (h.ix c) fun e0 q=>?_;exact bq (aT q)
 have ix:∀d:Ix,∃e0,((σ++[Ob.dict [] e]).set (c.ad L) (.dict (S.idx c.f++[(r,.obj σ.length)]) e'))[d.ad L]?=some (.dict (Tabs.idx (S++[(c.g r,σ.length,[])]) d.f) e0):=fun d=>by
  by_cases hd:d=c
  ·subst hd;refine ⟨e',?_⟩;rw [atI];unfold Tabs.idx;rw [List.filterMap_append,List.filterMap_cons_some (b:=(r,V.obj σ.length)) (by show (d.f (d.g r)).map _=_;rw [d.fg];rfl)];rfl
  ·refine xe (h.ix d) fun e0 q=>?_;refine ⟨e0,?_⟩;rw [at0 q (Ix.inj h hd)];unfold Tabs.idx;rw [List.filterMap_append,List.filterMap_cons_none (by show (d.f (c.g r)).map _=_;rw [Ix.other hd];rfl)];simp
 have m1:(S++[(c.g r,σ.length,([]:List V))]).map (·.1)=S.map (·.1)++[c.g r]:=by simp
 have m2:(S++[(c.g r,σ.length,([]:List V))]).map (·.2.1)=S.map (·.2.1)++[σ.length]:=by simp
 refine ⟨⟨at0 h.fo (aU nf),at0 h.so (aU nsm),ix .h,ix .i,ix .t,fun p hp=>?_,?_,?_,fun p hp=>?_,fun p hp=>?_,fun p hp v hv=>?_,?_,?_,?_,?_⟩,?_,fun n hn ha=>?_,fun n hn=>?_,id,fun z_=>pB,fun z_ z_ z_ f=>f.elim,fun tb v f=>?_,fun C h1 z_ tb v f=>?_,fun us us' h1 h2=>?_,fun tb a us hu=>⟨us,bj.mpr (.inl hu)⟩,?_,fun h1 h2=>?_⟩
 ·refine Or.elim (bA.mp hp) (fun hp=>?_) (fun hp=>?_)
  ·refine xe (h.tb p hp) fun e0 q=>?_;exact ⟨e0,at0 q fun e=>h.apart hp (e▸c.mem)⟩
  ·rw [List.mem_singleton] at hp;subst hp;exact ⟨e,(aM (aN clt)).trans aI⟩
 ·rw [m2,←aR];exact List.nodup_append.mpr ⟨h.ads,by simp,fun a ha b hb=>by rw [aq.mp hb];exact new ha⟩
 ·rw [m1];refine List.nodup_append.mpr ⟨h.keys,by simp,fun a ha b hb=>?_⟩;rw [aq.mp hb];rintro rfl;refine bG (List.mem_map.mp ha) fun p hp e=>?_;exact hno p.2.1 p.2.2 (e▸hp)
 ·refine Or.elim (bA.mp hp) (fun hp=>?_) (fun hp=>?_)
  ·exact h.nd p hp
  ·rw [List.mem_singleton] at hp;subst hp;simp
 ·refine Or.elim (bA.mp hp) (fun hp=>?_) (fun hp=>?_)
  ·exact h.tbs p hp
  ·rw [List.mem_singleton] at hp;subst hp;exact hr
 ·refine Or.elim (bA.mp hp) (fun hp=>?_) (fun hp=>?_)
  ·exact h.ok p hp v hv
  ·rw [List.mem_singleton] at hp;subst hp;cases hv
 ·refine xe h.atS fun ts q=>?_;exact ⟨ts,bj.mpr (.inl q)⟩
 ·refine xe h.atG fun ts q=>?_;exact ⟨ts,bj.mpr (.inl q)⟩
 ·refine xe h.atL fun ts q=>?_;exact ⟨ts,bj.mpr (.inl q)⟩
 ·refine xe h.atK fun ts q=>?_;exact ⟨ts,bj.mpr (.inl q)⟩
 ·simp
 ·rw [aM fun e:c.ad L=n=>ha (e▸adO c.mem),au hn]
 ·unfold Ad at hn ⊢;rw [m2,←aR] at hn;exact (bA.mp hn).imp id fun q=>Nat.le_of_eq (aq.mp q).symm
 ·rw [pB];exact f
 ·rw [pB] at f;exact h1 tb v f
 ·refine Or.elim (bA.mp h2) (fun h2=>?_) (fun h2=>?_)
  ·exact (h.uniq h2 h1).2
  ·rw [List.mem_singleton] at h2;have:=congrArg (·.1) h2;cases c<;>cases this
 ·unfold Tabs.size;simp
 ·rw [h1] at h2;cases h2
theorem kx{l:List (V×V)}(h:getD l k=none):dw l k v=l++[(k,v)]:=by
 unfold dw;rw [nC h]
theorem nO(h:aV M L S nw σ)(c:Ix):F2 .setdefault σ (.obj (c.ad L))=true:=let ⟨e,he⟩:=h.ix c;EX he rfl
theorem xJ(h:aV M L S nw σ){f:Tb→Option V}:(S.idx f).length<big:=by
 have h3:=cM (l:=S.map (·.1)) (m:=M.tbs) h.keys fun x hx=>let ⟨p,hp,e⟩:=List.mem_map.mp hx;e▸h.tbs p hp
 have h4:M.tbs.length≤100:=by
  have:=M.few;simp only [cN.tbs,regs,aO,aJ,List.length_range,List.length_cons,List.length_nil];omega
 rw [aJ] at h3;exact ay (List.length_filterMap_le ..) (ay (am h3 h4) (by decide))
theorem ky(h:aV M L S nw σ)(c:Ix){r:V}(hk:r.key=true)(hd:r.dep≤6)(hr:c.g r∈M.tbs)
  (hQ:∀a ts S' σ',(c.g r,a,ts)∈S'→Op M L [] H8 S nw σ S' nw σ'→Q (.obj a) σ'):vF .setdefault (.obj (c.ad L)) [r,.obj σ.length] (σ++[fD [] [] 0]) Q:=by
 have h2:aV M L S nw (σ++[fD [] [] 0]):=h.ext aD;refine xe (h2.ix c) fun e2 he2=>?_;rcases my c.f c.g c.some c.fg r with ⟨a,ts,hm,hget⟩ | ⟨hno,hget⟩
 ·exact B5 he2 hk hd (xJ h) hget (hQ a ts S _ hm (.ext h aD fun z_ z_ f=>f.elim))
 ·refine B4 he2 hk hd (xJ h) hget ?_;have e3:fK (S.idx c.f) e2 r (.obj σ.length)=.dict (S.idx c.f++[(r,.obj σ.length)]) (e2+1):=by
   unfold fK;rw [kx hget,hget];rfl
  rw [e3];exact hQ _ [] _ _ (bj.mpr (.inr (List.mem_singleton.mpr rfl))) (BO h c hr hno)
theorem xH(f:α→V){names:List String}{t:Tn}{body:Loc→Hp→(Fl→Loc→Hp→Prop)→Prop}{Rx:α→Facts→Facts}{nx:α→List V}{loc₀:Loc}{S₀:Tabs}{nw₀:Bool}(xs₀:List α)(h0:aV M L S₀ nw₀ σ₀)
  (hgd:∀S' nw' σ' ns R,Op M L ns R S₀ nw₀ σ₀ S' nw' σ'→gd σ')
  (hstep:∀x∈xs₀,∀loc S nw σ ns R,bT names loc₀ loc→Op M L ns R S₀ nw₀ σ₀ S nw σ→∃loc1,tR t (f x) loc σ=some loc1∧∀QQ:Fl→Loc→Hp→Prop,(∀fl loc2 S' nw' σ',(fl=.next∨fl=.cont)→bT names loc₀ loc2→Op M L (nx x) (Rx x) S nw σ S' nw' σ'→QQ fl loc2 σ')→body loc1 σ QQ)
  (hQ:∀loc S nw σ,bT names loc₀ loc→Op M L (xs₀.flatMap nx) (fun F tb v=>∃x∈xs₀,Rx x F tb v) S₀ nw₀ σ₀ S nw σ→QQ .next loc σ):eV gd t body (xs₀.map f) loc₀ σ₀ QQ:=by
 suffices key:∀(rest done:List α),xs₀=done++rest→∀{loc S nw σ},bT names loc₀ loc→Op M L (done.flatMap nx) (fun F tb v=>∃x∈done,Rx x F tb v) S₀ nw₀ σ₀ S nw σ→eV gd t body (rest.map f) loc σ QQ from
  key xs₀ [] rfl .refl ((Op.refl h0).conv' fun F tb v=>⟨fun w=>bG w fun z_ q z_=>(an q).elim,fun q=>q.elim⟩)
 intro rest
 induction rest with
 | nil =>
  intro done e loc S nw σ ag o;rw [bn] at e;exact ⟨hgd _ _ _ _ _ o,hQ loc S nw σ ag (e▸o)⟩
 | cons x rest ih =>
  intro done e loc S nw σ ag o;refine bG (hstep x (e▸bj.mpr (.inr ai)) loc S nw σ _ _ ag o) fun loc1 hb hs=>?_;refine ⟨hgd _ _ _ _ _ o,?_⟩;rw [hb];refine hs _ fun fl loc2 S' nw' σ' hfl ag2 o2=>?_;have:=ih (done++[x]) (e.trans (List.append_cons ..)) ag2 (by
   rw [List.flatMap_append,List.flatMap_singleton];exact (Op.trans h0 o o2).conv' fun F tb v=>⟨fun z=>bG z fun y hy q=>(b9.mp hy).elim (fun hy=>.inl ⟨y,hy,q⟩) fun hy=>.inr (hy▸q),fun q=>q.elim (fun u=>bG u fun y hy q=>⟨y,b9.mpr (.inl hy),q⟩) fun q=>⟨x,b9.mpr (.inr rfl),q⟩⟩)
  rcases hfl with rfl | rfl<;>exact this
theorem jr{names:List String}{t:Tn}{body:Loc→Hp→(Fl→Loc→Hp→Prop)→Prop}{Rx:V→Facts→Facts}{nx:V→List V}{loc₀:Loc}{S₀:Tabs}{nw₀:Bool}(xs₀:List V)(h0:aV M L S₀ nw₀ σ₀)
  (hgd:∀S' nw' σ' ns R,Op M L ns R S₀ nw₀ σ₀ S' nw' σ'→gd σ')
  (hstep:∀x∈xs₀,∀loc S nw σ ns R,bT names loc₀ loc→Op M L ns R S₀ nw₀ σ₀ S nw σ→∃loc1,tR t x loc σ=some loc1∧∀QQ:Fl→Loc→Hp→Prop,(∀fl loc2 S' nw' σ',(fl=.next∨fl=.cont)→bT names loc₀ loc2→Op M L (nx x) (Rx x) S nw σ S' nw' σ'→QQ fl loc2 σ')→body loc1 σ QQ)
  (hQ:∀loc S nw σ,bT names loc₀ loc→Op M L (xs₀.flatMap nx) (fun F tb v=>∃x∈xs₀,Rx x F tb v) S₀ nw₀ σ₀ S nw σ→QQ .next loc σ):eV gd t body xs₀ loc₀ σ₀ QQ :=
 List.map_id xs₀▸xH id xs₀ h0 hgd hstep hQ
end
section
variable{M:cN}{L:FL}{S S' S'':Tabs}{nw nw' nw'':Bool}{ms:List V}
theorem Op.stoodL(o:Op M L ns R S nw σ S' nw' σ'){l:Nat}(hl:l<σ.length)(hna:¬Ad L S l):bV [l] σ σ':=fun n hn=>by
 rw [aq.mp hn];exact o.fr l hl hna
theorem flatMap_nil:xs.flatMap (fun z_=>([]:List V))=[]:=List.flatMap_eq_nil_iff.mpr fun z_ z_=>rfl
theorem rA{l a:Nat}{us:List V}(h:aV M L S nw σ)(hm:(tb,a,us)∈S)(hns:∀k,DS tb k=[])(hx:∀x∈ts,x∈M.vals tb)(hl:σ[l]?=some (.list ts))(hna:¬Ad L S l)(hs:loc "self"=some (.obj L.f))(hh:loc "held"=some (.obj a))
  (hQ:∀loc' S' nw' σ',bT ["token"] loc loc'→Op M L [] (fun z_ tb' v=>tb'=tb∧v∈ts) S nw σ S' nw' σ'→QQ .next loc' σ'):eV (bV [l] σ) (.name "token") (dW (aY ba (n+1)) gh) ts loc σ QQ:=by
 refine jr (names:=["token"]) (nx:=fun z_=>[]) (Rx:=fun x=>Dn tb x) ts h (fun S' nw' σ' ns R o=>o.stoodL (a0 hl) hna) (fun x hxt loc' S' nw' σ' ns R ag o=>⟨_,rfl,fun QQ hq=>?_⟩) fun loc' S' nw' σ' ag o=>?_
 ·refine xe (o.tab _ _ _ hm) fun us' hus=>?_;refine aw (ag.at (by decide) hs) ?_;refine bz o.fl.fo rfl ?_;refine aw (ag.at (by decide) hh) ?_;refine dQ o.fl hus (hx x hxt) fun S2 nw2 σ2 o2=>hq _ _ S2 nw2 σ2 (.inl rfl) (ag.set ai) ?_;rw [hns] at o2;exact o2
 ·rw [flatMap_nil] at o;exact hQ loc' S' nw' σ' ag (o.conv' fun F tb' v=>⟨fun w=>xa w fun e q=>⟨v,q,e,rfl⟩,fun y=>f7 y fun x q e e2=>⟨e,e2▸q⟩⟩)
noncomputable def eJ(r:V)(T:V→Prop):Facts→Facts:=fun z_ tb v=>tb=.held r∧T v
theorem si{r:V}(h:r∈regs):Tb.held r∈M.tbs:=by
 delta cN.tbs;simp only [List.mem_append,List.mem_map];exact .inl (.inl ⟨r,h,rfl⟩)
theorem yW{r:V}(h:r∈M.sites):Tb.inside r∈M.tbs:=by
 delta cN.tbs;simp only [List.mem_append,List.mem_map];exact .inl (.inr ⟨r,h,rfl⟩)
theorem fV{l:Nat}{r:V}(h:aV M L S nw σ)(hr:r∈regs)(hl:σ[l]?=some (.list ts))(hna:¬Ad L S l)(hx:∀x∈ts,x∈M.toks)
  (hQ:∀S' nw' σ',Op M L [] (eJ r (·∈ts)) S nw σ S' nw' σ'→Q .none σ'):aY ba (n+2) ("EscapeFlow","give") [.obj L.f,r,.obj l] σ Q:=by
 refine bG (ye hr) fun i w hi=>?_;subst w;refine bs (d:=im) rfl ae ae ?_;refine bP h.fo rfl ?_;refine ⟨nO h .h,?_⟩;refine ⟨fun p hp=>er hp,ae,?_⟩;refine ky h .h (r:=.int i) rfl (aS _) (si hr) fun a us S1 σ1 hm o=>?_;have hl1:=o.keep hl hna;refine aw (ch hl1.1) ?_;exact rA o.fl hm (fun z_=>rfl) hx hl1.1 hl1.2 rfl rfl fun loc' S2 nw2 σ2 ag o2=>hQ S2 nw2 σ2 ((Op.trans h o o2).conv' fun F tb v=>⟨.inr,fun q=>q.elim (fun q=>q.elim) id⟩)
theorem jD(h:aV M L S nw σ):¬Ad L S σ.length:=fun q=>bX _ (h.lt q)
theorem Cj{s:V}(hs:s∈M.sites):tS s∈M.toks:=aj _ (aj _ (aj _ (bH.mpr ⟨s,hs,rfl⟩)))
theorem oT{t x:V}(ht:t∈M.toks)(hx:x∈[t]):x∈M.toks:=aq.mp hx▸ht
theorem zo{r s:V}(h:aV M L S nw σ)(hr:r∈regs)(hs:s∈M.sites)
  (hQ:∀S' nw' σ',Op M L [s] (Hz (Dn .sites s) (eJ r (·=tS s))) S nw σ S' nw' σ'→Q .none σ'):aY ba (n+3) ("EscapeFlow","make") [.obj L.f,r,s] σ Q:=by
 refine xe h.atS fun ss hss=>?_;refine bs (d:=ip) rfl ae ae ?_;refine bz h.fo rfl ?_;refine bP h.fo rfl ?_;refine dQ h hss hs fun S1 nw1 σ1 o1=>?_;refine bz o1.fl.fo rfl ?_;refine fV (o1.fl.ext (aD (τ:=[Ob.list [tS s]]))) hr aI (jD o1.fl) (fun x hx=>oT (Cj hs) hx) fun S2 nw2 σ2 o2=>?_;exact hQ S2 nw2 σ2 ((Op.trans h o1 (o2.pre aD)).conv' fun F tb v=>or_congr Iff.rfl (and_congr Iff.rfl List.mem_singleton.symm))
theorem Ld.mono{G:Facts}(h:∀tb v,F tb v→G tb v){t u:V}(l:Ld F t u):Ld G t u:=by
 rcases l with ⟨s,e,q | ⟨q1,q2⟩⟩ | ⟨q1,q | ⟨i,o,e,q,e2⟩⟩
 ·exact .inl ⟨s,e,.inl (h _ _ q)⟩
 ·exact .inl ⟨s,e,.inr ⟨h _ _ q1,q2⟩⟩
 ·exact .inr ⟨q1,.inl q⟩
 ·exact .inr ⟨q1,.inr ⟨i,o,e,h _ _ q,e2⟩⟩
theorem Rc.mono{F G:Facts}{T T':V→Prop}(h:∀tb v,F tb v→G tb v)(ht:∀v,T v→T' v){u:V}(r:Rc F T u):Rc G T' u :=
 let ⟨t,q1,q2⟩:=r;⟨t,ht t q1,q2.mono fun z_ z_=>Ld.mono h⟩
noncomputable def i7(T:V→Prop):Facts→Facts:=fun F tb v=>∃u,Rc F T u∧((tb=.gone∧u=tS v)∨(tb=.leaks∧u=tO v))
theorem i7.mono{F G:Facts}{T T':V→Prop}(h:∀tb v,F tb v→G tb v)(ht:∀v,T v→T' v){tb:Tb}{v:V}(l:i7 T F tb v):i7 T' G tb v :=
 let ⟨u,q1,q2⟩:=l;⟨u,q1.mono h ht,q2⟩
noncomputable abbrev EV(x:V):Facts→Facts:=fun z_ tb v=>(tb=.gone∧x=tS v)∨(tb=.leaks∧x=tO v)
theorem rt{x:V}{tb':Tb}(hb:tb'=.gone∧x=tS k∨tb'=.leaks∧x=tO k):EV x F tb v↔Dn tb' k F tb v:=by
 rcases hb with ⟨rfl,rfl⟩ | ⟨rfl,rfl⟩
 ·exact ⟨fun q=>q.elim (fun q=>⟨q.1,(Gn q.2).symm⟩) fun q=>absurd q.2.symm oq,fun q=>.inl ⟨q.1,q.2▸rfl⟩⟩
 ·exact ⟨fun q=>q.elim (fun q=>absurd q.2 oq) fun q=>⟨q.1,by cases q.2;rfl⟩,fun q=>.inr ⟨q.1,q.2▸rfl⟩⟩
theorem ze{i:Int}(h:i=0∨i=1):V.int i∈M.vals .leaks:=by rcases h with rfl | rfl;exact ai;exact aj _ ai
theorem i8{l:Nat}(h:aV M L S nw σ)(hl:σ[l]?=some (.list ts))(hx:∀x∈ts,x∈M.toks)(hlen:ts.length<1000)
  (hQ:∀S' nw' σ',Op M L [] (i7 (·∈ts)) S nw σ S' nw' σ'→Q .none σ'):aY ba (n+3) ("EscapeFlow","leak") [.obj L.f,.obj l] σ Q:=by
 refine bs (d:=io) rfl ae ae ?_;refine bz h.fo rfl ?_;refine gN h hl hx hlen fun r σ1 us p hr hnew nd ok hu=>?_;have h1:=h.ext p;have hna:¬Ad L S r:=fun q=>bX _ (al (h.lt q) hnew);refine aw (ch hr) ?_;refine jr (names:=["token"]) (nx:=fun z_=>[]) (Rx:=EV) us h1 (fun S' nw' σ' ns R o=>o.stoodL (a0 hr) hna) (fun x hxt loc' S' nw' σ' ns R ag o=>⟨_,rfl,fun QQ hq=>?_⟩) fun loc' S' nw' σ' ag o=>?_
 ·have ag1:=ag.set (x:="token") (v:=x) ai;have hself:loc' "self"=some (.obj L.f):=ag.at (by decide) rfl;rcases f6 (ok x hxt) with rfl | ⟨i,hi,rfl⟩ | ⟨s,hs',rfl⟩
  ·exact hq _ _ S' nw' σ' (.inl rfl) ag1 ((Op.refl o.fl).conv' fun F tb v=>⟨fun q=>q.elim (fun q=>lp q.2) fun q=>qn q.2,fun q=>q.elim⟩)
  ·refine aw hself ?_;refine bz o.fl.fo rfl ?_;refine aw hself ?_;refine bP o.fl.fo rfl ?_;refine bP o.fl.so rfl ?_;refine xe o.fl.atL fun ls hls=>?_;exact dQ o.fl hls (ze hi) fun S2 nw2 σ2 o2=>hq _ _ S2 nw2 σ2 (.inl rfl) ag1 (o2.conv' fun F tb v=>rt (.inr ⟨rfl,rfl⟩))
  ·refine aw hself ?_;refine bz o.fl.fo rfl ?_;refine aw hself ?_;refine bP o.fl.fo rfl ?_;refine xe o.fl.atG fun gs hgs=>?_;exact dQ o.fl hgs hs' fun S2 nw2 σ2 o2=>hq _ _ S2 nw2 σ2 (.inl rfl) ag1 (o2.conv' fun F tb v=>rt (.inl ⟨rfl,rfl⟩))
 ·rw [flatMap_nil] at o;exact hQ S' nw' σ' ((o.pre p).conv (fun e tb v w=>bG w fun u q1 q2=>⟨u,(hu u).mpr (e▸q1),q2⟩) fun C hC tb v y=>bG y fun u q1 q2=>⟨u,((hu u).mp q1).mono hC fun z_=>id,q2⟩)
end
section
variable{M:cN}{L:FL}{S S' S'':Tabs}{nw nw' nw'':Bool}{ms:List V}
noncomputable def kt:V→V
 | .tup [.str s,i]=>if s="outer" then i else .int (-1)
 | _=>.int (-1)
noncomputable abbrev jF(o x:V):Facts→Facts:=fun F tb v=>((∃s,x=tS s)∧i7 (·=x) F tb v)∨(tb=.kept∧v=.tup [kt x,o])
noncomputable def kL(o:V)(T:V→Prop):Facts→Facts:=fun F tb v=>∃u,Rc F T u∧jF o u F tb v
theorem jF.mono{F G:Facts}{o x:V}(h:∀tb v,F tb v→G tb v){tb:Tb}{v:V}(l:jF o x F tb v):jF o x G tb v :=
 l.imp (fun q=>⟨q.1,q.2.mono h fun z_=>id⟩) id
theorem kL.mono{F G:Facts}{T T':V→Prop}{o:V}(h:∀tb v,F tb v→G tb v)(ht:∀v,T v→T' v){tb:Tb}{v:V}(l:kL o T F tb v):kL o T' G tb v :=
 let ⟨u,q1,q2⟩:=l;⟨u,q1.mono h ht,q2.mono h⟩
theorem sT{i:V}:kt (tO i)=i:=rfl
theorem sU{s:V}:kt (tS s)=.int (-1):=rfl
theorem nH{i o:Int}(hi:i= -1∨i=0∨i=1)(ho:o=0∨o=1):V.tup [.int i,.int o]∈M.vals .kept:=by
 delta cN.vals;rcases hi with rfl | rfl | rfl<;>rcases ho with rfl | rfl<;>simp only [List.mem_cons,true_or,or_true]
theorem Hk{o x w:V}(hx:∀s,x≠tS s)(hw:kt x=w):jF o x F tb v↔Dn .kept (.tup [w,o]) F tb v :=
 ⟨fun q=>q.elim (fun q=>let ⟨s,e⟩:=q.1;absurd e (hx s)) fun q=>hw▸q,fun q=>.inr (hw▸q)⟩
theorem sV{l:Nat}{o:Int}(h:aV M L S nw σ)(ho:o=0∨o=1)(hl:σ[l]?=some (.list ts))(hx:∀x∈ts,x∈M.toks)(hlen:ts.length<1000)
  (hQ:∀S' nw' σ',Op M L [] (kL (.int o) (·∈ts)) S nw σ S' nw' σ'→Q .none σ'):aY ba (n+4) ("EscapeFlow","put_out") [.obj L.f,.int o,.obj l] σ Q:=by
 refine bs (d:=gi) rfl ae ae ?_;refine bz h.fo rfl ?_;refine gN h hl hx hlen fun r σ1 us p hr hnew nd ok hu=>?_;have h1:=h.ext p;have hna:¬Ad L S r:=fun q=>bX _ (al (h.lt q) hnew);refine aw (ch hr) ?_;refine jr (names:=["token"]) (nx:=fun z_=>[]) (Rx:=jF (.int o)) us h1 (fun S' nw' σ' ns R o=>o.stoodL (a0 hr) hna) (fun x hxt loc' S' nw' σ' ns R ag o'=>⟨_,rfl,fun QQ hq=>?_⟩) fun loc' S' nw' σ' ag o=>?_
 ·have ag1:=ag.set (x:="token") (v:=x) ai;have hself:loc' "self"=some (.obj L.f):=ag.at (by decide) rfl;have hout:loc' "outer"=some (.int o):=ag.at (by decide) rfl;refine xe o'.fl.atK fun ks hks=>?_;rcases f6 (ok x hxt) with rfl | ⟨i,hi,rfl⟩ | ⟨s,hs',rfl⟩
  ·refine aw hself ?_;refine bz o'.fl.fo rfl ?_;refine aw hself ?_;refine bP o'.fl.fo rfl ?_;refine bP o'.fl.so rfl ?_;refine aw hout ?_;exact dQ o'.fl hks (nH (.inl rfl) ho) fun S2 nw2 σ2 o2=>hq _ _ S2 nw2 σ2 (.inl rfl) ag1 (o2.conv' fun F tb v=>Hk (fun s=>lp) rfl)
  ·refine aw hself ?_;refine bz o'.fl.fo rfl ?_;refine aw hself ?_;refine bP o'.fl.fo rfl ?_;refine bP o'.fl.so rfl ?_;refine aw hout ?_;exact dQ o'.fl hks (nH (.inr hi) ho) fun S2 nw2 σ2 o2=>hq _ _ S2 nw2 σ2 (.inl rfl) ag1 (o2.conv' fun F tb v=>Hk (fun s=>oq) sT)
  ·refine aw hself ?_;refine bz o'.fl.fo rfl ?_;refine i8 (o'.fl.ext aD) aI (fun y hy=>oT (ok _ hxt) hy) ae fun S2 nw2 σ2 o2=>?_;refine xe o2.fl.atK fun ks2 hks2=>?_;refine aw hself ?_;refine bz o2.fl.fo rfl ?_;refine aw hself ?_;refine bP o2.fl.fo rfl ?_;refine bP o2.fl.so rfl ?_;refine aw hout ?_;refine dQ o2.fl hks2 (nH (.inl rfl) ho) fun S3 nw3 σ3 o3=>hq _ _ S3 nw3 σ3 (.inl rfl) ag1 ((Op.trans o'.fl (o2.pre aD) o3).conv' fun F tb v=>?_);delta jF;rw [sU];refine or_congr ⟨fun q=>?_,fun q=>⟨⟨s,rfl⟩,?_⟩⟩ Iff.rfl
   ·exact q.2.mono (fun z_ z_=>id) fun v e=>List.mem_singleton.mpr e
   ·exact q.mono (fun z_ z_=>id) fun v e=>aq.mp e
 ·rw [flatMap_nil] at o;exact hQ S' nw' σ' ((o.pre p).conv (fun e tb v w=>bG w fun u q1 q2=>⟨u,(hu u).mpr (e▸q1),q2⟩) fun C hC tb v z=>bG z fun u q1 q2=>⟨u,((hu u).mp q1).mono hC fun z_=>id,q2⟩)
noncomputable abbrev BX(T:V→Prop)(g:V):Facts→Facts:=fun F tb v=>(g=tB∧i7 T F tb v)∨(∃o,g=tO o∧kL o T F tb v)∨(∃s,g=tS s∧((tb=.inside s∧T v)∨(F .gone s∧i7 T F tb v)))
noncomputable def mO(G T:V→Prop):Facts→Facts:=fun F tb v=>∃g,G g∧BX T g F tb v
theorem BX.mono{F F':Facts}{T T':V→Prop}{g:V}(h:∀tb v,F tb v→F' tb v)(ht:∀v,T v→T' v){tb:Tb}{v:V}(l:BX T g F tb v):BX T' g F' tb v:=by
 rcases l with ⟨q1,q2⟩ | ⟨o,q1,q2⟩ | ⟨s,q1,⟨q2,q3⟩ | ⟨q2,q3⟩⟩
 ·exact .inl ⟨q1,q2.mono h ht⟩
 ·exact .inr (.inl ⟨o,q1,q2.mono h ht⟩)
 ·exact .inr (.inr ⟨s,q1,.inl ⟨q2,ht _ q3⟩⟩)
 ·exact .inr (.inr ⟨s,q1,.inr ⟨h _ _ q2,q3.mono h ht⟩⟩)
theorem mO.mono{F F':Facts}{G G' T T':V→Prop}(h:∀tb v,F tb v→F' tb v)(hg:∀v,G v→G' v)(ht:∀v,T v→T' v){tb:Tb}{v:V}(l:mO G T F tb v):mO G' T' F' tb v :=
 let ⟨g,q1,q2⟩:=l;⟨g,hg g q1,q2.mono h ht⟩
theorem Cy:tB∈M.toks:=ai
theorem FB{b:Bool}{Q:Bool→Prop}(ha:a∈M.toks)(hb:V.deq a tB=b)(q:Q b):dh (ml .eq σ a tB) Q :=
 EJ (V.dat_of_key (M.tok_key ha).1) rfl (bD (M.tok_key ha).2) (hb▸q)
theorem qb{l g:Nat}{gs:List V}(h:aV M L S nw σ)(hg:σ[g]?=some (.list gs))(hgna:¬Ad L S g)(hgx:∀x∈gs,x∈M.toks)(hl:σ[l]?=some (.list ts))(hna:¬Ad L S l)(hx:∀x∈ts,x∈M.toks)(hlen:ts.length<1000)
  (hQ:∀S' nw' σ',Op M L [] (mO (·∈gs) (·∈ts)) S nw σ S' nw' σ'→Q .none σ'):aY ba (n+5) ("EscapeFlow","put") [.obj L.f,.obj g,.obj l] σ Q:=by
 refine bs (d:=iP) rfl ae ae ?_;refine aw (ch hg) ?_;refine jr (names:=["target","held","token"]) (nx:=fun z_=>[]) (Rx:=BX (·∈ts)) gs h (fun S' nw' σ' ns R o=>o.stoodL (a0 hg) hgna) (fun x hxt loc' S' nw' σ' ns R ag o'=>⟨_,rfl,fun QQ hq=>?_⟩) fun loc' S' nw' σ' ag o=>?_
 ·have ag1:=ag.set (x:="target") (v:=x) ai;have hself:loc' "self"=some (.obj L.f):=ag.at (by decide) rfl;have htok:loc' "tokens"=some (.obj l):=ag.at (by decide) rfl;have hl':=o'.keep hl hna;rcases f6 (hgx x hxt) with rfl | ⟨i,hi,rfl⟩ | ⟨s,hs',rfl⟩
  ·refine aw hself ?_;refine bz o'.fl.fo rfl ?_;refine aw htok ?_;exact i8 o'.fl hl'.1 hx hlen fun S2 nw2 σ2 o2=>hq _ _ S2 nw2 σ2 (.inl rfl) ag1 (o2.conv' fun F tb v=>⟨fun q=>q.elim And.right fun q=>q.elim (fun w=>bG w fun z_ e z_=>absurd e qn) fun z=>bG z fun z_ e z_=>absurd e lp,fun q=>.inl ⟨rfl,q⟩⟩)
  ·refine aw hself ?_;refine bz o'.fl.fo rfl ?_;refine aw htok ?_;exact sV o'.fl hi hl'.1 hx hlen fun S2 nw2 σ2 o2=>hq _ _ S2 nw2 σ2 (.inl rfl) ag1 (o2.conv' fun F tb v=>⟨fun q=>q.elim (fun q=>absurd q.1.symm qn) fun q=>q.elim (fun u=>bG u fun z_ e q=>by cases e;exact q) fun t=>bG t fun z_ e z_=>absurd e oq,fun q=>.inr (.inl ⟨_,rfl,q⟩)⟩)
  ·have hk:=M.key s hs';have k6:s.dep≤6:=am hk.2 (by decide);refine FB (hgx _ hxt) (V.deq_ne fun e=>lp e.symm) ?_;refine aw hself ?_;refine bP o'.fl.fo rfl ?_;refine ⟨nO o'.fl .i,?_⟩;refine ⟨fun p hp=>er hp,ae,?_⟩;refine ky o'.fl .i (r:=s) hk.1 k6 (yW hs') fun a us S1 σ1 hm o=>?_;have hl1:=o.keep hl'.1 hl'.2;refine aw htok ?_;refine aw (ch hl1.1) ?_;refine rA o.fl hm (fun z_=>rfl) hx hl1.1 hl1.2 hself rfl fun loc2 S2 nw2 σ2 ag2 o2=>?_;have hself2:loc2 "self"=some (.obj L.f):=ag2.at (by decide) hself;have agf:=(ag1.set (x:="held") (v:=.obj a) (by decide)).trans fun y hy=>ag2 y fun q=>hy (by rw [aq.mp q];decide);refine xe o2.fl.atG fun gs' hgs'=>?_;refine xe (o2.fl.tbl hgs') fun ge hge=>?_;have o12:=Op.trans o'.fl o o2;have fin:∀{S3 nw3 σ3},Op M L [] (fun F tb v=>F .gone s∧i7 (·∈ts) F tb v) S2 nw2 σ2 S3 nw3 σ3→QQ .next loc2 σ3:=fun {S3 nw3 σ3} o3 =>
    hq _ _ S3 nw3 σ3 (.inl rfl) agf ((Op.trans o'.fl o12 o3).conv' fun F tb v =>
     ⟨fun q=>q.elim (fun q=>absurd q.1.symm lp) fun q=>q.elim (fun m=>bG m fun z_ e z_=>absurd e.symm oq) fun k=>bG k fun s' e q=>by cases e;exact q.imp .inr id,
      fun q=>.inr (.inr ⟨s,rfl,q.imp (fun q=>q.elim (fun q=>q.elim) id) id⟩)⟩)
   refine aw (ag2.at (by decide) rfl) ?_;refine aw hself2 ?_;refine bP o2.fl.fo rfl ?_;refine oJ (mA hge hk.1 k6) ?_;by_cases hgone:s∈gs'
   ·rw [bh hgone];have hl2:=o2.keep hl1.1 hl1.2;refine aw hself2 ?_;refine bz o2.fl.fo rfl ?_;refine aw (ag2.at (by decide) htok) ?_;exact i8 o2.fl hl2.1 hx hlen fun S3 nw3 σ3 o3=>fin (o3.conv (fun e tb v q=>q.2) fun C hC tb v q=>⟨hC _ _ ((o2.fl.fact_iff hgs').mpr hgone),q⟩)
   ·rw [decide_eq_false hgone];exact fin (.ext o2.fl (aB _) fun tb v q=>absurd ((o2.fl.fact_iff hgs').mp q.1) hgone)
 ·rw [flatMap_nil] at o;exact hQ S' nw' σ' o
noncomputable def yt(F:Facts)(ops:List V)(t:V):Prop:=∃op∈ops,cX F op t
theorem Az{f:Nat}(h:aV M L S nw σ)(hf0:σ.length≤f){rest:List V}:∀{us:List V} {loc:Loc} {σ₁:Hp} {QQ:Fl→Loc→Hp→Prop},(∀op∈rest,jY op)→us.length+23*rest.length≤500→loc "self"=some (.obj L.f)→loc "found"=some (.obj f)→σ <+:σ₁→σ₁[f]?=some (.list us)→(∀u∈us,u∈M.toks)→
   (∀loc' σ' us',bT ["operand"] loc loc'→σ <+:σ'→σ'[f]?=some (.list us')→us'.length≤us.length+23*rest.length→(∀u∈us',u∈M.toks)→(∀u,u∈us'↔u∈us∨yt S.fact rest u)→QQ .next loc' σ')→
   eV (bV [] σ₀) (.name "operand") (dW (aY ba (n+2)) dF) rest loc σ₁ QQ:=by
 induction rest with
 | nil =>
  intro us loc σ₁ QQ _ _ hs hf p hr ok hq;exact ⟨fun z_ q=>(an q).elim,hq loc σ₁ us .refl p hr (ax _) ok fun u=>⟨.inl,fun q=>q.elim id fun w=>bG w fun z_ q z_=>(an q).elim⟩⟩
 | cons op rest ih =>
  intro us loc σ₁ QQ ho hlen hs hf p hr ok hq;refine ⟨fun z_ q=>(an q).elim,?_⟩;have h1:=h.ext p;refine aw hf ?_;refine ⟨xV hr rfl,?_⟩;refine aw hs ?_;refine bz h1.fo rfl ?_;refine cG h1 (ho op ai) fun r σ2 ws p2 hr2 hnew nd okw hu=>?_;have hw:ws.length≤23:=am (cM nd okw) mT;rw [List.length_cons] at hlen hq;refine nz (bU p2 hr) (jd hr2) (by unfold big;omega) ?_;refine ih (fun o q=>ho o (aj _ q)) (us:=us++ws) (by rw [aO];omega) hs hf (eU (p.trans p2) hf0) (bq (bU p2 hr)) (fun u q=>(bA.mp q).elim (ok u) (okw u)) fun loc' σ' us' ag' p' hr' hl' ok' hu'=>?_;refine hq loc' σ' us' ((bT.refl.set ai).trans ag') p' hr' (by rw [aO] at hl';omega) ok' fun u=>?_;rw [hu',List.mem_append,hu,or_assoc];exact or_congr Iff.rfl ⟨fun q=>q.elim (fun q=>⟨op,ai,q⟩) fun x=>bG x fun o q1 q2=>⟨o,aj _ q1,q2⟩,fun y=>bG y fun o q1 q2=>(aP.mp q1).elim (fun e=>.inl (e▸q2)) fun q1=>.inr ⟨o,q1,q2⟩⟩
theorem lR{ops:List V}(h:aV M L S nw σ)(ho:∀op∈ops,jY op)(hn:ops.length≤20)
  (hQ:∀r σ' us,σ <+:σ'→σ'[r]?=some (.list us)→σ.length≤r→us.length≤23*ops.length→(∀u∈us,u∈M.toks)→(∀u,u∈us↔yt S.fact ops u)→Q (.obj r) σ') :
  aY ba (n+3) ("EscapeFlow","tokens_of_all") [.obj L.f,.tup ops] σ Q:=by
 refine bs (d:=eo) rfl ae ae ?_;refine Az (rest:=ops) h (ax _) ho (us:=[]) (by rw [List.length_nil];omega) rfl rfl aD aI (fun u hu=>(an hu).elim) fun loc' σ' us' ag p hr hl ok hu=>?_;refine aw (ag.at (by decide) rfl) ?_;exact hQ _ _ us' p hr (ax _) (by rw [List.length_nil] at hl;omega) ok fun u=>by rw [hu];exact ⟨fun q=>q.elim (fun q=>(an q).elim) id,.inr⟩
end
section
variable{M:cN}{L:FL}{S S' S'' T:Tabs}{nw nw' nw'':Bool}{ms:List V}
noncomputable def fL:Tb→List V
 | .told _=>[.int (-1),.int 0,.int 1]
 | .leaks=>[.int 0,.int 1]
 | .kept=>[.tup [.int (-1),.int 0],.tup [.int (-1),.int 1],.tup [.int 0,.int 0],.tup [.int 0,.int 1],.tup [.int 1,.int 0],.tup [.int 1,.int 1]]
 | _=>[]
structure gT(B:Nat)(σ:Hp)(a:Nat)(T:Tabs):Prop where
 so:∃lk kp td,σ[a]?=some (.inst "Summary" [("leaks",.obj lk),("kept",.obj kp),("told",.obj td)])∧a<B∧td<B∧(∃e,σ[td]?=some (.dict (T.idx Tb.t?) e))∧(∃ts,(Tb.leaks,lk,ts)∈T)∧(∃ts,(Tb.kept,kp,ts)∈T)
 tb:∀p∈T,p.2.1<B∧∃e,σ[p.2.1]?=some (.dict (fv p.2.2) e)
 keys:(T.map (·.1)).Nodup
 nd:∀p∈T,p.2.2.Nodup
 ok:∀p∈T,∀v∈p.2.2,v∈fL p.1
noncomputable def vD(B:Nat)(L:FL)(S:Tabs):Prop:=∀n,Ad L S n→B≤n
theorem Op.low(o:Op M L ns R S nw σ S' nw' σ')(h:vD B L S)(hB:B≤σ.length):vD B L S':=fun n hn=>(o.ad n hn).elim (h n) fun q=>am hB q
theorem Op.below(o:Op M L ns R S nw σ S' nw' σ')(h:vD B L S)(hB:B≤σ.length):∀n,n<B→σ'[n]?=σ[n]?:=fun n hn=>o.fr n (al hn hB) fun q=>absurd (h n q) (Nat.not_le.mpr hn)
theorem gT.same{a:Nat}(s:gT B σ a T)(h:∀n,n<B→σ'[n]?=σ[n]?):gT B σ' a T:=by
 refine kO s.so fun lk kp td h1 h2 h3 q h5 h6=>?_;refine xe q fun e h4=>?_;exact ⟨⟨lk,kp,td,(h _ h2).trans h1,h2,h3,⟨e,(h _ h3).trans h4⟩,h5,h6⟩,fun p hp=>let ⟨q1,e,q2⟩:=s.tb p hp;⟨q1,e,(h _ q1).trans q2⟩,s.keys,s.nd,s.ok⟩
theorem gT.ext{a:Nat}(s:gT B σ a T)(h:σ <+:σ'):gT B σ' a T:=by
 refine kO s.so fun lk kp td h1 h2 h3 q h5 h6=>?_;refine xe q fun e h4=>?_;exact ⟨⟨lk,kp,td,bU h h1,h2,h3,⟨e,bU h h4⟩,h5,h6⟩,fun p hp=>let ⟨q1,e,q2⟩:=s.tb p hp;⟨q1,e,bU h q2⟩,s.keys,s.nd,s.ok⟩
noncomputable def xx(F:Facts)(a b i u:V):Prop:=(i=.int 0∧Rc F (cX F a) u)∨(i=.int 1∧Rc F (cX F b) u)∨(i=.int (-1)∧u=tB)
theorem cX.mono{G:Facts}(h:∀tb v,F tb v→G tb v){op t:V}(q:cX F op t):cX G op t:=q.imp (fun ⟨r,e,q⟩=>⟨r,e,h _ _ q⟩) id
theorem xx.mono{F G:Facts}(h:∀tb v,F tb v→G tb v){a b i u:V}(q:xx F a b i u):xx G a b i u :=
 q.imp (fun q=>⟨q.1,q.2.mono h fun z_=>cX.mono h⟩) fun q=>q.imp (fun q=>⟨q.1,q.2.mono h fun z_=>cX.mono h⟩) id
noncomputable def f9(G:Facts)(a b d1 d2:V):Facts→Facts:=fun F tb v =>
 (∃o,G .leaks o∧i7 (xx F a b o) F tb v)∨(∃i o,G .kept (.tup [i,o])∧mO (xx F a b o) (xx F a b i) F tb v)∨
 (∃x,G (.told (.int 0)) x∧eJ d1 (xx F a b x) F tb v)∨(∃x,G (.told (.int 1)) x∧eJ d2 (xx F a b x) F tb v)
theorem CW(ha:jY a)(hb:jY b):∀op∈[a,b],jY op:=fun op h=>by
 simp only [List.mem_cons,an,or_false] at h;rcases h with rfl | rfl<;>assumption
theorem yK{l:Nat}(h:σ[l]?=some (.list ts)):dm .enum [.obj l] σ=some (ts.zipIdx.map fun p=>.tup [.int p.2,p.1],[l]):=cZ h
theorem Cv(ht:tb=.leaks∨tb=.kept):(fL tb).length≤6:=by rcases ht with rfl | rfl<;>exact ae
theorem yY:(fL .leaks).all GW=true:=rfl
theorem yX:(fL .kept).all v8=true:=rfl
theorem vM{p:V→Bool}{m:List V}(h:∀v∈l,v∈m)(hm:m.all p=true):l.all p=true:=List.all_eq_true.mpr fun v hv=>List.all_eq_true.mp hm v (h v hv)
theorem lm(h:∀v∈ts,v∈fL tb)(hn:ts.Nodup)(ht:tb=.leaks∨tb=.kept):cF ts=true:=by
 have hl:ts.length<64:=ay (am (cM hn h) (Cv ht)) (by decide);delta cF;rw [bh hl];rcases ht with rfl | rfl
 ·rw [vM h yY];rfl
 ·rw [vM h yX,Bool.or_true];rfl
theorem Bx{l e:Nat}(h:σ[l]?=some (.dict (fv ts) e)):uJ σ (.obj l)=some ts:=by rw [sC h,hW]
theorem Bj{X:Type}{f g:Hp→X→Prop}{Q:X}{b:Bool}(h:b=true)(q:f σ Q):DD f g Q b σ:=by rw [h];exact q
noncomputable def Hl(ua ub:List V)(i u:V):Prop:=(i=.int 0∧u∈ua)∨(i=.int 1∧u∈ub)∨(i=.int (-1)∧u=tB)
structure xy(M:cN)(L:FL)(S:Tabs)(σ:Hp)(hA r2 r4:Nat)(ua ub:List V):Prop where
 h:σ[hA]?=some (.list [.obj r2,.obj r4])
 a:σ[r2]?=some (.list ua)
 b:σ[r4]?=some (.list ub)
 nh:¬Ad L S hA
 na:¬Ad L S r2
 nb:¬Ad L S r4
 oa:∀u∈ua,u∈M.toks
 ob:∀u∈ub,u∈M.toks
 la:ua.length<1000
 lb:ub.length<1000
theorem xy.step{hA r2 r4:Nat}{ua ub:List V}(x:xy M L S σ hA r2 r4 ua ub)(o:Op M L ns R S nw σ S' nw' σ'):xy M L S' σ' hA r2 r4 ua ub :=
 ⟨(o.keep x.h x.nh).1,(o.keep x.a x.na).1,(o.keep x.b x.nb).1,(o.keep x.h x.nh).2,(o.keep x.a x.na).2,(o.keep x.b x.nb).2,x.oa,x.ob,x.la,x.lb⟩
theorem xy.ext{hA r2 r4:Nat}{ua ub:List V}(x:xy M L S σ hA r2 r4 ua ub)(p:σ <+:σ'):xy M L S σ' hA r2 r4 ua ub :=
 ⟨bU p x.h,bU p x.a,bU p x.b,x.nh,x.na,x.nb,x.oa,x.ob,x.la,x.lb⟩
theorem Ir{ua ub:List V}:(fun u=>u∈ua)=Hl ua ub (.int 0):=funext fun u=>propext ⟨fun q=>.inl ⟨rfl,q⟩,fun q=>q.elim And.right fun q=>q.elim (fun q=>by cases q.1) fun q=>by cases q.1⟩
theorem Iu{ua ub:List V}:(fun u=>u∈ub)=Hl ua ub (.int 1):=funext fun u=>propext ⟨fun q=>.inr (.inl ⟨rfl,q⟩),fun q=>q.elim (fun q=>by cases q.1) fun q=>q.elim And.right fun q=>by cases q.1⟩
theorem Ig{ua ub:List V}:(fun u=>u∈[tB])=Hl ua ub (.int (-1)):=funext fun u=>propext ⟨fun q=>.inr (.inr ⟨rfl,aq.mp q⟩),fun q=>q.elim (fun q=>by cases q.1) fun q=>q.elim (fun q=>by cases q.1) fun q=>List.mem_singleton.mpr q.2⟩
theorem xy.at{hA r2 r4:Nat}{ua ub:List V}(x:xy M L S σ hA r2 r4 ua ub){i:Int}(hi:i=0∨i=1){G:Prop}(k:∀r us,DT [V.obj r2,V.obj r4] i=some (.obj r)→σ[r]?=some (.list us)→¬Ad L S r→(∀u∈us,u∈M.toks)→us.length<1000→(fun u=>u∈us)=Hl ua ub (.int i)→G):G:=by
 rcases hi with rfl | rfl
 ·exact k r2 ua rfl x.a x.na x.oa x.la Ir
 ·exact k r4 ub rfl x.b x.nb x.ob x.lb Iu
theorem xi{i:Int}(hi:i=0∨i=1):i<2:=by rcases hi with rfl | rfl<;>decide
theorem wr{l hA r2 r4:Nat}{ua ub ls:List V}(h:aV M L S nw σ)(H:xy M L S σ hA r2 r4 ua ub)(hl:σ[l]?=some (.list ls))(hna:¬Ad L S l)(hok:∀v∈ls,v∈fL .leaks)(hs:loc "self"=some (.obj L.f))(hh:loc "handed"=some (.obj hA))
  (hQ:∀loc' S' nw' σ',bT ["outer"] loc loc'→Op M L [] (fun F tb v=>∃o∈ls,i7 (Hl ua ub o) F tb v) S nw σ S' nw' σ'→QQ .next loc' σ'):eV (bV [l] σ) (.name "outer") (dW (aY ba (n+3)) fx) ls loc σ QQ:=by
 refine jr (names:=["outer"]) (nx:=fun z_=>[]) (Rx:=fun o=>i7 (Hl ua ub o)) ls h (fun S' nw' σ' ns R o=>o.stoodL (a0 hl) hna) (fun x hxt loc' S' nw' σ' ns R ag o=>⟨_,rfl,fun QQ hq=>?_⟩) fun loc' S' nw' σ' ag o=>?_
 ·have H':=H.step o;obtain ⟨i,hi,rfl⟩:∃i:Int,(i=0∨i=1)∧x=.int i:=by
   refine Or.elim (aP.mp (hok x hxt)) (fun e=>?_) (fun e=>?_)
   ·exact ⟨0,.inl rfl,e⟩
   ·exact ⟨1,.inr rfl,aq.mp e⟩
  refine H'.at hi fun r us h1 h2 h3 h4 h5 h6=>?_;have ahh:=ag.at (by decide) hh;have ahs:=ag.at (by decide) hs;refine aw ahh ?_;refine kj (i9 H'.h) ae ?_;(conv=>whnf)
  refine Bj (bh (xi hi)) ?_;(conv=>whnf)
  refine aw ahs ?_;refine bz o.fl.fo rfl ?_;refine aw ahh ?_;refine cQ H'.h ae h1 ?_;(conv=>whnf)
  exact i8 o.fl h2 h4 h5 fun S2 nw2 σ2 o2=>hq _ _ S2 nw2 σ2 (.inl rfl) (ag.set ai) (h6▸o2)
 ·rw [flatMap_nil] at o;exact hQ loc' S' nw' σ' ag o
theorem wl{l hA r2 r4:Nat}{ua ub ls:List V}(h:aV M L S nw σ)(H:xy M L S σ hA r2 r4 ua ub)(hl:σ[l]?=some (.list ls))(hna:¬Ad L S l)(hok:∀v∈ls,v∈fL .kept)(hs:loc "self"=some (.obj L.f))(hh:loc "handed"=some (.obj hA))
  (hQ:∀loc' S' nw' σ',bT ["inner","outer"] loc loc'→Op M L [] (fun F tb v=>∃i o,V.tup [i,o]∈ls∧mO (Hl ua ub o) (Hl ua ub i) F tb v) S nw σ S' nw' σ'→QQ .next loc' σ'):eV (bV [l] σ) (.pair "inner" "outer") (dW (aY ba (n+5)) fy) ls loc σ QQ:=by
 refine jr (names:=["inner","outer"]) (nx:=fun z_=>[]) (Rx:=fun x F tb v=>∃i o,x=V.tup [i,o]∧mO (Hl ua ub o) (Hl ua ub i) F tb v) ls h (fun S' nw' σ' ns R o=>o.stoodL (a0 hl) hna) (fun x hxt loc' S' nw' σ' ns R ag o=>?_) fun loc' S' nw' σ' ag o=>?_
 ·refine cS (uy (M:=M) (hok x hxt)) fun i o' w hi ho=>?_;subst w;refine ⟨_,rfl,fun QQ hq=>?_⟩;have ag1:bT ["inner","outer"] loc (setL (setL loc' "inner" (.int i)) "outer" (.int o')):=(ag.set ai).set (aj _ ai);have H':=H.step o;have ahh:=ag.at (by decide) hh;have ahs:=ag.at (by decide) hs;have fin:∀{S2 nw2 σ2},Op M L [] (mO (Hl ua ub (.int o')) (Hl ua ub (.int i))) S' nw' σ' S2 nw2 σ2→QQ .next (setL (setL loc' "inner" (.int i)) "outer" (.int o')) σ2:=fun {S2 nw2 σ2} o2 =>
   hq _ _ S2 nw2 σ2 (.inl rfl) ag1 (o2.conv' fun F tb v=>⟨fun z=>cY z fun i o e q=>by cases e;exact q,fun q=>⟨_,_,rfl,q⟩⟩)
  refine H'.at ho fun r us h1 h2 h3 h4 h5 h6=>?_;refine aw ahh ?_;refine kj (i9 H'.h) ae ?_;(conv=>whnf)
  refine Bj (bh (xi ho)) ?_;(conv=>whnf)
  refine aw ahs ?_;refine bz o.fl.fo rfl ?_;refine aw ahh ?_;refine cQ H'.h ae h1 ?_;(conv=>whnf)
  rcases hi with rfl | hi
  ·(conv=>whnf)
   exact qb (o.fl.ext aD) (aT h2) h3 h4 aI (jD o.fl) (fun y hy=>oT Cy hy) ae fun S2 nw2 σ2 o2=>fin (h6▸Ig▸o2.pre aD)
  ·refine H'.at hi fun r' us' g1 g2 g3 g4 g5 g6=>?_;have e1:(0:Int)≤i:=by rcases hi with rfl | rfl<;>decide
   rw [bh e1];(conv=>whnf)
   refine aw ahh ?_;refine kj (i9 H'.h) ae ?_;(conv=>whnf)
   refine Bj (bh (xi hi)) ?_;(conv=>whnf)
   refine aw ahh ?_;refine cQ H'.h ae g1 ?_;(conv=>whnf)
   exact qb o.fl h2 h3 h4 g2 g3 g4 g5 fun S2 nw2 σ2 o2=>fin (h6▸g6▸o2)
 ·rw [flatMap_nil] at o;exact hQ loc' S' nw' σ' ag (o.conv' fun F tb v=>⟨fun u=>cY u fun i o q1 q2=>⟨_,q1,i,o,rfl,q2⟩,fun t=>bG t fun z_ q1 s=>cY s fun i o e q2=>⟨i,o,e▸q1,q2⟩⟩)
theorem rM{l hA r2 r4:Nat}{e:Nat}{d:V}{ua ub ls:List V}(h:aV M L S nw σ)(H:xy M L S σ hA r2 r4 ua ub)(hd:d∈regs)(hl:σ[l]?=some (.dict (fv ls) e))(hna:¬Ad L S l)(hok:∀v∈ls,v∈fL (.told .none))(hs:loc "self"=some (.obj L.f))(hh:loc "handed"=some (.obj hA))(hr:loc "register"=some d)
  (hQ:∀loc' S' nw' σ',bT ["told"] loc loc'→Op M L [] (fun F tb v=>∃x∈ls,eJ d (Hl ua ub x) F tb v) S nw σ S' nw' σ'→QQ .next loc' σ'):eV (bV [l] σ) (.name "told") (dW (aY ba (n+2)) fA) ls loc σ QQ:=by
 refine jr (names:=["told"]) (nx:=fun z_=>[]) (Rx:=fun x=>eJ d (Hl ua ub x)) ls h (fun S' nw' σ' ns R o=>o.stoodL (a0 hl) hna) (fun x hxt loc' S' nw' σ' ns R ag o=>⟨_,rfl,fun QQ hq=>?_⟩) fun loc' S' nw' σ' ag o=>?_
 ·have ag1:=ag.set (x:="told") (v:=x) ai;have H':=H.step o;have ahs:=ag.at (by decide) hs;have ahr:=ag.at (by decide) hr;obtain ⟨i,hi,rfl⟩:∃i:Int,(i= -1∨i=0∨i=1)∧x=.int i:=by
   have:=hok x hxt;unfold fL at this;refine Or.elim (aP.mp this) (fun e=>?_) (fun e=>?_)
   ·exact ⟨_,.inl rfl,e⟩
   refine Or.elim (aP.mp e) (fun e=>?_) (fun e=>?_)
   ·exact ⟨_,.inr (.inl rfl),e⟩
   ·exact ⟨_,.inr (.inr rfl),aq.mp e⟩
  refine aw ahs ?_;refine bz o.fl.fo rfl ?_;refine aw ahr ?_;(conv=>whnf)
  rcases hi with rfl | hi
  ·(conv=>whnf)
   exact fV (o.fl.ext aD) hd aI (jD o.fl) (fun y hy=>oT Cy hy) fun S2 nw2 σ2 o2=>hq _ _ S2 nw2 σ2 (.inl rfl) ag1 (Ig▸o2.pre aD)
  ·refine H'.at hi fun r us h1 h2 h3 h4 h5 h6=>?_;have hne:V.int i≠.int (-1):=fun e=>by rcases hi with rfl | rfl<;>cases e
   rw [V.deq_ne hne];(conv=>whnf)
   refine aw (ag.at (by decide) hh) ?_;refine cQ H'.h ae h1 ?_;(conv=>whnf)
   exact fV o.fl hd h2 h3 h4 fun S2 nw2 σ2 o2=>hq _ _ S2 nw2 σ2 (.inl rfl) ag1 (h6▸o2)
 ·rw [flatMap_nil] at o;exact hQ loc' S' nw' σ' ag o
theorem zP{s rg hA r2 r4:Nat}{d1 d2:V}{ua ub:List V}(h:aV M L S nw σ)(H:xy M L S σ hA r2 r4 ua ub)(hd1:d1∈regs)(hd2:d2∈regs)(sm:gT B σ s T)(low:vD B L S)(hB:B≤σ.length)(hrg:σ[rg]?=some (.list [d1,d2]))(hrna:¬Ad L S rg)
  (hs:loc "self"=some (.obj L.f)) (hh:loc "handed"=some (.obj hA)) (hsm:loc "summary"=some (.obj s))
  (hQ:∀loc' S' nw' σ',Op M L [] (fun F tb v=>(∃x,T.fact (.told (.int 0)) x∧eJ d1 (Hl ua ub x) F tb v)∨(∃x,T.fact (.told (.int 1)) x∧eJ d2 (Hl ua ub x) F tb v)) S nw σ S' nw' σ'→QQ .next loc' σ') :
  eV (bV [rg] σ) (.pair "at" "register") (dW (aY ba (n+2)) fz) [V.tup [.int 0,d1],V.tup [.int 1,d2]] loc σ QQ:=by
 refine jr (names:=["at","register","told"]) (nx:=fun z_=>[]) (Rx:=fun x F tb v=>∃i d,x=V.tup [i,d]∧∃y,T.fact (.told i) y∧eJ d (Hl ua ub y) F tb v) _ h (fun S' nw' σ' ns R o=>o.stoodL (a0 hrg) hrna) (fun x hxt loc' S' nw' σ' ns R ag o=>?_) fun loc' S' nw' σ' ag o=>?_
 ·obtain ⟨i,d,hd,rfl⟩:∃(i:Int) (d:V),d∈regs∧x=V.tup [.int i,d]:=by
   refine Or.elim (aP.mp hxt) (fun e=>?_) (fun e=>?_)
   ·exact ⟨0,d1,hd1,e⟩
   ·exact ⟨1,d2,hd2,aq.mp e⟩
  refine ⟨_,rfl,fun QQ hq=>?_⟩;have ag':bT ["at","register","told"] loc (setL (setL loc' "at" (.int i)) "register" d):=(ag.set ai).set (aj _ ai);have sm9:=sm.same (o.below low hB);refine eu sm9.so fun lk kp td s1 s2 s3 w z_=>?_;refine xe w fun te s4=>?_;have H9:=(H.step o).ext (aD (τ:=[fD [] [] 0]));have h9:aV M L S' nw' (σ'++[fD [] [] 0]):=o.fl.ext aD;have ahs:=ag.at (by decide) hs;have ahh:=ag.at (by decide) hh;refine aw (ag.at (by decide) hsm) ?_;refine bP s1 rfl ?_;refine ⟨EX s4 rfl,?_⟩;(conv=>whnf)
  refine ⟨fun p hp=>er hp,ae,?_⟩;(conv=>whnf)
  refine sh (aT s4) rfl (aS _) ?_;have fin:∀{ls:List V} {loc3:Loc} {S3:Tabs} {nw3:Bool} {σ3:Hp},(∀y,T.fact (.told (.int i)) y↔y∈ls)→bT ["told"] (setL (setL loc' "at" (.int i)) "register" d) loc3→Op M L [] (fun F tb v=>∃x∈ls,eJ d (Hl ua ub x) F tb v) S' nw' (σ'++[fD [] [] 0]) S3 nw3 σ3→QQ .next loc3 σ3:=fun {ls loc3 S3 nw3 σ3} hl ag3 o3 =>
   hq _ _ S3 nw3 σ3 (.inl rfl) (ag'.trans fun y hy=>ag3 y fun q=>hy (by rw [aq.mp q];decide)) ((o3.pre aD).conv' fun F tb v=>⟨fun z=>xt z fun i' d' e y q1 q2=>by cases e;exact ⟨y,(hl y).mp q1,q2⟩,fun u=>bG u fun y q1 q2=>⟨_,_,rfl,y,(hl y).mpr q1,q2⟩⟩)
  refine Or.elim (my (S:=T) Tb.t? .told Tb.t_some (fun z_=>rfl) (.int i)) (fun t=>cY t fun bb ts hm hget=>?_) (fun r=>xa r fun hno hget=>?_)
  ·rw [hget];(conv=>whnf)
   have tb:=sm9.tb _ hm;refine xp tb fun bB be hbe=>?_;refine aw (eA (aT hbe)) ?_;rw [hW];exact rM h9 H9 hd (aT hbe) (fun q=>absurd (o.low low hB _ q) (Nat.not_le.mpr bB)) (fun v hv=>sm.ok _ hm v hv) ahs ahh rfl fun loc3 S3 nw3 σ10 ag3 o3=>fin (fun y=>q9 sm.keys hm) ag3 o3
  ·rw [hget];(conv=>whnf)
   have nw:(σ'++[fD [] [] 0])[σ'.length]?=some (.dict (fv []) 0):=aI;refine aw (eA nw) ?_;exact rM (ls:=[]) h9 H9 hd nw (jD o.fl) (fun v hv=>(an hv).elim) ahs ahh rfl fun loc3 S3 nw3 σ10 ag3 o3=>fin (fun y=>⟨fun m=>cY m fun z_ z_ q z_=>absurd q (hno _ _),fun q=>(an q).elim⟩) ag3 o3
 ·rw [flatMap_nil] at o;refine hQ loc' S' nw' σ' (o.conv' fun F tb v=>⟨fun q=>q.elim (fun k=>bG k fun x q1 q2=>⟨_,ai,_,_,rfl,x,q1,q2⟩) fun j=>bG j fun x q1 q2=>⟨_,aj _ ai,_,_,rfl,x,q1,q2⟩,fun g=>bG g fun x hx c=>xt c fun i d e y q1 q2=>?_⟩);refine Or.elim (aP.mp hx) (fun e2=>?_) (fun e2=>?_)
  ·cases e2;cases e;exact .inl ⟨y,q1,q2⟩
  ·cases aq.mp e2;cases e;exact .inr ⟨y,q1,q2⟩
theorem gP{us:List V}(h:us.Nodup)(ok:∀u∈us,u∈M.toks):us.length<1000:=ay (am (cM h ok) mT) (by decide)
theorem uc{s rg hA r2 r4:Nat}{d1 d2:V}{ua ub:List V}{QQ:KS}(h:aV M L S nw σ)(H:xy M L S σ hA r2 r4 ua ub)(HE:∀i u,Hl ua ub i u↔xx S.fact a b i u)(hd1:d1∈regs)(hd2:d2∈regs)(sm:gT B σ s T)(low:vD B L S)(hB:B≤σ.length)(hrg:σ[rg]?=some (.list [d1,d2]))(hrna:¬Ad L S rg)
  (hs:loc "self"=some (.obj L.f)) (hh:loc "handed"=some (.obj hA)) (hsm:loc "summary"=some (.obj s)) (hrs:loc "registers"=some (.obj rg))
  (hQ:∀loc' S' nw' σ',Op M L [] (f9 T.fact a b d1 d2) S nw σ S' nw' σ'→QQ .next loc' σ'):dW (aY ba (n+5)) (eG.body.drop 1) loc σ QQ:=by
 refine qt sm.so fun lk kp td s1 s2 s3 s4 w ks s6=>?_;refine xe w fun ls s5=>?_;have tL:=sm.tb _ s5;refine xp tL fun lkB le hle=>?_;refine aw hsm ?_;refine bP s1 rfl ?_;(conv=>whnf)
 refine je (Bx hle) (lm (sm.ok _ s5) (sm.nd _ s5) (.inl rfl)) ?_;(conv=>whnf)
 refine aw (ch aI) ?_;refine wr (h.ext aD) (H.ext aD) aI (jD h) (fun v hv=>sm.ok _ s5 v (fq.mp hv)) hs hh fun loc1 S1 nw1 σ7 ag1 o1=>?_;have o1':=o1.pre aD;have sm7:=sm.same (o1'.below low hB);have low1:=o1'.low low hB;have B7:B≤σ7.length:=am hB o1'.le;have tK:=sm7.tb _ s6;refine xp tK fun kpB ke hke=>?_;have H7:=H.step o1';refine aw (ag1.at (by decide) hsm) ?_;refine bP ((o1'.below low hB _ s2).trans s1) rfl ?_;(conv=>whnf)
 refine je (Bx hke) (lm (sm.ok _ s6) (sm.nd _ s6) (.inr rfl)) ?_;(conv=>whnf)
 refine aw (ch aI) ?_;refine wl (o1.fl.ext aD) (H7.ext aD) aI (jD o1.fl) (fun v hv=>sm.ok _ s6 v (fq.mp hv)) (ag1.at (by decide) hs) (ag1.at (by decide) hh) fun loc2 S2 nw2 σ8 ag2 o2=>?_;have o2':=o2.pre aD;have o12:=Op.trans h o1' o2';have hk:=o12.keep hrg hrna;refine aw (ag2.at (by decide) (ag1.at (by decide) hrs)) ?_;(conv=>whnf)
 refine aw (yK hk.1) ?_;refine zP o2.fl (H7.step o2') hd1 hd2 (sm7.same (o2'.below low1 B7)) (o2'.low low1 B7) (am B7 o2'.le) hk.1 hk.2 (ag2.at (by decide) (ag1.at (by decide) hs)) (ag2.at (by decide) (ag1.at (by decide) hh)) (ag2.at (by decide) (ag1.at (by decide) hsm)) fun loc3 S3 nw3 σ9 o3=>?_
 (conv=>whnf)
 refine hQ loc3 S3 nw3 σ9 ((Op.trans h o12 o3).conv (fun e tb v q=>?_) fun C hC tb v q=>?_)
 ·rw [e] at q ⊢;exact q.elim (fun y=>bG y fun x q1 q2=>.inl (.inl ⟨x,fq.mpr ((q9 sm.keys s5).mp q1),q2.mono (fun z_ z_=>id) fun u=>(HE x u).mpr⟩))
   fun q=>q.elim (fun z=>cY z fun i x q1 q2=>.inl (.inr ⟨i,x,fq.mpr ((q9 sm.keys s6).mp q1),q2.mono (fun z_ z_=>id) (fun u=>(HE x u).mpr) fun u=>(HE i u).mpr⟩))
   fun q=>.inr (q.imp (fun ⟨x,q1,q2⟩=>⟨x,q1,q2.1,(HE x v).mpr q2.2⟩) fun ⟨x,q1,q2⟩=>⟨x,q1,q2.1,(HE x v).mpr q2.2⟩)
 ·have HC:∀i u,Hl ua ub i u→xx C a b i u:=fun i u q=>((HE i u).mp q).mono hC;exact q.elim (fun q=>q.elim (fun t=>bG t fun x q1 q2=>.inl ⟨x,(q9 sm.keys s5).mpr (fq.mp q1),q2.mono (fun z_ z_=>id) (HC x)⟩)
   fun r=>cY r fun i x q1 q2=>.inr (.inl ⟨i,x,(q9 sm.keys s6).mpr (fq.mp q1),q2.mono (fun z_ z_=>id) (HC x) (HC i)⟩))
   fun q=>.inr (.inr (q.imp (fun ⟨x,q1,q2⟩=>⟨x,q1,q2.1,HC x v q2.2⟩) fun ⟨x,q1,q2⟩=>⟨x,q1,q2.1,HC x v q2.2⟩))
theorem ud{s rg:Nat}{d1 d2:V}(h:aV M L S nw σ)(ha:jY a)(hb:jY b)(hd1:d1∈regs)(hd2:d2∈regs)(sm:gT B σ s T)(low:vD B L S)(hB:B≤σ.length)(hrg:σ[rg]?=some (.list [d1,d2]))(hrna:¬Ad L S rg)
  (hQ:∀S' nw' σ',Op M L [] (f9 T.fact a b d1 d2) S nw σ S' nw' σ'→Q .none σ'):aY ba (n+6) ("EscapeFlow","follow") [.obj L.f,.obj s,.tup [a,b],.obj rg] σ Q:=by
 refine bs (d:=eG) rfl ae ae ?_;(conv=>whnf)
 refine ⟨fun z_ q=>(an q).elim,?_⟩;(conv=>whnf)
 refine bz h.fo rfl ?_;refine bz h.fo rfl ?_;(conv=>whnf)
 refine cG h ha fun r1 σ1 ta p1 hr1 z_ nd1 ok1 hu1=>?_
 (conv=>whnf)
 refine gN (h.ext p1) hr1 ok1 (gP nd1 ok1) fun r2 σ2 ua p2 hr2 hn2 nd2 ok2 hu2=>?_;have h2:=h.ext (p1.trans p2);refine ⟨ae,fun z_ q=>(an q).elim,?_⟩;(conv=>whnf)
 refine bz h2.fo rfl ?_;refine bz h2.fo rfl ?_;(conv=>whnf)
 refine cG h2 hb fun r3 σ3 tb' p3 hr3 z_ nd3 ok3 hu3=>?_
 (conv=>whnf)
 refine gN (h2.ext p3) hr3 ok3 (gP nd3 ok3) fun r4 σ4 ub p4 hr4 hn4 nd4 ok4 hu4=>?_;refine ⟨ae,fun z_ q=>(an q).elim,?_⟩;have pA:σ <+:σ4++[Ob.list [V.obj r2,V.obj r4]]:=((p1.trans p2).trans (p3.trans p4)).trans aD;have ln:=fun {n:Nat} (q:σ.length≤n) (x:Ad L S n)=>bX _ (al (h.lt x) q);have H5:xy M L S (σ4++[Ob.list [V.obj r2,V.obj r4]]) σ4.length r2 r4 ua ub :=
  ⟨aI,aT (bU (p3.trans p4) hr2),aT hr4,ln (bM ((p1.trans p2).trans (p3.trans p4))),ln (am (bM p1) hn2),ln (am (bM ((p1.trans p2).trans p3)) hn4),ok2,ok4,gP nd2 ok2,gP nd4 ok4⟩
 have e1:(fun t=>t∈ta)=cX S.fact a:=funext fun t=>propext (hu1 t);have e3:(fun t=>t∈tb')=cX S.fact b:=funext fun t=>propext (hu3 t);have HE:∀i u,Hl ua ub i u↔xx S.fact a b i u:=fun i u=>or_congr (and_congr Iff.rfl (e1▸hu2 u)) (or_congr (and_congr Iff.rfl (e3▸hu4 u)) Iff.rfl);dsimp only [hV,wi,GG,zb];exact uc (h.ext pA) H5 HE hd1 hd2 (sm.ext pA) low (am hB (bM pA)) (bU pA hrg) hrna rfl rfl rfl rfl fun loc' S' nw' σ' o=>hQ S' nw' σ' (o.pre pA)
end
section
variable{M:cN}{L:FL}{S S' S'':Tabs}{T:V→Tabs}{nw nw' nw'':Bool}{ms:List V}
inductive Ln where
 | new (d s:V) | store (a b:V) | load (d a:V) | move (d a:V) | struct (a b:V) | part (d a i:V) | call (d1 d2 k a b:V)
noncomputable def Ln.vl:Ln→V
 | .new d s=>.tup [.str "new",d,vT,s]
 | .store a b=>.tup [.str "store",a,b]
 | .load d a=>.tup [.str "load",d,a]
 | .move d a=>.tup [.str "move",d,a]
 | .struct a b=>.tup [.str "struct",.int 6,.tup [a,b]]
 | .part d a i=>.tup [.str "part",d,a,i]
 | .call d1 d2 k a b=>.tup [.str "call",.tup [d1,d2],.tup [.str "fn",k],.tup [a,b]]
noncomputable def bw:List V:=[.str "f",.str "g",.str "h"]
noncomputable def Ln.ok(st:List V):Ln→Prop
 | .new d s=>d∈regs∧s∈st
 | .store a b=>jY a∧jY b
 | .load d a | .move d a | .part d a _=>d∈regs∧jY a
 | .struct a b=>jY a∧jY b
 | .call d1 d2 k a b=>d1∈regs∧d2∈regs∧k∈bw∧jY a∧jY b
noncomputable def Ln.news:Ln→List V
 | .new _ s=>[s]
 | _=>[]
noncomputable def Hx(F:Facts)(a u:V):Prop:=∃t,cX F a t∧Ld F t u
noncomputable def xP(G:V→Facts):Ln→Facts→Facts
 | .new d s=>Hz (Dn .sites s) (eJ d (·=tS s))
 | .store a b=>fun F=>mO (cX F a) (cX F b) F
 | .load d a=>fun F=>eJ d (Hx F a) F
 | .move d a | .part d a _=>fun F=>eJ d (cX F a) F
 | .struct a b=>fun F=>eJ (.int 6) (yt F [a,b]) F
 | .call d1 d2 k a b=>f9 (G k) a b d1 d2
structure rV(B:Nat)(σ:Hp)(sums:Nat)(T:V→Tabs):Prop where
 lt:sums<B
 d:∃l e,σ[sums]?=some (.dict l e)∧∀k∈bw,∃s,getD l k=some (.obj s)∧gT B σ s (T k)
theorem Bv{d s:V}(h:aV M L S nw σ)(hd:d∈regs)(hs:s∈M.sites)
  (hQ:∀S' nw' σ',Op M L [s] (Hz (Dn .sites s) (eJ d (·=tS s))) S nw σ S' nw' σ'→Q .none σ'):aY ba (n+5) ("EscapeFlow","look") [.obj L.f,(Ln.new d s).vl] σ Q:=by
 refine bs (d:=cq) rfl ae ae ?_;refine bz h.fo rfl ?_;refine bs (d:=dX) rfl ae ae ?_;refine bz h.fo rfl ?_;refine zo h hd hs fun S' nw' σ' o=>?_;exact hQ S' nw' σ' o
theorem oV{ta:List V}(hu:∀u,u∈ta↔cX F a u):(fun t=>t∈ta)=cX F a:=funext fun t=>propext (hu t)
theorem wz(h:aV M L S nw σ)(ha:jY a)(hb:jY b)
  (hQ:∀S' nw' σ',Op M L [] (fun F=>mO (cX F a) (cX F b) F) S nw σ S' nw' σ'→Q .none σ'):aY ba (n+7) ("EscapeFlow","look") [.obj L.f,(Ln.store a b).vl] σ Q:=by
 refine bs (d:=cq) rfl ae ae ?_;refine bz h.fo rfl ?_;refine bs (d:=dJ) rfl ae ae ?_;refine bz h.fo rfl ?_;refine bz h.fo rfl ?_;refine cG h ha fun r1 σ1 ta p1 hr1 hn1 nd1 ok1 hu1=>?_;have h1:=h.ext p1;refine bz h1.fo rfl ?_;refine cG h1 hb fun r2 σ2 tb p2 hr2 hn2 nd2 ok2 hu2=>?_;refine qb (h1.ext p2) (bU p2 hr1) (fun q=>bX _ (al (h.lt q) hn1)) ok1 hr2 (fun q=>bX _ (al (h1.lt q) hn2)) ok2 (gP nd2 ok2) fun S' nw' σ' o=>?_;rw [oV hu1,oV hu2] at o;exact hQ S' nw' σ' ((o.pre (p1.trans p2)).conv (fun e tb v q=>by rw [e] at q ⊢;exact q) fun C hC tb v q=>q.mono (fun z_ z_=>id) (fun z_=>cX.mono hC) fun z_=>cX.mono hC)
theorem jt{G:Facts→V→Prop}{us:V→Prop}{d:V}(hus:us=G S.fact)(hm:∀C:Facts,(∀tb v,S.fact tb v→C tb v)→∀t,G S.fact t→G C t)(o:Op M L ns (eJ d us) S nw σ S' nw' σ'):Op M L ns (fun F=>eJ d (G F) F) S nw σ S' nw' σ' :=
 o.conv (fun e tb v q=>⟨q.1,by rw [hus,←e];exact q.2⟩) fun C hC tb v q=>⟨q.1,hm C hC v (hus▸q.2)⟩
theorem zk{d:V}(h:aV M L S nw σ)(hd:d∈regs)(ha:jY a)
  (hQ:∀S' nw' σ',Op M L [] (fun F=>eJ d (Hx F a) F) S nw σ S' nw' σ'→Q .none σ'):aY ba (n+4) ("EscapeFlow","look") [.obj L.f,(Ln.load d a).vl] σ Q:=by
 refine bs (d:=cq) rfl ae ae ?_;refine bz h.fo rfl ?_;refine bs (d:=dK) rfl ae ae ?_;refine bz h.fo rfl ?_;refine bz h.fo rfl ?_;refine bz h.fo rfl ?_;refine cG h ha fun r1 σ1 ta p1 hr1 hn1 nd1 ok1 hu1=>?_;refine oh (h.ext p1) hr1 ok1 fun r2 σ2 ua p2 hr2 hn2 nd2 ok2 hu2=>?_;refine fV ((h.ext p1).ext p2) hd hr2 (fun q=>bX _ (al ((h.ext p1).lt q) hn2)) ok2 fun S' nw' σ' o=>?_;refine hQ S' nw' σ' (jt (G:=fun F=>Hx F a) (funext fun u=>propext ?_) (fun C hC t q=>let ⟨u,q1,q2⟩:=q;⟨u,q1.mono hC,q2.mono hC⟩) (o.pre (p1.trans p2)));exact (hu2 u).trans ⟨fun w=>bG w fun t q1 q2=>⟨t,(hu1 t).mp q1,q2⟩,fun x=>bG x fun t q1 q2=>⟨t,(hu1 t).mpr q1,q2⟩⟩
theorem zl{d:V}(h:aV M L S nw σ)(hd:d∈regs)(ha:jY a)
  (hQ:∀S' nw' σ',Op M L [] (fun F=>eJ d (cX F a) F) S nw σ S' nw' σ'→Q .none σ'):aY ba (n+3) ("EscapeFlow","look") [.obj L.f,(Ln.move d a).vl] σ Q:=by
 refine bs (d:=cq) rfl ae ae ?_;refine bz h.fo rfl ?_;refine bz h.fo rfl ?_;refine cG h ha fun r1 σ1 ta p1 hr1 hn1 nd1 ok1 hu1=>?_;refine fV (h.ext p1) hd hr1 (fun q=>bX _ (al (h.lt q) hn1)) ok1 fun S' nw' σ' o=>?_;exact hQ S' nw' σ' (jt (G:=fun F=>cX F a) (oV hu1) (fun C hC t q=>q.mono hC) (o.pre p1))
theorem zm{d i:V}(h:aV M L S nw σ)(hd:d∈regs)(ha:jY a)
  (hQ:∀S' nw' σ',Op M L [] (fun F=>eJ d (cX F a) F) S nw σ S' nw' σ'→Q .none σ'):aY ba (n+3) ("EscapeFlow","look") [.obj L.f,(Ln.part d a i).vl] σ Q:=by
 refine bs (d:=cq) rfl ae ae ?_;refine bz h.fo rfl ?_;refine bz h.fo rfl ?_;refine cG h ha fun r1 σ1 ta p1 hr1 hn1 nd1 ok1 hu1=>?_;refine fV (h.ext p1) hd hr1 (fun q=>bX _ (al (h.lt q) hn1)) ok1 fun S' nw' σ' o=>?_;exact hQ S' nw' σ' (jt (G:=fun F=>cX F a) (oV hu1) (fun C hC t q=>q.mono hC) (o.pre p1))
theorem uH(h:aV M L S nw σ)(ha:jY a)(hb:jY b)
  (hQ:∀S' nw' σ',Op M L [] (fun F=>eJ (.int 6) (yt F [a,b]) F) S nw σ S' nw' σ'→Q .none σ'):aY ba (n+4) ("EscapeFlow","look") [.obj L.f,(Ln.struct a b).vl] σ Q:=by
 refine bs (d:=cq) rfl ae ae ?_;refine bz h.fo rfl ?_;refine bz h.fo rfl ?_;refine lR h (CW ha hb) ae fun r1 σ1 ta p1 hr1 hn1 z_ ok1 hu1=>?_;refine fV (h.ext p1) (bH.mpr ⟨6,List.mem_range.mpr (by decide),rfl⟩) hr1 (fun q=>bX _ (al (h.lt q) hn1)) ok1 fun S' nw' σ' o=>?_;exact hQ S' nw' σ' (jt (G:=fun F=>yt F [a,b]) (funext fun u=>propext (hu1 u)) (fun C hC t w=>bG w fun op q1 q2=>⟨op,q1,q2.mono hC⟩) (o.pre p1))
theorem zj{d1 d2:V}(h:aV M L S nw σ)(hd1:d1∈regs)(hd2:d2∈regs)(hk:k∈bw)(ha:jY a)(hb:jY b)(sm:rV B σ L.sums T)(low:vD B L S)(hB:B≤σ.length)
  (hQ:∀S' nw' σ',Op M L [] (f9 (T k).fact a b d1 d2) S nw σ S' nw' σ'→Q .none σ'):aY ba (n+8) ("EscapeFlow","look") [.obj L.f,(Ln.call d1 d2 k a b).vl] σ Q:=by
 have kk:k.key=true∧k.dep≤6:=by
  rcases aP.mp hk with rfl | hk
  ·exact ⟨rfl,aS _⟩
  rcases aP.mp hk with rfl | hk
  ·exact ⟨rfl,aS _⟩
  ·cases aq.mp hk;exact ⟨rfl,aS _⟩
 have h2:=h.ext (aD (τ:=[Ob.list [d1,d2]]));refine cY sm.d fun l e hl hs=>?_;refine bG (hs k hk) fun s hs1 hs2=>?_;refine bs (d:=cq) rfl ae ae ?_;refine bz h.fo rfl ?_;refine bs (d:=eD) rfl ae ae ?_;have hl2:(σ++[Ob.list [d1,d2]])[L.sums]?=some (.dict l e):=aT hl;refine ⟨ae,?_⟩;refine bP h2.fo rfl ?_;refine ⟨EX hl2 rfl,?_⟩;refine sg hl2 kk.1 kk.2 ?_;rw [hs1];refine bz h2.fo rfl ?_;refine ud h2 ha hb hd1 hd2 (hs2.ext aD) low (am hB (bM aD)) aI (jD h) fun S' nw' σ' o=>?_;exact hQ S' nw' σ' (o.pre aD)
theorem zn(x:Ln)(h:aV M L S nw σ)(hx:x.ok M.sites)(sm:rV B σ L.sums T)(low:vD B L S)(hB:B≤σ.length)
  (hQ:∀S' nw' σ',Op M L x.news (xP (fun k=>(T k).fact) x) S nw σ S' nw' σ'→Q .none σ'):aY ba (n+8) ("EscapeFlow","look") [.obj L.f,x.vl] σ Q:=by
 cases x with
 | new d s=>exact Bv h hx.1 hx.2 hQ
 | store a b=>exact wz h hx.1 hx.2 hQ
 | load d a=>exact zk h hx.1 hx.2 hQ
 | move d a=>exact zl h hx.1 hx.2 hQ
 | struct a b=>exact uH h hx.1 hx.2 hQ
 | part d a i=>exact zm h hx.1 hx.2 hQ
 | call d1 d2 k a b=>exact zj h hx.1 hx.2.1 hx.2.2.1 hx.2.2.2.1 hx.2.2.2.2 sm low hB hQ
end
variable{ls:List Ln}
section
variable{M:cN}{L:FL}{S S' S'':Tabs}{T:V→Tabs}{nw nw' nw'':Bool}{ms:List V}
noncomputable def u5:V→Bool
 | .tup [.str s,_]=>s=="site"
 | _=>false
theorem rJ{t:V}(h:t∈M.toks):u5 t=true↔∃s,t=tS s:=by
 rcases f6 h with rfl | ⟨i,_,rfl⟩ | ⟨s,_,rfl⟩
 ·exact ⟨fun e=>absurd e (by decide),fun q=>xe q fun s e=>absurd e lp⟩
 ·exact ⟨fun e=>absurd (show false=true from e) (by decide),fun w=>xe w fun s e=>absurd e oq⟩
 ·exact ⟨fun z_=>⟨s,rfl⟩,fun z_=>rfl⟩
theorem yO{K:List V→Hp→Prop}(hg:gd σ):∀{acc:List V},(∀x∈xs,x∈M.toks)→acc.length+xs.length<1000→K (acc++xs.filter u5) σ→
  dL gd (.name "token") (cw ["token"] loc) (eW (iK C dU) (ev C dT)) 0 xs acc σ K:=by
 induction xs with
 | nil=>intro acc hx hl hk;exact ⟨hg,bn acc▸hk⟩
 | cons x xs ih =>
  intro acc hx hl hk;rw [List.length_cons] at hl;have l1:0+acc.length+1<big:=by unfold big;omega
  have no:u5 x=false→0+acc.length+0<big∧dL gd (.name "token") (cw ["token"] loc) (eW (iK C dU) (ev C dT)) 0 xs (acc++[]) σ K:=fun h1=>by
   rw [List.filter_cons_of_neg (by rw [h1];decide)] at hk;exact ⟨bf (bY _) l1,ih (fun y hy=>hx y (aj _ hy)) (by rw [bn];omega) (by rw [bn];exact hk)⟩
  refine ⟨hg,?_⟩;rcases f6 (hx x ai) with rfl | ⟨i,_,rfl⟩ | ⟨s,_,rfl⟩
  ·(conv=>whnf);exact no rfl
  ·(conv=>whnf);exact no rfl
  ·rw [List.filter_cons_of_pos (show u5 (tS s)=true from rfl),List.append_cons] at hk
   (conv=>whnf);exact ⟨l1,ih (fun y hy=>hx y (aj _ hy)) (by rw [aO];exact ay (Nat.le_of_eq (by rw [Nat.add_assoc,Nat.add_comm _ xs.length];rfl)) hl) hk⟩
theorem Es{i:Int}(h:i=0∨i=1):Tb.told (.int i)∈M.tbs:=by
 delta cN.tbs;rw [List.mem_append];rcases h with rfl | rfl
 ·exact .inr ai
 ·exact .inr (aj _ ai)
theorem qp{i j:Int}(h:j= -1∨j=0∨j=1):V.int j∈M.vals (.told (.int i)):=by
 rcases h with rfl | rfl | rfl
 ·exact ai
 ·exact aj _ ai
 ·exact aj _ (aj _ ai)
theorem qo{l a:Nat}{i:Int}{us:List V}(h:aV M L S nw σ)(hm:(Tb.told (.int i),a,us)∈S)(hx:∀x∈ts,x∈M.toks)(hl:σ[l]?=some (.list ts))(hna:¬Ad L S l)(hs:loc "self"=some (.obj L.f))(hh:loc "told"=some (.obj a))
  (hQ:∀loc' S' nw' σ',bT ["token"] loc loc'→Op M L [] (fun z_ tb' v=>∃x∈ts,tb'=.told (.int i)∧v=kt x) S nw σ S' nw' σ'→QQ .next loc' σ'):eV (bV [l] σ) (.name "token") (dW (aY ba (n+1)) fO) ts loc σ QQ:=by
 refine jr (names:=["token"]) (nx:=fun z_=>[]) (Rx:=fun x=>Dn (.told (.int i)) (kt x)) ts h (fun S' nw' σ' ns R o=>o.stoodL (a0 hl) hna) (fun x hxt loc' S' nw' σ' ns R ag o=>⟨_,rfl,fun QQ hq=>?_⟩) fun loc' S' nw' σ' ag o=>?_
 ·have ag1:=ag.set (x:="token") (v:=x) ai;have ahs:=ag.at (by decide) hs;have ahh:=ag.at (by decide) hh;obtain ⟨us',hus⟩:=o.tab _ _ _ hm;rcases f6 (hx x hxt) with rfl | ⟨j,hj,rfl⟩ | ⟨s,hs',rfl⟩
  ·refine aw ahs ?_;refine bz o.fl.fo rfl ?_;refine aw ahh ?_;exact dQ o.fl hus (qp (.inl rfl)) fun S2 nw2 σ2 o2=>hq _ _ S2 nw2 σ2 (.inl rfl) ag1 o2
  ·refine aw ahs ?_;refine bz o.fl.fo rfl ?_;refine aw ahh ?_;exact dQ o.fl hus (qp (.inr hj)) fun S2 nw2 σ2 o2=>hq _ _ S2 nw2 σ2 (.inl rfl) ag1 o2
  ·refine aw ahs ?_;refine bz o.fl.fo rfl ?_;refine aw ahh ?_;exact dQ o.fl hus (qp (.inl rfl)) fun S2 nw2 σ2 o2=>hq _ _ S2 nw2 σ2 (.inl rfl) ag1 o2
 ·rw [flatMap_nil] at o;exact hQ loc' S' nw' σ' ag o
noncomputable abbrev pL(i op:V):Facts→Facts:=fun F tb v=>(tb=.told i∧∃t,cX F op t∧v=kt t)∨i7 (fun t=>cX F op t∧∃s,t=tS s) F tb v
noncomputable def wu(a b:V):Facts→Facts:=fun F tb v=>pL (.int 0) a F tb v∨pL (.int 1) b F tb v
theorem pM{i:Int}{op:V}{QQ:KS}(h:aV M L S nw σ)(hi:i=0∨i=1)(ho:jY op)(hs:loc "self"=some (.obj L.f))(hat:loc "at"=some (.int i))(hop:loc "operand"=some op)
  (hQ:∀loc' S' nw' σ',bT ["told","tokens","token"] loc loc'→Op M L [] (pL (.int i) op) S nw σ S' nw' σ'→QQ .next loc' σ'):dW (aY ba (n+3)) fN loc σ QQ:=by
 refine aw hs ?_;refine bP h.fo rfl ?_;refine bz h.so rfl ?_;refine aw hat ?_;refine bs (d:=ir) rfl ae ae ?_;refine bP h.so rfl ?_;refine ⟨nO h .t,?_⟩;refine ⟨fun p hp=>er hp,ae,?_⟩;refine ky h .t (r:=.int i) rfl (aS _) (Es hi) fun ad us S1 σ1 hm o1=>?_;refine aw hs ?_;refine bz o1.fl.fo rfl ?_;refine aw hop ?_;refine cG o1.fl ho fun r σ2 ts p2 hr2 hn2 nd2 ok2 hu2=>?_;have h2:=o1.fl.ext p2;have hna2:¬Ad L S1 r:=fun q=>bX _ (al (o1.fl.lt q) hn2);have tl:=gP nd2 ok2;refine aw (ch hr2) ?_;refine qo h2 hm ok2 hr2 hna2 hs rfl fun loc2 S2 nw2 σ3 ag2 o2=>?_;have hk:=o2.keep hr2 hna2;have agf:bT ["told","tokens","token"] loc loc2:=((bT.refl.set (x:="told") (v:=.obj ad) (by decide)).set (x:="tokens") (v:=.obj r) (by decide)).trans fun y hy=>ag2 y fun q=>hy (by rw [aq.mp q];decide);refine aw (ag2.at (by decide) hs) ?_;refine bz o2.fl.fo rfl ?_;refine aw (ag2.at (by decide) rfl) ?_;refine aw (ch hk.1) ?_;refine yO (M:=M) (fun z_ z_=>rfl) ok2 (by rw [List.length_nil,Nat.zero_add];exact tl) ?_;refine i8 (o2.fl.ext aD) aI (fun y hy=>ok2 y (cC.mp hy).1) (ay (List.length_filter_le _ _) tl) fun S3 nw3 σ4 o3=>?_;have e0:∀tb v,S1.fact tb v↔S.fact tb v:=fun tb v=>⟨o1.lst S.fact (fun z_ z_=>id) (fun z_ z_ q=>q.elim) tb v,o1.mono tb v⟩
 have hu:∀t,t∈ts↔cX S.fact op t:=fun t=>(hu2 t).trans ⟨cX.mono fun tb v=>(e0 tb v).mp,cX.mono fun tb v=>(e0 tb v).mpr⟩;have hf:∀t,t∈[]++ts.filter u5↔cX S.fact op t∧∃s,t=tS s:=fun t=>by
  rw [List.nil_append,List.mem_filter];exact ⟨fun q=>⟨(hu t).mp q.1,(rJ (ok2 t q.1)).mp q.2⟩,fun q=>⟨(hu t).mpr q.1,(rJ (ok2 t ((hu t).mpr q.1))).mpr q.2⟩⟩
 refine hQ _ S3 nw3 σ4 agf ((Op.trans h (Op.trans h o1 (o2.pre p2)) (o3.pre aD)).conv (fun e tb v q=>?_) fun C hC tb v q=>?_)
 ·rw [e] at q ⊢;exact q.imp (fun ⟨q1,t,q2,q3⟩=>.inr ⟨t,(hu t).mpr q2,q1,q3⟩) fun q=>q.mono (fun z_ z_=>id) fun t=>(hf t).mpr
 ·exact q.imp (fun q=>q.elim (fun q=>q.elim) fun w=>f7 w fun t q1 q2 q3=>⟨q2,t,((hu t).mp q1).mono hC,q3⟩) fun q=>q.mono (fun z_ z_=>id) fun t ht=>⟨((hf t).mp ht).1.mono hC,((hf t).mp ht).2⟩
theorem wv(h:aV M L S nw σ)(ha:jY a)(hb:jY b)
  (hQ:∀S' nw' σ',Op M L [] (wu a b) S nw σ S' nw' σ'→Q .none σ'):aY ba (n+4) ("EscapeFlow","leave") [.obj L.f,.tup [.str "return",.tup [a,b]]] σ Q:=by
 refine bs (d:=gV) rfl ae ae ?_;have nl:∀{σ σ':Hp},bV [] σ σ':=fun z_ q=>(an q).elim;refine ⟨nl,pM (i:=0) h (.inl rfl) ha rfl rfl rfl fun loc1 S1 nw1 σ1 ag1 o1=>?_⟩;refine ⟨nl,pM (i:=1) o1.fl (.inr rfl) hb (ag1.at (by decide) rfl) rfl rfl fun loc2 S2 nw2 σ2 ag2 o2=>?_⟩;exact ⟨nl,hQ S2 nw2 σ2 (Op.trans h o1 o2)⟩
end
section
variable{M:cN}{L:FL}{S S' S'':Tabs}{T:V→Tabs}{nw nw' nw'':Bool}{ms:List V}
structure gR(B:Nat)(σ:Hp)(c:Nat)(ls:List Ln)(a b:V):Prop where
 ex:∃k rg bl blk li,c<B∧bl<B∧blk<B∧li<B∧
  σ[c]?=some (.inst "Code" [("key",k),("params",.int 2),("registers",rg),("blocks",.obj bl),("captured",.int 0),("results",.int 2),("recovery",.none)])∧
  σ[bl]?=some (.list [.obj blk])∧σ[blk]?=some (.list [.obj li,.tup [.str "return",.tup [a,b]]])∧σ[li]?=some (.list (ls.map Ln.vl))
theorem gR.same{c:Nat}(s:gR B σ c ls a b)(h:∀n,n<B→σ'[n]?=σ[n]?):gR B σ' c ls a b:=by
 refine eR s.ex fun k rg bl blk li h1 h2 h3 h4 g1 g2 g3 g4=>?_;exact ⟨k,rg,bl,blk,li,h1,h2,h3,h4,(h _ h1).trans g1,(h _ h2).trans g2,(h _ h3).trans g3,(h _ h4).trans g4⟩
theorem rV.same{s:Nat}(x:rV B σ s T)(h:∀n,n<B→σ'[n]?=σ[n]?):rV B σ' s T:=by
 obtain ⟨h1,l,e,h2,h3⟩:=x;exact ⟨h1,l,e,(h _ h1).trans h2,fun k hk=>let ⟨s,q1,q2⟩:=h3 k hk;⟨s,q1,q2.same h⟩⟩
structure Wk(M:cN)(L:FL)(ns:List V)(R:Facts→Facts)(S:Tabs)(σ:Hp)(S':Tabs)(nw':Bool)(σ':Hp):Prop where
 fl:aV M L S' nw' σ'
 le:σ.length≤σ'.length
 fr:∀n,n<σ.length→¬Ad L S n→σ'[n]?=σ[n]?
 ad:∀n,Ad L S' n→Ad L S n∨σ.length≤n
 mono:∀tb v,S.fact tb v→S'.fact tb v
 lst:∀C:Facts,(∀tb v,S.fact tb v→C tb v)→(∀tb v,R C tb v→C tb v)→∀tb v,S'.fact tb v→C tb v
 sts:∀ts ts',(Tb.sites,L.sites,ts)∈S→(Tb.sites,L.sites,ts')∈S'→ts'=bQ ts ns
 tab:∀tb a ts,(tb,a,ts)∈S→∃ts',(tb,a,ts')∈S'
theorem Op.wk(o:Op M L ns R S nw σ S' nw' σ'):Wk M L ns R S σ S' nw' σ':=⟨o.fl,o.le,o.fr,o.ad,o.mono,o.lst,o.sts,o.tab⟩
theorem Wk.low(o:Wk M L ns R S σ S' nw' σ')(h:vD B L S)(hB:B≤σ.length):vD B L S':=fun n hn=>(o.ad n hn).elim (h n) fun q=>am hB q
theorem Wk.below(o:Wk M L ns R S σ S' nw' σ')(h:vD B L S)(hB:B≤σ.length):∀n,n<B→σ'[n]?=σ[n]?:=fun n hn=>o.fr n (al hn hB) fun q=>absurd (h n q) (Nat.not_le.mpr hn)
theorem Wk.trans(x:Wk M L ns R S σ S' nw' σ')(y:Wk M L ms R S' σ' S'' nw'' σ''):Wk M L (ns++ms) R S σ S'' nw'' σ'' where
 fl:=y.fl
 le:=am x.le y.le
 fr n hn ha:=(y.fr n (al hn x.le) fun q=>(x.ad n q).elim ha fun q=>absurd hn (bS.mpr q)).trans (x.fr n hn ha)
 ad n hn:=(y.ad n hn).elim (x.ad n) fun q=>.inr (am x.le q)
 mono tb v f:=y.mono tb v (x.mono tb v f)
 lst C h1 h2:=y.lst C (x.lst C h1 h2) h2
 sts ts ts' h1 h2:=by
  refine xe x.fl.atS fun us hu=>?_;rw [y.sts us ts' hu h2,x.sts ts us h1 hu,eI]
 tab tb a ts h:=let ⟨us,q⟩:=x.tab tb a ts h;y.tab tb a us q
theorem aV.setNew(h:aV M L S nw σ)(b:Bool):aV M L S b (σ.set L.f (L.flow b)):=by
 refine xa h.own5 fun w z_=>?_;refine nU w fun d1 d2 d3 d4=>?_;exact ⟨bq h.fo,(aM d3).trans h.so,let ⟨e,q⟩:=h.hd;⟨e,(aM d1).trans q⟩,let ⟨e,q⟩:=h.ins;⟨e,(aM d2).trans q⟩,let ⟨e,q⟩:=h.td;⟨e,(aM d4).trans q⟩,
  fun x hx=>let ⟨e,q⟩:=h.tb x hx;⟨e,(aM fun e:L.f=x.2.1=>h.apart hx (e▸ai)).trans q⟩,h.ads,h.keys,h.nd,h.tbs,h.ok,h.atS,h.atG,h.atL,h.atK⟩
theorem rP(h:aV M L S nw σ)(b:Bool):Wk M L [] R S σ S b (σ.set L.f (L.flow b)) where
 fl:=h.setNew b
 le:=by simp
 fr n hn ha:=aM fun e:L.f=n=>ha (e▸bj.mpr (.inl ai))
 ad n hn:=.inl hn
 mono _ _:=id
 lst C h1 _:=h1
 sts ts ts' h1 h2:=(h.uniq h2 h1).2
 tab tb a ts h:=⟨ts,h⟩
theorem u8{c:Nat}:∀{l:Tabs},(∀p∈l,p.2.2.length≤c)→l.size≤l.length*c:=fun {l}=>by
 induction l with
 | nil=>intro _;exact aS _
 | cons p r ih =>
  intro hl;show p.2.2.length+Tabs.size r≤(r.length+1)*c;rw [Nat.add_mul,Nat.one_mul,Nat.add_comm];exact Nat.add_le_add (ih fun q hq=>hl q (aj _ hq)) (hl p ai)
theorem vn(h:aV M L S nw σ):S.length≤36:=by
 have h3:=cM (l:=S.map (·.1)) (m:=M.tbs) h.keys fun x hx=>let ⟨p,hp,e⟩:=List.mem_map.mp hx;e▸h.tbs p hp
 have h4:=M.few;rw [aJ] at h3;simp only [cN.tbs,regs,aO,aJ,List.length_range,List.length_cons,List.length_nil] at h3;omega
theorem w8(h:aV M L S nw σ):S.size≤2300 :=
 am (u8 fun p hp=>h.len hp) (am (Nat.mul_le_mul_right 23 (vn h)) (by decide))
noncomputable def fI(G:V→Facts)(ls:List Ln)(a b:V):Facts→Facts:=fun F tb v=>(∃x∈ls,xP G x F tb v)∨wu a b F tb v
theorem nZ(h:k∈l):dE l k=l:=if_pos h
theorem kY:∀{ns l:List V},(∀x∈ns,x∈l)→bQ l ns=l
 | [],l,_=>rfl
 | x::ns,l,h=>by
  rw [j6,nZ (h x ai)];exact kY fun y hy=>h y (aj _ hy)
theorem me:bQ (bQ l ns) ns=bQ l ns:=kY fun x hx=>eX.mpr (.inr hx)
theorem Du(h:aV M L S nw σ)(hls:∀x∈ls,x.ok M.sites)(ha:jY a)(hb:jY b)(cd:gR B σ L.code ls a b)(sm:rV B σ L.sums T)(low:vD B L S)(hB:B≤σ.length)(hs:loc "self"=some (.obj L.f))
  (hQ:∀loc' S' nw' σ',loc' "self"=some (.obj L.f)→Op M L (ls.flatMap Ln.news) (fI (fun k=>(T k).fact) ls a b) S nw σ S' nw' σ'→QQ .next loc' σ') :
  ex (aY ba (n+8)) (.forr (.pair "instructions" "terminator") .over [.attr (.attr (.var "self") "code") "blocks"] ei) loc σ QQ:=by
 refine eR cd.ex fun k rg bl blk li h1 h2 h3 h4 g1 g2 g3 g4=>?_;have nB:∀{n},n<B→¬Ad L S n:=fun q x=>absurd (low _ x) (Nat.not_le.mpr q);refine aw hs ?_;refine bP h.fo rfl ?_;refine bP g1 rfl ?_;refine aw (ch g2) ⟨fun z_ z_=>rfl,?_⟩;show match (match fP σ (.obj blk) with | some [a,b]=>some (setL (setL loc "instructions" a) "terminator" b) | _=>none) with | some loc'=>_ | none=>False
 rw [jd g3];refine aw (ch g4) ?_;refine xH Ln.vl (names:=["instruction"]) (nx:=Ln.news) (Rx:=fun x=>xP (fun k=>(T k).fact) x) ls h (fun S' nw' σ' ns R o=>o.stoodL (a0 g4) (nB h4)) (fun x hxt loc' S' nw' σ' ns R ag o=>⟨_,rfl,fun QQ hq=>?_⟩) fun loc' S' nw' σ' ag o=>?_
 ·refine aw (ag.at (by decide) hs) ?_;refine bz o.fl.fo rfl ?_;exact zn x o.fl (hls x hxt) (sm.same (o.below low hB)) (o.low low hB) (am hB o.le) fun S2 nw2 σ2 o2=>hq _ _ S2 nw2 σ2 (.inl rfl) (ag.set ai) o2
 ·have hself:loc' "self"=some (.obj L.f):=ag.at (by decide) hs;refine aw hself ?_;refine bz o.fl.fo rfl ?_;refine aw (ag.at (by decide) rfl) ?_;refine wv o.fl ha hb fun S2 nw2 σ2 o2=>?_;have o3:=Op.trans h o o2;rw [bn] at o3;exact ⟨o3.stoodL (a0 g2) (nB h2),hQ loc' S2 nw2 σ2 hself o3⟩
theorem Dt(h:aV M L S nw σ)(hls:∀x∈ls,x.ok M.sites)(ha:jY a)(hb:jY b)(cd:gR B σ L.code ls a b)(sm:rV B σ L.sums T)(low:vD B L S)(hB:B≤σ.length){m:Nat} :
  ∀{S₁:Tabs} {σ₁:Hp} {loc:Loc} {QQ:Fl→Loc→Hp→Prop} {ns:List V},loc "self"=some (.obj L.f)→Wk M L ns (fI (fun k=>(T k).fact) ls a b) S σ S₁ true σ₁→(∀l:List V,bQ (bQ l ns) (ls.flatMap Ln.news)=bQ l (ls.flatMap Ln.news))→2300-S₁.size<m→
   (∀loc' S' σ',Wk M L (ls.flatMap Ln.news) (fI (fun k=>(T k).fact) ls a b) S σ S' false σ'→(∀tb v,fI (fun k=>(T k).fact) ls a b S'.fact tb v→S'.fact tb v)→QQ .next loc' σ')→
   jL (tF (aY ba (n+8)) ej) (dW (aY ba (n+8)) eh) (m+1) loc σ₁ QQ:=by
 induction m with
 | zero=>intro S₁ σ₁ loc QQ ns _ _ _ hm;exact absurd hm (Nat.not_lt_zero _)
 | succ m ih =>
  intro S₁ σ₁ loc QQ ns hs w hns hm hq;have w1:=w.trans (rP w.fl false);have bel:=w1.below low hB;refine aw hs ?_;refine bP w.fl.fo rfl ?_;refine aw hs ?_;refine jI (c:="EscapeFlow") w.fl.fo ae ?_;refine Du (n:=n) w1.fl hls ha hb (cd.same bel) (sm.same bel) (w1.low low hB) (am hB w1.le) hs fun loc2 S2 nw2 σ2 hs2 o=>?_;have w2:=w1.trans o.wk;rw [bn] at w2
  cases nw2 with
  | true =>
   have hlt:=o.sz rfl rfl;have hle:=w8 o.fl;exact ih hs2 w2 (fun l=>by rw [eI,hns,me]) (al (Nat.sub_lt_sub_left (al hlt hle) hlt) (Nat.le_of_lt_succ hm)) hq
  | false =>
   refine aw hs2 ?_;refine bP o.fl.fo rfl ?_;exact hq _ _ _ {w2 with sts:=fun ts ts' h1 h2=>by rw [w2.sts ts ts' h1 h2,eI,hns]} (o.snd rfl)
theorem oD(h:aV M L S nw σ)(hls:∀x∈ls,x.ok M.sites)(ha:jY a)(hb:jY b)(cd:gR B σ L.code ls a b)(sm:rV B σ L.sums T)(low:vD B L S)(hB:B≤σ.length)
  (hQ:∀S' σ',Wk M L (ls.flatMap Ln.news) (fI (fun k=>(T k).fact) ls a b) S σ S' false σ'→(∀tb v,fI (fun k=>(T k).fact) ls a b S'.fact tb v→S'.fact tb v)→Q .none σ') :
  aY ba (n+9) ("EscapeFlow","go_through") [.obj L.f] σ Q:=by
 refine bs (d:=e8) rfl ae ae ?_;refine jI (c:="EscapeFlow") h.fo ae ⟨2302,?_⟩;exact Dt h hls ha hb cd sm low hB rfl (rP h true) (fun l=>rfl) (Nat.lt_succ_of_le (Nat.sub_le _ _)) fun loc' S' σ' w hc=>hQ S' σ' w hc
end
section
variable{M:cN}{L:FL}{S S' S'':Tabs}{T:V→Tabs}{nw nw' nw'':Bool}{ms:List V}
theorem yf{l:Hp}{k:Nat}:(σ++l).set (σ.length+k) o=σ++l.set k o:=by
 rw [List.set_append_right _ _ (aW _ _),Nat.add_sub_cancel_left]
theorem cJ{l:Hp}{k:Nat}:(σ++l)[σ.length+k]?=l[k]?:=by
 rw [aL (aW _ _),Nat.add_sub_cancel_left]
theorem mR{l:Hp}:(σ++l).set σ.length o=σ++l.set 0 o:=yf (k:=0)
theorem hS{l:Hp}:(σ++l)[σ.length]?=l[0]?:=cJ (k:=0)
theorem dg{l:Hp}:(σ++l).length=σ.length+l.length:=aO
theorem qa:dw [] k v=[(k,v)]:=kx rfl
theorem ij{r:List Mine.S}{Q:KS}{τ:Hp}{c a:String}{l:List (String×V)}(hs:loc "self"=some (.obj σ.length))(ht:τ[0]?=some (.inst c l))(hl:l.length<100)
  (q:dW C r loc (σ++(τ++[Ob.dict [] 0]).set 0 (.inst c (jV l a (.obj (σ.length+τ.length))))) Q):dW C (.assign (.attr (.var "self") a) (.dict [])::r) loc (σ++τ) Q:=by
 refine ⟨fun p hp=>er hp,ae,?_⟩;refine aw hs ?_;have h0:0<τ.length:=a0 ht;refine jI (c:=c) (l:=l) (by rw [aR,hS,au h0];exact ht) hl ?_;rw [aR,mR,dg];exact q
theorem fJ{r:List Mine.S}{Q:KS}{τ:Hp}{c a:String}{l:List (String×V)}(he:∀{Q:K1},Q v (σ++τ)→ev C e loc (σ++τ) Q)(hs:loc "self"=some (.obj σ.length))(ht:τ[0]?=some (.inst c l))(hl:l.length<100)
  (q:dW C r loc (σ++τ.set 0 (.inst c (jV l a v))) Q):dW C (.assign (.attr (.var "self") a) e::r) loc (σ++τ) Q:=by
 refine he (Q:=wi C (.attr (.var "self") a) (zb (dW C r) Q) loc) ?_;refine aw hs ?_;refine jI (c:=c) (l:=l) (by rw [hS];exact ht) hl ?_;rw [mR];exact q
theorem vj(hQ:Q .none (σ++[.inst "Summary" [("leaks",.obj (σ.length+1)),("kept",.obj (σ.length+2)),("told",.obj (σ.length+3))],.dict [] 0,.dict [] 0,.dict [] 0])) :
  aY ba (n+1) ("Summary","__init__") [.obj σ.length] (σ++[.inst "Summary" []]) Q:=by
 refine bs (d:=gW) rfl ae ae ?_;refine ij (c:="Summary") rfl rfl ae ?_;refine ij (c:="Summary") rfl rfl ae ?_;refine ij (c:="Summary") rfl rfl ae ?_;exact hQ
noncomputable def L0(σ:Hp)(c s:Nat):FL:=⟨σ.length,c,s,σ.length+1,σ.length+2,σ.length+3,σ.length+4,σ.length+5,σ.length+6,σ.length+7,σ.length+8⟩
noncomputable def S0(σ:Hp):Tabs:=[(.sites,σ.length+3,[]),(.gone,σ.length+4,[]),(.leaks,σ.length+6,[]),(.kept,σ.length+7,[]),(.held (.int 0),σ.length+9,[tO (.int 0)]),(.held (.int 1),σ.length+10,[tO (.int 1)])]
noncomputable def H0(σ:Hp)(c s:Nat):Hp:=[(L0 σ c s).flow false,.dict [(.int 0,.obj (σ.length+9)),(.int 1,.obj (σ.length+10))] 2,.dict [] 0,.dict [] 0,.dict [] 0,(L0 σ c s).summary,.dict [] 0,.dict [] 0,.dict [] 0,.dict [(tO (.int 0),.bool true)] 1,.dict [(tO (.int 1),.bool true)] 1]
theorem rn{Q:KS}{τ:Hp}{c:String}{l:List (String×V)}{m:List (V×V)}{e:Nat}(hs:loc "self"=some (.obj σ.length))(hr:loc "register"=some (.int i))(ht:τ[0]?=some (.inst c l))(hl:mu l "held"=some (.obj (σ.length+1)))(h1:τ[1]?=some (.dict m e))(hm:m.length<big)(hn:getD m (.int i)=none)
  (q:Q .next loc (σ++(τ++[Ob.dict [(tO (.int i),.bool true)] 1]).set 1 (.dict (m++[(.int i,.obj (σ.length+τ.length))]) (e+1)))):dW C eH loc (σ++τ) Q:=by
 have h0:1<τ.length:=a0 h1;refine aw hr ?_;refine ⟨fun p hp=>by rw [aq.mp hp];exact ⟨rfl,ae⟩,ae,?_⟩;refine aw hs ?_;refine bP (c:=c) (by rw [aR,hS,au (bf (bY _) h0)];exact ht) hl ?_;refine aw hr ?_;refine gc (i:=.int i) (m:=m) (e:=e) (show (σ++τ++[Ob.dict [(tO (.int i),.bool true)] 1])[σ.length+1]?=_ by rw [aR,cJ,au h0];exact h1) rfl (aS _) hm ?_;rw [aR,yf,dg];delta fK;rw [kx hn,hn];exact q
theorem yS{c s:Nat}{at':List (String×V)}(hc:σ[c]?=some (.inst "Code" at'))(h1:mu at' "captured"=some (.int 0))(h2:mu at' "params"=some (.int 2))(hQ:Q .none (σ++H0 σ c s)) :
  aY ba (n+2) ("EscapeFlow","__init__") [.obj σ.length,.obj c,.obj s] (σ++[.inst "EscapeFlow" []]) Q:=by
 refine bs (d:=dS) rfl ae ae ?_;refine fJ (c:="EscapeFlow") (v:=.obj c) (fun q=>q) rfl rfl ae ?_;refine fJ (c:="EscapeFlow") (v:=.obj s) (fun q=>q) rfl rfl ae ?_;refine ij (c:="EscapeFlow") rfl rfl ae ?_;refine ij (c:="EscapeFlow") rfl rfl ae ?_;refine ij (c:="EscapeFlow") rfl rfl ae ?_;refine ij (c:="EscapeFlow") rfl rfl ae ?_;have nl:∀{σ σ':Hp},bV [] σ σ':=fun z_ q=>(an q).elim
 let at4:List (String×V):=[("code",.obj c),("summaries",.obj s),("held",.obj (σ.length+1)),("inside",.obj (σ.length+2)),("sites",.obj (σ.length+3)),("gone",.obj (σ.length+4))]
 show dW (aY ba (n+1)) (dS.body.drop 6) (jT ["self","code","summaries"] [.obj σ.length,.obj c,.obj s]) (σ++[Ob.inst "EscapeFlow" at4,.dict [] 0,.dict [] 0,.dict [] 0,.dict [] 0]) (qB Q);refine vj (σ:=σ++[Ob.inst "EscapeFlow" at4,.dict [] 0,.dict [] 0,.dict [] 0,.dict [] 0]) ⟨rfl,?_⟩;rw [dg];refine jI (c:="EscapeFlow") (l:=at4) (by rw [aR,hS];rfl) ae ?_;rw [aR,mR];refine fJ (c:="EscapeFlow") (v:=.bool false) (fun q=>q) rfl rfl ae ?_;refine bP (aT hc) h1 ?_;refine bP (aT hc) h2 ?_;refine ⟨nl,rn (i:=0) (c:="EscapeFlow") rfl rfl rfl rfl rfl ae rfl ?_⟩;refine ⟨nl,rn (i:=1) (c:="EscapeFlow") rfl rfl rfl rfl rfl ae rfl ?_⟩;exact ⟨nl,hQ⟩
theorem vL{p:α→Prop}{a b c d e f:α}(h1:p a)(h2:p b)(h3:p c)(h4:p d)(h5:p e)(h6:p f):∀x∈[a,b,c,d,e,f],p x :=
 bW.mpr ⟨h1,bW.mpr ⟨h2,bW.mpr ⟨h3,bW.mpr ⟨h4,bW.mpr ⟨h5,bW.mpr ⟨h6,fun z_ q=>(an q).elim⟩⟩⟩⟩⟩⟩
noncomputable def Tb.num:Tb→Nat | .sites=>0 | .gone=>1 | .leaks=>2 | .kept=>3 | .held (.int i)=>4+i.toNat | _=>9
theorem zJ{c s:Nat}:(L0 σ c s).own++(S0 σ).map (·.2.1)=[0,1,2,5,8,3,4,6,7,9,10].map (σ.length+·):=rfl
theorem GT(M:cN){c s:Nat}:aV M (L0 σ c s) (S0 σ) false (σ++H0 σ c s):=by
 have r:∀{t},t∈[Tb.told (.int 0),.told (.int 1),.sites,.gone,.leaks,.kept]→t∈M.tbs:=fun q=>bj.mpr (.inr q);have no:∀{x:V} {l:List V},x∈([]:List V)→x∈l:=fun q=>(an q).elim;have one:∀{x y:V},y∈M.toks→x∈[y]→x∈M.toks:=fun h q=>aq.mp q▸h;exact ⟨hS,cJ (k:=5),⟨_,cJ (k:=1)⟩,⟨_,cJ (k:=2)⟩,⟨_,cJ (k:=8)⟩,
  vL ⟨_,cJ (k:=3)⟩ ⟨_,cJ (k:=4)⟩ ⟨_,cJ (k:=6)⟩ ⟨_,cJ (k:=7)⟩ ⟨_,cJ (k:=9)⟩ ⟨_,cJ (k:=10)⟩,
  zJ▸List.Pairwise.map _ (fun a b h e=>h (Nat.add_left_cancel e)) (by decide:[0,1,2,5,8,3,4,6,7,9,10].Nodup),
  List.Pairwise.of_map Tb.num (fun a b h e=>h (congrArg Tb.num e)) (by decide:[0,1,2,3,4,5].Nodup),
  vL List.nodup_nil List.nodup_nil List.nodup_nil List.nodup_nil (List.nodup_cons.mpr ⟨an,List.nodup_nil⟩) (List.nodup_cons.mpr ⟨an,List.nodup_nil⟩),
  vL (r (aj _ (aj _ ai))) (r (aj _ (aj _ (aj _ ai)))) (r (aj _ (aj _ (aj _ (aj _ ai))))) (r (aj _ (aj _ (aj _ (aj _ (aj _ ai)))))) (si (bH.mpr ⟨0,List.mem_range.mpr (by decide),rfl⟩)) (si (bH.mpr ⟨1,List.mem_range.mpr (by decide),rfl⟩)),
  vL (fun z_=>no) (fun z_=>no) (fun z_=>no) (fun z_=>no) (fun z_=>one (aj _ ai)) (fun z_=>one (aj _ (aj _ ai))),
  ⟨[],ai⟩,⟨[],aj _ ai⟩,⟨[],aj _ (aj _ ai)⟩,⟨[],aj _ (aj _ (aj _ ai))⟩⟩
theorem FO{c s:Nat}:vD σ.length (L0 σ c s) (S0 σ):=fun n hn=>by
 unfold Ad at hn;rw [zJ] at hn;refine bG (List.mem_map.mp hn) fun k z_ q=>?_;subst q;exact aW _ _
noncomputable def F0:Facts:=fun tb v=>(tb=.held (.int 0)∧v=tO (.int 0))∨(tb=.held (.int 1)∧v=tO (.int 1))
theorem Iw:∀p∈S0 σ,∀v∈p.2.2,F0 p.1 v :=
 vL (fun z_ q=>(an q).elim) (fun z_ q=>(an q).elim) (fun z_ q=>(an q).elim) (fun z_ q=>(an q).elim) (fun z_ q=>.inl ⟨rfl,aq.mp q⟩) (fun z_ q=>.inr ⟨rfl,aq.mp q⟩)
theorem EK:(S0 σ).fact=F0:=by
 funext tb v
 refine propext ⟨fun q=>cY q fun a ts h1 h2=>Iw _ h1 v h2,?_⟩;rintro (⟨rfl,rfl⟩ | ⟨rfl,rfl⟩)
 ·exact ⟨σ.length+9,_,aj _ (aj _ (aj _ (aj _ ai))),List.mem_singleton.mpr rfl⟩
 ·exact ⟨σ.length+10,_,aj _ (aj _ (aj _ (aj _ (aj _ ai)))),List.mem_singleton.mpr rfl⟩
end
section
variable{M:cN}{L:FL}{S S' S'':Tabs}{T:Tabs}{nw nw' nw'':Bool}{ms:List V}
noncomputable def jv:Tb→Bool | .told _=>true | _=>false
noncomputable def ju:Tb→Bool | .leaks=>true | _=>false
noncomputable def lI:Tb→Bool | .kept=>true | _=>false
noncomputable def iX(t:Tb):Bool:=jv t ||ju t ||lI t
noncomputable def Tabs.sumT(S:Tabs):Tabs:=S.filter fun p=>iX p.1
theorem uq(t:Tb):ju t=true↔t=.leaks:=⟨fun h=>(by cases t<;>first | rfl | cases h),fun h=>h▸rfl⟩
theorem v9(t:Tb):lI t=true↔t=.kept:=⟨fun h=>(by cases t<;>first | rfl | cases h),fun h=>h▸rfl⟩
theorem A9:S.sumT.idx Tb.t?=S.idx Tb.t?:=by
 delta Tabs.sumT Tabs.idx;rw [List.filterMap_filter]
 congr 1
 funext p
 obtain ⟨tb,a,ts⟩:=p;cases tb<;>rfl
theorem yM(h:iX tb=true):S.sumT.fact tb v↔S.fact tb v:=by
 constructor
 ·intro q;refine cY q fun a ts h1 h2=>?_;clear q;exact ⟨a,ts,(cC.mp h1).1,h2⟩
 ·intro w;refine cY w fun a ts h1 h2=>?_;clear w;exact ⟨a,ts,List.mem_filter.mpr ⟨h1,h⟩,h2⟩
theorem xd(h:iX tb=true)(hv:v∈M.vals tb):v∈fL tb:=by
 cases tb<;>first | exact hv | (simp [iX,jv,ju,lI] at h)
theorem aV.sum(h:aV M L S nw σ):gT σ.length σ L.summ S.sumT:=by
 refine xe h.td fun te hte=>?_;refine xe h.atL fun ls hls=>?_;refine xe h.atK fun ks hks=>?_;refine ⟨⟨L.leaks,L.kept,L.told,h.so,a0 h.so,a0 hte,⟨te,by rw [A9];exact hte⟩,⟨ls,List.mem_filter.mpr ⟨hls,rfl⟩⟩,⟨ks,List.mem_filter.mpr ⟨hks,rfl⟩⟩⟩,fun p hp=>?_,?_,fun p hp=>h.nd p (cC.mp hp).1,fun p hp v hv=>xd (cC.mp hp).2 (h.ok p (cC.mp hp).1 v hv)⟩
 ·refine xe (h.tb p (cC.mp hp).1) fun e q=>?_;exact ⟨a0 q,e,q⟩
 ·exact h.keys.sublist ((List.filter_sublist).map _)
noncomputable def ew(T:Tabs):Prop:=∀p∈T,iX p.1=true
theorem zI:ew S.sumT:=fun p hp=>(cC.mp hp).2
theorem qm:∀{T:Tabs},ew T→T.size=Tabs.size (T.filter fun p=>ju p.1)+Tabs.size (T.filter fun p=>lI p.1)+Tabs.size (T.filter fun p=>jv p.1)
 | [],_=>rfl
 | p::r,h=>by
  have ih:=qm (T:=r) fun q hq=>h q (aj _ hq);have hp:=h p ai;obtain ⟨tb,a,ts⟩:=p;have e:∀(x:Tb×Nat×List V) (l:Tabs),Tabs.size (x::l)=x.2.2.length+Tabs.size l:=fun x l=>by unfold Tabs.size;simp
  cases tb<;>simp [iX,jv,ju,lI] at hp<;>simp [jv,ju,lI,e] at ih ⊢<;>omega
theorem u7{f:Tb→Bool}(hf:∀t,f t=true↔t=tb)(hk:(T.map (·.1)).Nodup){a:Nat}(hm:(tb,a,ts)∈T):Tabs.size (T.filter fun p=>f p.1)=ts.length:=by
 induction T with
 | nil=>cases hm
 | cons p r ih =>
  refine xa (List.nodup_cons.mp hk) fun k1 k2=>?_;have none:∀l:Tabs,tb∉l.map (·.1)→l.filter (fun p=>f p.1)=[]:=fun l hl=>List.filter_eq_nil_iff.mpr fun q hq e=>hl (bH.mpr ⟨q,hq,(hf _).mp e⟩);refine Or.elim (aP.mp hm) (fun e=>?_) (fun hm=>?_)
  ·subst e;rw [List.filter_cons_of_pos (p:=fun p:Tb×Nat×List V=>f p.1) ((hf tb).mpr rfl),none r k1];unfold Tabs.size;simp
  ·have:f p.1=false:=by
    cases e:f p.1 with
    | false=>rfl
    | true=>exact absurd (bH.mpr ⟨_,hm,((hf _).mp e).symm⟩) k1
   rw [List.filter_cons_of_neg (by simp [this])];exact ih k2 hm
noncomputable def Tabs.all(T:Tabs):List (Tb×V):=T.flatMap fun p=>p.2.2.map fun v=>(p.1,v)
theorem oF:T.all.length=T.size:=by
 delta Tabs.all Tabs.size;rw [List.length_flatMap];simp
theorem jA:(tb,v)∈T.all↔T.fact tb v:=by
 delta Tabs.all;rw [List.mem_flatMap];constructor
 ·rintro ⟨⟨t,a,ts⟩,h1,h2⟩;refine bG (List.mem_map.mp h2) fun w h3 e=>?_;cases e;exact ⟨a,ts,h1,h3⟩
 ·intro q;refine cY q fun a ts h1 h2=>?_;clear q;exact ⟨_,h1,bH.mpr ⟨v,h2,rfl⟩⟩
theorem qO(hk:(T.map (·.1)).Nodup)(hn:∀p∈T,p.2.2.Nodup):T.all.Nodup:=by
 induction T with
 | nil=>exact List.nodup_nil
 | cons p r ih =>
  refine xa (List.nodup_cons.mp hk) fun k1 k2=>?_;have e:Tabs.all (p::r)=p.2.2.map (fun v=>(p.1,v))++Tabs.all r:=by unfold Tabs.all;simp
  rw [e];refine List.nodup_append.mpr ⟨?_,ih k2 fun q hq=>hn q (aj _ hq),fun x hx y hy exy=>?_⟩
  ·have:=hn p ai;exact List.Pairwise.map _ (fun a b h e=>h (by cases e;rfl)) this
  ·refine bG (List.mem_map.mp hx) fun w h3 e=>?_;subst e;subst exy;refine cY (jA.mp hy) fun a ts h1 h2=>?_;exact k1 (bH.mpr ⟨_,h1,rfl⟩)
theorem sE{l m:List α}(hl:l.Nodup)(hs:∀x∈l,x∈m)(hlen:m.length≤l.length):∀x∈m,x∈l:=fun x hx=>by
 by_cases h:x∈l
 ·exact h
 ·have:=cM (l:=x::l) (m:=m) (List.nodup_cons.mpr ⟨h,hl⟩) fun y hy=>(aP.mp hy).elim (fun e=>e▸hx) (hs y);dsimp only [List.length_cons] at this;omega
theorem rK{T T':Tabs}(hk:(T.map (·.1)).Nodup)(hn:∀p∈T,p.2.2.Nodup)(h:∀tb v,T.fact tb v→T'.fact tb v):T.size≤T'.size:=by
 rw [←oF,←oF];exact cM (qO hk hn) fun ⟨tb,v⟩ hx=>jA.mpr (h tb v (jA.mp hx))
theorem oB{T T':Tabs}(hk:(T.map (·.1)).Nodup)(hn:∀p∈T,p.2.2.Nodup)(h:∀tb v,T.fact tb v→T'.fact tb v)(hs:T'.size≤T.size):T'.fact=T.fact:=by
 funext tb v
 refine propext ⟨fun q=>?_,h tb v⟩;rw [←oF,←oF] at hs;exact jA.mp (sE (qO hk hn) (fun ⟨tb,v⟩ hx=>jA.mpr (h tb v (jA.mp hx))) hs _ (jA.mpr q))
theorem sy{l e:Nat}(h:σ[l]?=some (.dict (fv ts) e))(hl:ts.length<1000)(hQ:Q (.int ts.length) σ):ic .len [.obj l] σ Q :=
 kj ((Bu h).trans (congrArg some (aJ _))) (bf hl (by decide)) hQ
theorem t3(f g:α→V){t:String}{ns:List String}{tl:List E}{elt:E}{K:List V→Hp→Prop}(htl:tl=[])(hg:∀σ',σ <+:σ'→gd σ'){ps:List α}
  (hs:∀p∈ps,∀σ' Q,σ <+:σ'→(∀σ'',σ' <+:σ''→Q (g p) σ'')→ev C elt (setL (cw ns loc) t (f p)) σ' Q):∀{acc:List V} {σ₁:Hp},σ <+:σ₁→acc.length+ps.length<1000→(∀σ',σ <+:σ'→K (acc++ps.map g) σ')→
  dL gd (.name t) (cw ns loc) (eW (iK C tl) (ev C elt)) 0 (ps.map f) acc σ₁ K:=by
 subst htl
 induction ps with
 | nil=>intro acc σ₁ p hl hk;exact ⟨hg _ p,bn acc▸hk _ p⟩
 | cons x ps ih =>
  intro acc σ₁ p hl hk;rw [List.length_cons] at hl;refine ⟨hg _ p,hs x ai σ₁ _ p fun σ2 p2=>⟨?_,ih (fun y hy=>hs y (aj _ hy)) (p.trans p2) ?_ fun σ' p'=>?_⟩⟩
  ·show 0+acc.length+1<big;unfold big;omega
  ·rw [aO,List.length_singleton,Nat.add_assoc,Nat.add_comm 1];exact hl
  ·rw [aR];exact hk σ' p'
theorem vi(tb:Tb):(fL tb).length≤6:=by cases tb<;>exact ae
theorem gT.len{s:Nat}(x:gT B σ s T){p:Tb×Nat×List V}(hp:p∈T):p.2.2.length≤6:=am (cM (x.nd p hp) (x.ok p hp)) (vi _)
theorem vq:∀{T:Tabs},(T.idx Tb.t?).map (·.2)=(T.filter fun p=>jv p.1).map fun p=>V.obj p.2.1
 | []=>rfl
 | (tb,a,ts)::r=>by
  have ih:=vq (T:=r);unfold Tabs.idx at ih ⊢
  cases tb with
  | told i=>exact congrArg _ ih
  | _=>exact ih
theorem Dx{l:Tabs}:(List.map V.toInt (l.map fun p=>V.int p.2.2.length)).sum=((l.size:Nat):Int):=by
 induction l with
 | nil=>rfl
 | cons p r ih =>
  show (p.2.2.length:Int)+(List.map V.toInt (r.map fun p=>V.int p.2.2.length)).sum=((p.2.2.length+Tabs.size r:Nat):Int);rw [ih];rfl
theorem Cu{w:Nat}(h:σ[w]?=some (.list l))(hl:l.length<1000)(hv:∀v∈l,∃i:Int,v=.int i∧0≤i∧i<2^40)(q:Q (.int (l.map V.toInt).sum) σ):ic .sum [.obj w] σ Q:=by
 exact eM h ⟨hl,hv,q⟩
theorem xT{j:Nat}(h:j≤2000):∃i:Int,V.int (j:Int)=.int i∧0≤i∧i<2^40:=⟨j,rfl,Int.natCast_nonneg _,Int.lt_of_le_of_lt (Int.ofNat_le.mpr h) (by decide)⟩
theorem zY{s:Nat}(x:gT B σ s T)(ho:ew T)(hT:T.length<100)(hQ:∀σ',σ <+:σ'→Q (.int T.size) σ'):aY ba (n+1) ("","size_of_summary") [.obj s] σ Q:=by
 refine qt x.so fun lk kp td h1 h2 h3 q w ks h6=>?_;refine xe q fun te h4=>?_;refine xe w fun ls h5=>?_;have tl:=(x.tb _ h5).2;have tk:=(x.tb _ h6).2;refine xe tl fun le hle=>?_;refine xe tk fun ke hke=>?_;have lf:(T.filter fun p=>jv p.1).length<100:=ay (List.length_filter_le _ _) hT;have hx:∀p∈T.filter (fun p=>jv p.1),p.2.2.length≤6∧∃e,σ[p.2.1]?=some (.dict (fv p.2.2) e):=fun p hp=>⟨x.len (cC.mp hp).1,(x.tb p (cC.mp hp).1).2⟩
 refine bs (d:=iw) rfl ae ae ?_;refine bP h1 rfl ?_;refine sy hle (ay (x.len h5) (by decide)) ?_;refine bP h1 rfl ?_;refine sy hke (ay (x.len h6) (by decide)) ?_;refine bP h1 rfl ?_;refine aw (vz h4) ?_;rw [vq];refine t3 (σ:=σ) (fun p:Tb×Nat×List V=>V.obj p.2.1) (fun p=>V.int p.2.2.length) (tl:=gk) rfl (fun σ' p=>Cq h4 (bU p h4)) (fun p hp σ' Q p1 hq=>?_) (aB _) (by rw [List.length_nil,Nat.zero_add];exact bf lf (by decide)) fun σ' p'=>?_
 ·refine xp (hx p hp) fun l6 e he=>?_;exact sy (bU p1 he) (ay l6 (by decide)) (hq _ (aB _))
 ·refine Cu aI (by rw [List.nil_append,aJ];exact bf lf (by decide)) (fun v hv=>?_) ?_
  ·refine bG (List.mem_map.mp hv) fun p hp y=>?_;subst y;exact xT (am (hx p hp).1 (by decide))
  ·rw [List.nil_append,Dx];have e2:=qm ho;rw [u7 (tb:=.leaks) (f:=ju) uq x.keys h5,u7 (tb:=.kept) (f:=lI) v9 x.keys h6] at e2;have:=hQ _ (p'.trans (aD (τ:=[Ob.list ([]++(T.filter fun p=>jv p.1).map fun p=>V.int p.2.2.length)])));rw [e2] at this;exact this
end
section
variable{M:cN}{L:FL}{S S' S'':Tabs}{T:V→Tabs}{nw nw' nw'':Bool}{ms:List V}
theorem nL{p:V×V}{r:List (V×V)}:dw (p::r) k v=if p.1=k then (p.1,v)::r else p::dw r k v:=by
 delta dw fW;rw [List.findIdx?_cons];by_cases h:p.1=k
 ·rw [if_pos h,if_pos (V.deq_iff.mpr h)];simp
 ·rw [if_neg h,if_neg (by rw [V.deq_ne h];simp)]
  cases List.findIdx? (fun p:V×V=>V.deq p.1 k) r with
  | none=>simp
  | some i=>simp
theorem dP{p:V×V}{r:List (V×V)}:getD (p::r) k=if p.1=k then some p.2 else getD r k:=by
 delta getD;by_cases h:p.1=k
 ·rw [if_pos h,List.find?_cons_of_pos (by exact V.deq_iff.mpr h)];rfl
 ·rw [if_neg h,List.find?_cons_of_neg (by rw [V.deq_ne h];simp)]
theorem i5{k v:V}:∀{l:List (V×V)},(dw l k v).map (·.1)=dE (l.map (·.1)) k
 | []=>by simp [qa,dE]
 | p::r=>by
  rw [nL];by_cases h:p.1=k
  ·rw [if_pos h];delta dE;rw [if_pos (by simp [h])];simp
  ·rw [if_neg h,List.map_cons,i5 (l:=r)];delta dE;by_cases h2:k∈r.map (·.1)
   ·rw [if_pos h2,if_pos (by rw [List.map_cons];exact aj _ h2)];rfl
   ·rw [if_neg h2,if_neg (by rw [List.map_cons,List.mem_cons,not_or];exact ⟨aU h,h2⟩)];rfl
theorem gO{k v k':V}:∀{l:List (V×V)},getD (dw l k v) k'=if k'=k then some v else getD l k'
 | []=>by
  rw [qa,dP];by_cases h:k'=k
  ·rw [if_pos h,if_pos h.symm]
  ·rw [if_neg h,if_neg (aU h)]
 | p::r=>by
  rw [nL];by_cases h:p.1=k
  ·rw [if_pos h,dP,dP];by_cases h2:k'=k
   ·simp [h,h2]
   ·simp [h,h2,aU h2]
  ·rw [if_neg h,dP,gO (l:=r),dP];by_cases h2:p.1=k'
   ·rw [if_pos h2,if_pos h2,if_neg (fun e=>h (h2.trans e))]
   ·rw [if_neg h2,if_neg h2]
theorem mv{f:V→V}{k:V}:∀{ks:List V},k∈ks→getD (ks.map fun k=>(k,f k)) k=some (f k)
 | x::r,h=>by
  rw [List.map_cons,dP];by_cases e:x=k
  ·rw [if_pos e,e]
  ·rw [if_neg e];exact mv ((aP.mp h).elim (fun q=>absurd q.symm e) id)
structure cU where
 ks:List V
 cA:V→Nat
 ls:V→List Ln
 a:V→V
 b:V→V
noncomputable def cU.news(P:cU)(k:V):List V:=(P.ls k).flatMap Ln.news
structure cU.Ok(P:cU):Prop where
 perm:P.ks.Perm bw
 few:∀k∈bw,(P.news k).length≤20
 key:∀k∈bw,∀s∈P.news k,s.key=true∧s.dep≤3
 ls:∀k∈bw,∀x∈P.ls k,x.ok (P.news k)
 a:∀k∈bw,jY (P.a k)
 b:∀k∈bw,jY (P.b k)
 disj:∀k∈bw,∀k'∈bw,k≠k'→∀s∈P.news k,s∉P.news k'
theorem cU.Ok.mem{P:cU}(h:P.Ok):k∈P.ks↔k∈bw:=h.perm.mem_iff
theorem cU.Ok.len{P:cU}(h:P.Ok):P.ks.length=3:=h.perm.length_eq
structure fw(B:Nat)(σ:Hp)(codes:Nat)(P:cU):Prop where
 lt:codes<B
 d:∃e,σ[codes]?=some (.dict (P.ks.map fun k=>(k,V.obj (P.cA k))) e)
 c:∀k∈bw,gR B σ (P.cA k) (P.ls k) (P.a k) (P.b k)
theorem fw.same{codes:Nat}{P:cU}(x:fw B σ codes P)(h:∀n,n<B→σ'[n]?=σ[n]?):fw B σ' codes P :=
 ⟨x.lt,let ⟨e,q⟩:=x.d;⟨e,(h _ x.lt).trans q⟩,fun k hk=>(x.c k hk).same h⟩
structure j1(lo:Nat)(σ:Hp)(s:Nat)(T:Tabs):Prop where
 at':gT σ.length σ s T
 only:ew T
 few:T.length<100
 los:lo≤s
 lot:∀lk kp td,σ[s]?=some (.inst "Summary" [("leaks",.obj lk),("kept",.obj kp),("told",.obj td)])→lo≤td
 lop:∀p∈T,lo≤p.2.1
theorem j1.same{lo s:Nat}{T:Tabs}(x:j1 lo σ s T)(hz:σ.length≤σ'.length)(h:∀n,lo≤n→n<σ.length→σ'[n]?=σ[n]?):j1 lo σ' s T:=by
 refine kO x.at'.so fun lk kp td h1 h2 h3 w h5 h6=>?_;refine xe w fun e h4=>?_;have htd:=x.lot _ _ _ h1;refine ⟨⟨⟨lk,kp,td,(h _ x.los h2).trans h1,al h2 hz,al h3 hz,⟨e,(h _ htd h3).trans h4⟩,h5,h6⟩,fun p hp=>let ⟨q1,e,q2⟩:=x.at'.tb p hp;⟨al q1 hz,e,(h _ (x.lop p hp) q1).trans q2⟩,x.at'.keys,x.at'.nd,x.at'.ok⟩,x.only,x.few,x.los,fun lk' kp' td' q=>?_,x.lop⟩;rw [h _ x.los h2] at q;exact x.lot _ _ _ q
structure qv(B lo sums fo codes:Nat)(P:cU)(σ:Hp)(T:V→Tabs)(fl:List (V×V)):Prop where
 cd:fw B σ codes P
 sd:∃l e,σ[sums]?=some (.dict l e)∧l.length≤3∧l.map (·.1)=P.ks∧∀k∈bw,∃s,getD l k=some (.obj s)∧j1 lo σ s (T k)
 fd:∃e,σ[fo]?=some (.dict fl e)
structure tI(B lo sums fo:Nat)(σ:Hp):Prop where
 h1:B≤sums
 h2:B≤fo
 h3:sums<lo
 h4:fo<lo
 h5:sums≠fo
 h6:lo≤σ.length
theorem tI.le{lo sums fo:Nat}(x:tI B lo sums fo σ)(h:σ.length≤σ'.length):tI B lo sums fo σ':=⟨x.h1,x.h2,x.h3,x.h4,x.h5,am x.h6 h⟩
variable{lo sums fo codes:Nat}{P:cU}
theorem qv.same(x:qv B lo sums fo codes P σ T fl)(y:tI B lo sums fo σ)(hz:σ.length≤σ'.length)(h:∀n,n<σ.length→σ'[n]?=σ[n]?):qv B lo sums fo codes P σ' T fl:=by
 refine ik x.sd fun l e h1 h2 h3 h4=>?_;refine xe x.fd fun e' h5=>?_;have hB:B≤σ.length:=am (am y.h1 (cT y.h3)) y.h6;exact ⟨x.cd.same fun n hn=>h n (al hn hB),⟨l,e,(h _ (a0 h1)).trans h1,h2,h3,fun k hk=>let ⟨s,q1,q2⟩:=h4 k hk;⟨s,q1,q2.same hz fun n z_ hn=>h n hn⟩⟩,e',(h _ (a0 h5)).trans h5⟩
theorem qv.ext(x:qv B lo sums fo codes P σ T fl)(y:tI B lo sums fo σ)(p:σ <+:σ'):qv B lo sums fo codes P σ' T fl :=
 x.same y (bM p) fun n hn=>by refine xe p fun τ q=>?_;subst q;exact au hn
theorem qv.toSums(x:qv B lo sums fo codes P σ T fl):rV σ.length σ sums T:=by
 refine ik x.sd fun l e h1 h2 h3 h4=>?_;exact ⟨a0 h1,l,e,h1,fun k hk=>let ⟨s,q1,q2⟩:=h4 k hk;⟨s,q1,q2.at'⟩⟩
noncomputable def cU.univ(P:cU)(h:P.Ok)(k:V)(hk:k∈bw):cN:=⟨P.news k,h.few k hk,h.key k hk⟩
noncomputable def upd(T:V→Tabs)(k:V)(t:Tabs):V→Tabs:=fun k'=>if k'=k then t else T k'
noncomputable abbrev G(T:V→Tabs):V→Facts:=fun k=>(T k).fact
theorem lK(h:k∈bw):k.key=true∧k.dep≤6:=by
 simp only [bw,List.mem_cons,an,or_false] at h;rcases h with rfl | rfl | rfl<;>exact ⟨rfl,aS _⟩
noncomputable def mark(F:Facts)(s:V):V:=if F .gone s then .str "heap" else .str "frame"
theorem BB{s:V}(h:F .gone s):mark F s=.str "heap":=if_pos h
theorem BA{s:V}(h:¬F .gone s):mark F s=.str "frame":=if_neg h
theorem rD{l:List (V×V)}:(dw l k v).length≤l.length+1:=by
 have h1:=congrArg List.length (i5 (l:=l) (k:=k) (v:=v));rw [aJ] at h1;rw [h1,←aJ (as:=l) (·.1)];delta dE
 split
 ·exact Nat.le_succ _
 ·rw [aO];exact ax _
theorem zX{us:List V}{ue:Nat}(hoS:fo≠L.sites)(hoF:fo≠L.f)(hoG:fo≠L.gone)(hu:σ₀[L.sites]?=some (.dict (fv us) ue))(h:aV M L S nw σ₀){rest:List V}:∀{fl:List (V×V)} {loc:Loc} {σ:Hp},(∀n,n≠fo→σ[n]?=σ₀[n]?)→(∀s∈rest,s∈M.sites)→fl.length+rest.length<1000→loc "flow"=some (.obj L.f)→loc "found"=some (.obj fo)→(∃e,σ[fo]?=some (.dict fl e))→
  (∀loc' σ' fl',bT ["site"] loc loc'→(∀n,n≠fo→σ'[n]?=σ₀[n]?)→σ'.length=σ.length→(∃e,σ'[fo]?=some (.dict fl' e))→fl'.map (·.1)=bQ (fl.map (·.1)) rest→(∀s,getD fl' s=if s∈rest then some (mark S.fact s) else getD fl s)→QQ .next loc' σ')→
  eV (bV [L.sites] σ₀) (.name "site") (dW (aY ba n) jj) rest loc σ QQ:=by
 induction rest with
 | nil=>intro fl loc σ hs hx hlen hfl hfo hfd hQ;exact ⟨fun m hm=>by rw [aq.mp hm];exact hs _ (aU hoS),hQ loc σ fl .refl hs rfl hfd rfl fun s=>(if_neg an).symm⟩
 | cons s rest ih =>
  intro fl loc σ hs hx hlen hfl hfo hfd hQ;refine xe hfd fun e he=>?_;refine xe h.atG fun gs hgs=>?_;refine xe (h.tbl hgs) fun ge hge=>?_;have hk:=M.key s (hx s ai);have k6:s.dep≤6:=am hk.2 (by decide);rw [List.length_cons] at hlen;have fin:∀v,v=mark S.fact s→dp (.obj fo) s v σ fun σ=>eV (bV [L.sites] σ₀) (.name "site") (dW (aY ba n) jj) rest (setL loc "site" s) σ QQ:=fun v hv =>
   gc he hk.1 k6 (ay (aW _ _) (bf hlen (by decide))) (ih (fl:=dw fl s v) (fun n hn=>(aM (aU hn)).trans (hs n hn)) (fun y hy=>hx y (aj _ hy)) (ay (bL rD _) (by rw [Nat.add_assoc,Nat.add_comm 1];exact hlen)) hfl hfo ⟨_,bq he⟩ fun loc' σ' fl' ag' same len hfd' hk hg=>hQ loc' σ' fl' ((bT.refl.set ai).trans ag') same (len.trans bO) hfd' (by rw [hk,i5];rfl) fun s'=>by
    rw [hg,gO,hv];by_cases q1:s'∈rest
    ·rw [if_pos q1,if_pos (aj _ q1)]
    ·rw [if_neg q1];by_cases q2:s'=s
     ·rw [if_pos q2,if_pos (q2▸ai),q2]
     ·rw [if_neg q2,if_neg fun q=>(aP.mp q).elim q2 q1])
  refine ⟨fun m hm=>by rw [aq.mp hm];exact hs _ (aU hoS),?_⟩;refine aw hfl ?_;refine bP ((hs _ (aU hoF)).trans h.fo) rfl ?_;refine oJ (mA ((hs _ (aU hoG)).trans hge) hk.1 k6) ?_;by_cases hg:s∈gs
  ·rw [bh hg];refine aw hfo ?_;exact fin _ (BB ((h.fact_iff hgs).mpr hg)).symm
  ·rw [decide_eq_false hg];refine aw hfo ?_;exact fin _ (BA fun q=>hg ((h.fact_iff hgs).mp q)).symm
end
section
variable{M:cN}{L:FL}{S S' S'':Tabs}{T:V→Tabs}{nw nw' nw'':Bool}{ms:List V}{lo sums fo codes:Nat}{P:cU}
theorem aV.same(h:aV M L S nw σ)(k:∀n,Ad L S n→σ'[n]?=σ[n]?):aV M L S nw σ' :=
 have o:∀{n},n∈L.own→σ'[n]?=σ[n]?:=fun {n} q=>k n (bj.mpr (.inl q));have o1:L.held∈L.own:=aj _ ai;have o2:L.inside∈L.own:=aj _ (aj _ ai);have o3:L.summ∈L.own:=aj _ (aj _ (aj _ ai));have o4:L.told∈L.own:=aj _ (aj _ (aj _ (aj _ ai)))
 ⟨(o ai).trans h.fo,(o o3).trans h.so,h.hd.imp fun e q=>(o o1).trans q,h.ins.imp fun e q=>(o o2).trans q,h.td.imp fun e q=>(o o4).trans q,
  fun p hp=>(h.tb p hp).imp fun e q=>(k _ (qN hp)).trans q,h.ads,h.keys,h.nd,h.tbs,h.ok,h.atS,h.atG,h.atL,h.atK⟩
theorem FL.own_f:L.f∈L.own:=ai
theorem FL.own_told:L.told∈L.own:=aj _ (aj _ (aj _ (aj _ ai)))
theorem FL.own_summ:L.summ∈L.own:=aj _ (aj _ (aj _ ai))
theorem vJ(h:n∈L.own):Ad L S n:=bj.mpr (.inl h)
theorem gR.le{c:Nat}{B':Nat}(s:gR B σ c ls a b)(h:B≤B'):gR B' σ c ls a b:=by
 refine xw s.ex fun k rg bl blk li h1 h2 h3 h4 g=>?_;exact ⟨k,rg,bl,blk,li,al h1 h,al h2 h,al h3 h,al h4 h,g⟩
structure xA(G:V→Facts)(P:cU)(k:V)(F:Facts):Prop where
 base:∀tb v,F0 tb v→F tb v
 closed:∀tb v,fI G (P.ls k) (P.a k) (P.b k) F tb v→F tb v
 least:∀C:Facts,(∀tb v,F0 tb v→C tb v)→(∀tb v,fI G (P.ls k) (P.a k) (P.b k) C tb v→C tb v)→∀tb v,F tb v→C tb v
theorem DB{p q:Prop} [Decidable p] [Decidable q](h:p↔q){a b:α}:(if p then a else b)=if q then a else b:=by
 by_cases hp:p
 ·rw [if_pos hp,if_pos (h.mp hp)]
 ·rw [if_neg hp,if_neg fun e=>hp (h.mpr e)]
theorem mo(hk:k∈bw){m:Nat}{l:List (V×V)}{e:Nat}(h:σ[m]?=some (.dict l e))(h2:getD l k=some (.obj n)){Q:V→Prop}(q:Q (.obj n)):dh (kc σ (.obj m) k) Q:=pH h (lK hk).1 (lK hk).2 h2 q
theorem Ct(h:aV M L S nw σ)(hl:vD lo L S):j1 lo σ L.summ S.sumT :=
 ⟨h.sum,zI,ay (List.length_filter_le _ _) (ay (vn h) (by decide)),hl _ (vJ FL.own_summ),fun lk kp td q=>by
  rw [h.so] at q;cases q;exact hl _ (vJ FL.own_told),fun p hp=>hl _ (qN (cC.mp hp).1)⟩
theorem rE{l:List (V×V)}(h:k∈l.map (·.1)):(dw l k v).map (·.1)=l.map (·.1):=by rw [i5,nZ h]
theorem DL{l l':List (V×V)}(h:l'.map (·.1)=l.map (·.1)):l'.length=l.length:=by
 have:=congrArg List.length h
 rwa [aJ,aJ] at this
theorem Ai(ok:P.Ok)(hk:k∈bw)(x:qv B lo sums fo codes P σ T fl)(y:tI B lo sums fo σ)(hfl:fl.length≤500)(hc:loc "codes"=some (.obj codes))(hs:loc "summaries"=some (.obj sums))(hf:loc "found"=some (.obj fo))(hkk:loc "key"=some k)
  (hQ:∀loc' σ' fl' t F,bT ["flow","site"] loc loc'→qv B lo sums fo codes P σ' (upd T k t) fl'→tI B lo sums fo σ'→σ.length≤σ'.length→(∀n,n<σ.length→n≠sums→n≠fo→σ'[n]?=σ[n]?)→xA (G T) P k F→(∀tb v,iX tb=true→(t.fact tb v↔F tb v))→
   fl'.map (·.1)=bQ (fl.map (·.1)) (bQ [] (P.news k))→(∀s,getD fl' s=if s∈P.news k then some (mark F s) else getD fl s)→QQ .next loc' σ'):dW (aY ba (n+9)) ji loc σ QQ:=by
 refine xe x.cd.d fun ce hce=>?_;have hBl:B≤σ.length:=am (am y.h1 (cT y.h3)) y.h6;have cx:=(x.cd.c k hk).ex;refine eR cx fun ck rg bl blk li c1 c2 c3 c4 c5 c6 c7 c8=>?_;refine aw hc ?_;refine aw hkk ?_;refine mo hk hce (mv (f:=fun k=>V.obj (P.cA k)) (ok.mem.mpr hk)) ?_;refine aw hs ?_;refine yS (c:=P.cA k) (s:=sums) c5 rfl rfl ⟨rfl,?_⟩;have h0:=GT (σ:=σ) (P.univ ok k hk) (c:=P.cA k) (s:=sums);have hp:σ <+:σ++H0 σ (P.cA k) sums:=aD;refine bz h0.fo rfl ?_;refine oD (T:=T) (B:=σ.length) (ls:=P.ls k) (a:=P.a k) (b:=P.b k) h0 (ok.ls k hk) (ok.a k hk) (ok.b k hk) (((x.cd.c k hk).le hBl).same fun n hn=>au hn) (x.toSums.same fun n hn=>au hn) FO (bM hp) fun S' σ2 w hcl=>?_;have bel:∀n,n<σ.length→σ2[n]?=σ[n]?:=fun n hn=>(w.below FO (bM hp) n hn).trans (au hn);have lowS:=w.low FO (bM hp);refine ik x.sd fun l e g1 g2 g3 g4=>?_;have hsl:sums<σ.length:=al y.h3 y.h6;have hfl':fo<σ.length:=al y.h4 y.h6;have g1':σ2[sums]?=some (.dict l e):=(bel _ hsl).trans g1;have adN:∀{m n},m<σ.length→Ad (L0 σ (P.cA k) sums) S' n→m≠n:=fun {m n} h1 h2 e=>absurd (lowS n h2) (Nat.not_le.mpr (e▸h1));have h3:aV (P.univ ok k hk) (L0 σ (P.cA k) sums) S' false (σ2.set sums (fK l e k (.obj (L0 σ (P.cA k) sums).summ))):=w.fl.same fun m hm=>aM (adN hsl hm);refine xe w.fl.atS fun ss hss=>?_;refine xe (h3.tbl hss) fun se hse=>?_;refine xe w.fl.atG fun gg hgg=>?_;refine xe x.fd fun fe hfe=>?_;have hsnews:ss=bQ [] (P.news k):=w.sts [] ss ai hss;refine bP w.fl.fo rfl ?_;refine aw hs ?_;refine aw hkk ?_;refine gc g1' (lK hk).1 (lK hk).2 (ay g2 (by decide)) ?_;refine bP h3.fo rfl ?_;refine aw (eA hse) ?_;rw [hW];refine zX (fo:=fo) (L:=L0 σ (P.cA k) sums) (adN hfl' (qN hss)) (adN hfl' (vJ FL.own_f)) (adN hfl' (qN hgg)) hse h3 (fl:=fl) (fun z_ z_=>rfl) (fun s hs=>w.fl.ok _ hss s hs) (ay (Nat.add_le_add hfl (w.fl.ln hss)) (by decide)) rfl hf ⟨fe,(aM y.h5).trans ((bel _ hfl').trans hfe)⟩ fun loc' σ4 fl' ag same4 uF hfd4 hkeys hgets=>?_;have hz:σ.length≤σ4.length:=by rw [uF,bO];exact am (bM hp) w.le
 have at4:∀m,m<σ.length→m≠sums→m≠fo→σ4[m]?=σ[m]?:=fun m h1 h2 h3=>(same4 m h3).trans ((aM (aU h2)).trans (bel m h1));have lo4:∀m,lo≤m→m<σ.length→σ4[m]?=σ[m]?:=fun m h1 h2=>at4 m h2 (fun e=>absurd y.h3 (bS.mpr (e▸h1))) fun e=>absurd y.h4 (bS.mpr (e▸h1));have hkin:k∈l.map (·.1):=by rw [g3];exact ok.mem.mpr hk
 have flat:aV (P.univ ok k hk) (L0 σ (P.cA k) sums) S' false σ4:=h3.same fun m hm=>same4 m (aU (adN hfl' hm));refine hQ loc' σ4 fl' S'.sumT S'.fact ((bT.refl.set (x:="flow") (v:=.obj σ.length) (by decide)).trans fun z hz=>ag z fun q=>hz (by rw [aq.mp q];decide))
  ⟨x.cd.same fun m hm=>at4 m (al hm hBl) (fun e=>absurd y.h1 (Nat.not_le.mpr (e▸hm))) fun e=>absurd y.h2 (Nat.not_le.mpr (e▸hm)),⟨dw l k (.obj (L0 σ (P.cA k) sums).summ),_,(same4 _ y.h5).trans (bq g1'),(DL (rE hkin)).symm▸g2,(rE hkin).trans g3,fun k' hk'=>?_⟩,hfd4⟩
  (y.le hz) hz at4 ⟨fun tb v q=>w.mono tb v (EK▸q),hcl,fun C h1 h2=>w.lst C (fun tb v q=>h1 tb v (EK▸q)) h2⟩ (fun tb v=>yM) (hsnews▸hkeys) fun s=>?_
 ·rw [gO];delta upd;by_cases q:k'=k
  ·rw [if_pos q,if_pos q];exact ⟨_,rfl,Ct flat fun n hn=>am y.h6 (lowS n hn)⟩
  ·rw [if_neg q,if_neg q];exact (g4 k' hk').imp fun s q=>⟨q.1,q.2.same hz lo4⟩
 ·refine (hgets s).trans (DB ?_);rw [hsnews];exact eX.trans ⟨fun q=>q.elim (fun q=>(an q).elim) id,.inr⟩
end
section
variable{M:cN}{L:FL}{S S' S'':Tabs}{T T':V→Tabs}{nw nw' nw'':Bool}{ms:List V}{lo sums fo codes:Nat}{P:cU}
noncomputable def tE(G G':V→Facts):Prop:=∀k∈bw,∀tb v,iX tb=true→G k tb v→G' k tb v
theorem tE.refl{G:V→Facts}:tE G G:=fun z_ z_ z_ z_ z_=>id
theorem tE.trans{G G' G'':V→Facts}(x:tE G G')(y:tE G' G''):tE G G'':=fun k hk tb v ht q=>y k hk tb v ht (x k hk tb v ht q)
theorem f9.monoG{G G':Facts}{d1 d2:V}(h:∀tb v,iX tb=true→G tb v→G' tb v)(q:f9 G a b d1 d2 F tb v):f9 G' a b d1 d2 F tb v:=by
 refine Or.elim q (fun w=>bG w fun o q1 q2=>?_) (fun y=>Or.elim y (fun z=>cY z fun i o q1 q2=>?_) (fun u=>Or.elim u (fun t=>bG t fun x q1 q2=>?_) (fun s=>bG s fun x q1 q2=>?_)))
 ·exact .inl ⟨o,h _ _ rfl q1,q2⟩
 ·exact .inr (.inl ⟨i,o,h _ _ rfl q1,q2⟩)
 ·exact .inr (.inr (.inl ⟨x,h _ _ rfl q1,q2⟩))
 ·exact .inr (.inr (.inr ⟨x,h _ _ rfl q1,q2⟩))
theorem fI.monoG{G G':V→Facts}{ls:List Ln}{st:List V}{a b:V}(hl:∀x∈ls,x.ok st)(h:tE G G'){F:Facts}{tb:Tb}{v:V}(q:fI G ls a b F tb v):fI G' ls a b F tb v:=by
 refine Or.elim q (fun w=>bG w fun x hx q=>?_) (fun q=>?_)
 ·refine .inl ⟨x,hx,?_⟩;have hk:=hl x hx
  cases x with
  | call d1 d2 k a b=>exact f9.monoG (h k hk.2.2.1) q
  | _=>exact q
 ·exact .inr q
noncomputable def cv(P:cU)(C:V→Facts):Prop:=∀k∈bw,(∀tb v,F0 tb v→C k tb v)∧∀tb v,fI C (P.ls k) (P.a k) (P.b k) (C k) tb v→C k tb v
structure Fk(P:cU)(T:V→Tabs):Prop where
 only:∀k∈bw,ew (T k)
 pre:∀k∈bw,∀C:Facts,(∀tb v,F0 tb v→C tb v)→(∀tb v,fI (G T) (P.ls k) (P.a k) (P.b k) C tb v→C tb v)→∀tb v,(T k).fact tb v→C tb v
 bnd:∀C,cv P C→∀k∈bw,∀tb v,(T k).fact tb v→C k tb v
theorem ew.of{t:Tabs}(h:ew t)(q:t.fact tb v):iX tb=true:=let ⟨_,_,q,_⟩:=q;h _ q
theorem Fk.turn(ok:P.Ok)(x:Fk P T){t:Tabs}(hk:k∈bw)(ht:ew t)(r:xA (G T) P k F)(hf:∀tb v,iX tb=true→(t.fact tb v↔F tb v)):Fk P (upd T k t)∧tE (G T) (G (upd T k t))∧∀C,cv P C→∀tb v,F tb v→C k tb v:=by
 have le:tE (G T) (G (upd T k t)):=fun k' hk' tb v hs q=>by
  unfold G upd at *;by_cases e:k'=k
  ·rw [if_pos e];subst e;exact (hf tb v hs).mpr (x.pre k' hk F r.base r.closed tb v q)
  ·rw [if_neg e];exact q
 have bF:∀C,cv P C→∀tb v,F tb v→C k tb v:=fun C hC=>r.least (C k) (hC k hk).1 fun tb v q=>(hC k hk).2 tb v (fI.monoG (ok.ls k hk) (fun k' hk' tb v z_ q=>x.bnd C hC k' hk' tb v q) q);refine ⟨⟨fun k' hk'=>?_,fun k' hk' C h1 h2 tb v q=>?_,fun C hC k' hk' tb v q=>?_⟩,le,bF⟩
 ·delta upd;by_cases e:k'=k
  ·rw [if_pos e];exact ht
  ·rw [if_neg e];exact x.only k' hk'
 ·have h2':∀tb v,fI (G T) (P.ls k') (P.a k') (P.b k') C tb v→C tb v:=fun tb v q=>h2 tb v (fI.monoG (ok.ls k' hk') le q);unfold upd at q;by_cases e:k'=k
  ·rw [if_pos e] at q;subst e;exact r.least C h1 h2' tb v ((hf tb v (ht.of q)).mp q)
  ·rw [if_neg e] at q;exact x.pre k' hk' C h1 h2' tb v q
 ·unfold upd at q;by_cases e:k'=k
  ·rw [if_pos e] at q;subst e;exact bF C hC tb v ((hf tb v (ht.of q)).mp q)
  ·rw [if_neg e] at q;exact x.bnd C hC k' hk' tb v q
theorem qv.only(x:qv B lo sums fo codes P σ T fl):∀k∈bw,ew (T k):=fun k hk=>by
 refine ik x.sd fun l e z_ z_ z_ h4=>?_;refine bG (h4 k hk) fun s z_ q=>?_;exact q.only
noncomputable def Z(P:cU)(T:V→Tabs):Nat:=(P.ks.map fun k=>(T k).size).sum
theorem j1.small{s:Nat}{t:Tabs}(x:j1 lo σ s t):t.size≤600 :=
 am (u8 fun p hp=>x.at'.len hp) (Nat.mul_le_mul_right 6 (cT x.few))
theorem qv.sum(x:qv B lo sums fo codes P σ T fl)(hk:k∈bw){G:Prop}(g:∀l e s,σ[sums]?=some (.dict l e)→getD l k=some (.obj s)→j1 lo σ s (T k)→G):G :=
 let ⟨l,e,h1,_,_,h4⟩:=x.sd;let ⟨s,h5,h6⟩:=h4 k hk;g l e s h1 h5 h6
theorem w9{K:List V→Hp→Prop}(y:tI B lo sums fo σ)(x:qv B lo sums fo codes P σ T fl)(hs:cw ["key"] loc "summaries"=some (.obj sums))(hg:∀σ',σ <+:σ'→gd σ'){rest:List V}(hx:∀k∈rest,k∈bw)(hl:rest.length<1000)(hk:∀σ',σ <+:σ'→K (rest.map fun k=>V.int (T k).size) σ') :
  dL gd (.name "key") (cw ["key"] loc) (eW (iK (aY ba (n+1)) gI) (ev (aY ba (n+1)) gH)) 0 rest [] σ K:=by
 have:=t3 (C:=aY ba (n+1)) (loc:=loc) (ns:=["key"]) (K:=K) (t:="key") (elt:=gH) (σ:=σ) id (fun k=>V.int (T k).size) (tl:=gI) rfl hg (ps:=rest) (fun k hkr σ' Q p hq=>by
  refine (x.ext y p).sum (hx k hkr) fun l e s h1 h5 h6=>?_;refine aw hs ?_;refine mo (hx k hkr) h1 h5 ?_;exact zY h6.at' h6.only h6.few hq) (acc:=[]) (aB _) (by rw [List.length_nil,Nat.zero_add];exact hl) hk
 rw [List.map_id] at this;exact this
end
section
variable{M:cN}{L:FL}{S S' S'':Tabs}{T T' T0:V→Tabs}{nw nw' nw'':Bool}{ms:List V}{lo sums fo codes:Nat}{P:cU}{fl0:List (V×V)}
theorem qv.wf(x:qv B lo sums fo codes P σ T fl):∀k∈bw,((T k).map (·.1)).Nodup∧(∀p∈T k,p.2.2.Nodup)∧ew (T k)∧(T k).size≤600:=fun k hk=>by
 refine ik x.sd fun l e z_ z_ z_ h4=>?_;refine bG (h4 k hk) fun s z_ q=>?_;exact ⟨q.at'.keys,q.at'.nd,q.only,q.small⟩
theorem tm{f g:V→Nat}:∀{ks:List V},(∀k∈ks,f k≤g k)→(ks.map f).sum≤(ks.map g).sum
 | [],_=>ax _
 | k::r,h=>by
  have h1:=h k ai;have h2:=tm (ks:=r) fun k hk=>h k (aj _ hk);simp only [List.map_cons,List.sum_cons];omega
theorem Cs{f g:V→Nat}:∀{ks:List V},(∀k∈ks,f k≤g k)→(ks.map g).sum≤(ks.map f).sum→∀k∈ks,g k≤f k
 | [],_,_,k,hk=>by cases hk
 | k::r,h,hs,k',hk'=>by
  have h1:=h k ai;have h2:=tm (ks:=r) fun k hk=>h k (aj _ hk);simp only [List.map_cons,List.sum_cons] at hs;rcases aP.mp hk' with rfl | hk'
  ·omega
  ·exact Cs (ks:=r) (fun k hk=>h k (aj _ hk)) (by omega) k' hk'
theorem uD(h:tE (G T0) (G T))(ho:∀k∈bw,ew (T0 k)):∀k∈bw,∀tb v,(T0 k).fact tb v→(T k).fact tb v:=fun k hk tb v q=>h k hk tb v ((ho k hk).of q) q
theorem vm{f:V→Nat}:∀{ks:List V},(List.map V.toInt (ks.map fun k=>V.int (f k))).sum=(((ks.map f).sum:Nat):Int)
 | []=>rfl
 | k::r=>by
  show (f k:Int)+(List.map V.toInt (r.map fun k=>V.int (f k))).sum=((f k+(r.map f).sum:Nat):Int);rw [vm (ks:=r)];rfl
theorem A8{x:String}(h:x≠"key")(h2:x≠".0"):cw ["key"] loc x=loc x:=if_neg fun q=>q.elim (fun q=>h (aq.mp q)) h2
theorem sv:(P.ks.map fun k=>(k,V.obj (P.cA k))).map (·.1)=P.ks:=by rw [List.map_map];exact List.map_id _
theorem rZ{t:Mine.T}{r:List Mine.S}{QQ:KS}(h:ev C e loc σ (wi C t (zb (dW C r) QQ) loc)):dW C (.assign t e::r) loc σ QQ:=h
theorem qq{K:K1}(ok:P.Ok)(y:tI B lo sums fo σ)(x:qv B lo sums fo codes P σ T fl)(hc:loc "codes"=some (.obj codes))(hs:loc "summaries"=some (.obj sums))(hK:∀σ',σ <+:σ'→K (.int (Z P T)) σ') :
  ev (aY ba (n+1)) (.prim .sum [.comp gH (.name "key") .over [.var "codes"] gI]) loc σ K:=by
 refine xe x.cd.d fun e he=>?_;refine aw hc ?_;refine aw (eA he) ?_;rw [sv];refine w9 (n:=n) y x ((A8 (by decide) (by decide)).trans hs) (fun σ' p=>Cq he (bU p he)) (fun k hk=>ok.mem.mp hk) (by rw [ok.len];decide) fun σ' p=>?_;refine Cu aI (by rw [aJ,ok.len];decide) (fun v hv=>?_) ?_
 ·refine bG (List.mem_map.mp hv) fun k hk q=>?_;subst q;exact xT (am (x.wf k (ok.mem.mp hk)).2.2.2 (by decide))
 ·rw [vm];exact hK _ (p.trans aD)
structure Fo(P:cU)(T0 T:V→Tabs)(fl:List (V×V))(k:V):Prop where
 ex:∃Tm F,tE (G T0) (G Tm)∧tE (G Tm) (G T)∧xA (G Tm) P k F∧(∀tb v,iX tb=true→((T k).fact tb v↔F tb v))∧(∀s∈P.news k,getD fl s=some (mark F s))∧∀C,cv P C→∀tb v,F tb v→C k tb v
noncomputable def cU.full(P:cU)(ord:List V):List V:=ord.flatMap fun k=>bQ [] (P.news k)
noncomputable def AY(P:cU)(fl:List (V×V)):Prop:=(fl.map (·.1)).Nodup∧∀s∈fl.map (·.1),s∈bw.flatMap P.news
theorem AY.len(ok:P.Ok)(h:AY P fl):fl.length≤60:=by
 have h1:=cM h.1 h.2;have h2:(bw.flatMap P.news).length≤60:=by
  have a:=ok.few (.str "f") ai;have b:=ok.few (.str "g") (aj _ ai);have c:=ok.few (.str "h") (aj _ (aj _ ai));simp only [bw,List.flatMap_cons,List.flatMap_nil,bn,aO];exact Nat.add_le_add a (Nat.add_le_add b c)
 rw [aJ] at h1;exact am h1 h2
theorem ug{a b:List V}:P.full (a++b)=P.full a++P.full b:=List.flatMap_append ..
theorem A0:P.full [k]=bQ [] (P.news k):=bn _
theorem Fo.le(r:Fo P T0 T fl k)(h:tE (G T) (G T'))(e:T' k=T k){fl':List (V×V)}(hf:∀s∈P.news k,getD fl' s=getD fl s):Fo P T0 T' fl' k:=by
 refine gw r.ex fun Tm F h1 h2 h3 h4 h5 h6=>?_;exact ⟨Tm,F,h1,h2.trans h,h3,fun tb v hs=>by rw [e];exact h4 tb v hs,fun s hs=>(hf s hs).trans (h5 s hs),h6⟩
theorem xh{l:Nat}(ok:P.Ok)(hlo:lo≤l)(hl:l<σ₀.length){rest:List V}:∀{done:List V} {T:V→Tabs} {fl:List (V×V)} {loc:Loc} {σ:Hp},(done++rest).Nodup→(∀k∈done++rest,k∈bw)→qv B lo sums fo codes P σ T fl→tI B lo sums fo σ→Fk P T→tE (G T0) (G T)→AY P fl→
  fl.map (·.1)=bQ (fl0.map (·.1)) (P.full done)→(∀k∈done,Fo P T0 T fl k)→loc "codes"=some (.obj codes)→loc "summaries"=some (.obj sums)→loc "found"=some (.obj fo)→σ₀.length≤σ.length→(∀n,n<σ₀.length→n≠sums→n≠fo→σ[n]?=σ₀[n]?)→
  (∀loc' σ' T' fl',bT ["key","flow","site"] loc loc'→qv B lo sums fo codes P σ' T' fl'→tI B lo sums fo σ'→Fk P T'→tE (G T0) (G T')→AY P fl'→fl'.map (·.1)=bQ (fl0.map (·.1)) (P.full (done++rest))→(∀k∈done++rest,Fo P T0 T' fl' k)→σ₀.length≤σ'.length→(∀n,n<σ₀.length→n≠sums→n≠fo→σ'[n]?=σ₀[n]?)→QQ .next loc' σ')→
  eV (bV [l] σ₀) (.name "key") (dW (aY ba (n+9)) ji) rest loc σ QQ:=by
 have sd:∀{σ:Hp},tI B lo sums fo σ→(∀n,n<σ₀.length→n≠sums→n≠fo→σ[n]?=σ₀[n]?)→bV [l] σ₀ σ:=fun y keep m q=>by
  rw [aq.mp q];exact keep _ hl (fun e=>absurd y.h3 (bS.mpr (e▸hlo))) fun e=>absurd y.h4 (bS.mpr (e▸hlo))
 induction rest with
 | nil =>
  intro done T fl loc σ nd hm x y iv le fk hk hr hc hs hf hz keep hQ;rw [bn] at hQ;exact ⟨sd y keep,hQ loc σ T fl .refl x y iv le fk hk hr hz keep⟩
 | cons k rest ih =>
  intro done T fl loc σ nd hm x y iv le fk hk hr hc hs hf hz keep hQ;refine ⟨sd y keep,?_⟩;have hkk:k∈bw:=hm k (bj.mpr (.inr ai));have ag1:bT ["key","flow","site"] loc (setL loc "key" k):=bT.refl.set ai;have knd:k∉done:=fun q=>(cu.mp nd).2.2 k q k ai rfl;refine Ai ok hkk x y (am (fk.len ok) (by decide)) hc hs hf rfl fun loc' σ' fl' t F ag x' y' hz' keep' r ht hkeys hget=>?_;have ut:upd T k t k=t:=if_pos rfl;have tr:=iv.turn ok hkk (ut▸x'.only k hkk) r ht;rw [List.append_cons] at nd hm hQ;have ag2:bT ["key","flow","site"] loc loc':=ag1.trans fun z hz=>ag z fun q=>hz (aj _ q);refine ih nd hm x' y' tr.1 (le.trans tr.2.1) ⟨hkeys▸mG fk.1,fun s hs=>?_⟩ (by rw [hkeys,hk,ug,A0,eI]) (fun k' hk'=>?_) (ag2.at (by decide) hc) (ag2.at (by decide) hs) (ag2.at (by decide) hf) (am hz hz') (fun m h1 h2 h3=>(keep' m (al h1 hz) h2 h3).trans (keep m h1 h2 h3)) fun loc'' σ'' T' fl'' ag'=>hQ loc'' σ'' T' fl'' (ag2.trans ag')
  ·rw [hkeys] at hs;exact (eX.mp hs).elim (fk.2 s) fun q=>(eX.mp q).elim (fun q=>(an q).elim) fun q=>List.mem_flatMap.mpr ⟨k,hkk,q⟩
  ·rcases b9.mp hk' with q | rfl
   ·have hne:k'≠k:=fun e=>knd (e▸q);exact (hr k' q).le tr.2.1 (if_neg hne) fun s hs=>(hget s).trans (if_neg (ok.disj k' (hm k' (bj.mpr (.inl (bj.mpr (.inl q))))) k hkk hne s hs))
   ·exact ⟨T,F,le,tr.2.1,r,fun tb v hs=>by rw [ut];exact ht tb v hs,fun s hs=>(hget s).trans (if_pos hs),tr.2.2⟩
end
section
variable{M:cN}{L:FL}{S S' S'':Tabs}{T T' T0:V→Tabs}{nw nw' nw'':Bool}{ms:List V}{lo sums fo codes:Nat}{P:cU}{fl0:List (V×V)}
noncomputable def tj(a:Nat):Tabs:=[(.leaks,a+1,[]),(.kept,a+2,[])]
theorem qz{p:α→Prop}{a b:α}(h1:p a)(h2:p b):∀x∈[a,b],p x:=bW.mpr ⟨h1,bW.mpr ⟨h2,fun z_ q=>(an q).elim⟩⟩
theorem Ae{a:Nat}(hlo:lo≤a)(h0:σ[a]?=some (.inst "Summary" [("leaks",.obj (a+1)),("kept",.obj (a+2)),("told",.obj (a+3))]))(h1:σ[a+1]?=some (.dict [] 0))(h2:σ[a+2]?=some (.dict [] 0))(h3:σ[a+3]?=some (.dict [] 0)):j1 lo σ a (tj a):=by
 have no:∀{x:V} {l:List V},x∈([]:List V)→x∈l:=fun q=>(an q).elim;refine ⟨⟨⟨_,_,_,h0,a0 h0,a0 h3,⟨0,h3⟩,⟨[],ai⟩,⟨[],aj _ ai⟩⟩,qz ⟨a0 h1,0,h1⟩ ⟨a0 h2,0,h2⟩,List.Pairwise.of_map Tb.num (fun a b h e=>h (congrArg Tb.num e)) (by decide:[2,3].Nodup),qz List.nodup_nil List.nodup_nil,qz (fun z_=>no) fun z_=>no⟩,
  qz rfl rfl,ae,hlo,fun lk kp td q=>?_,qz (bD hlo) (bD (bD hlo))⟩
 rw [h0] at q;cases q;exact am hlo (aW _ _)
theorem vh{a:Nat}:¬(tj a).fact tb v:=fun q=>cY q fun b ts h1 h2 =>
 (show ∀p∈tj a,v∉p.2.2 from qz an an) _ h1 h2
noncomputable abbrev BI(a:Nat):Hp:=[.inst "Summary" [("leaks",.obj (a+1)),("kept",.obj (a+2)),("told",.obj (a+3))],.dict [] 0,.dict [] 0,.dict [] 0]
theorem yV(hcB:codes<B)(hB:B≤sums)(h3:sums<lo)(h4:fo<lo)(h5:sums≠fo){rest:List V}:∀{done:List V} {T:V→Tabs} {loc:Loc} {σ:Hp},(done++rest).Nodup→(∀k∈done++rest,k∈bw)→(done++rest).length=3→lo≤σ.length→(∀n,n<B→σ[n]?=σ₀[n]?)→
  (∃l e,σ[sums]?=some (.dict l e)∧l.map (·.1)=done∧∀k∈done,∃s,getD l k=some (.obj s)∧j1 lo σ s (T k))→(∀k tb v,¬(T k).fact tb v)→(∃e,σ[fo]?=some (.dict [] e))→loc "summaries"=some (.obj sums)→
  (∀loc' σ' (T':V→Tabs),bT ["key"] loc loc'→lo≤σ'.length→(∀n,n<B→σ'[n]?=σ₀[n]?)→(∃l e,σ'[sums]?=some (.dict l e)∧l.map (·.1)=done++rest∧∀k∈done++rest,∃s,getD l k=some (.obj s)∧j1 lo σ' s (T' k))→(∀k tb v,¬(T' k).fact tb v)→(∃e,σ'[fo]?=some (.dict [] e))→QQ .next loc' σ')→
  eV (bV [codes] σ₀) (.name "key") (dW (aY ba (n+1)) ma) rest loc σ QQ:=by
 induction rest with
 | nil =>
  intro done T loc σ nd hm h3' hz keep hs hT hf hl hQ;rw [bn] at hQ;exact ⟨fun m q=>by rw [aq.mp q];exact keep _ hcB,hQ loc σ T .refl hz keep hs hT hf⟩
 | cons k rest ih =>
  intro done T loc σ nd hm h3' hz keep hs hT hf hl hQ;refine ⟨fun m q=>by rw [aq.mp q];exact keep _ hcB,?_⟩;have hkk:=hm k (bj.mpr (.inr ai));refine cS hs fun l e g1 g2 g3=>?_;have knd:k∉done:=fun q=>(cu.mp nd).2.2 k q k ai rfl;have hll:l.length≤3:=by
   rw [←aJ (as:=l) (·.1),g2,←h3',aO];exact aW _ _
  have hsl:=a0 g1;have old:∀m,m<σ.length→m≠sums→((σ++BI σ.length).set sums (fK l e k (.obj σ.length)))[m]?=σ[m]?:=fun m h1 h2=>(aM (aU h2)).trans (au h1);have hget:getD l k=none:=by
   cases q:getD l k with
   | none=>rfl
   | some v =>
    refine bG (ez q) fun i z_ h2=>?_;exact absurd (g2▸bH.mpr ⟨_,List.mem_of_getElem? h2,rfl⟩) knd
  have at1:((σ++BI σ.length).set sums (fK l e k (.obj σ.length)))[sums]?=some (fK l e k (.obj σ.length)):=bq (aT g1);have atN:∀i,((σ++BI σ.length).set sums (fK l e k (.obj σ.length)))[σ.length+i]?=(BI σ.length)[i]?:=fun i=>(aM (aN (al hsl (aW _ _)))).trans cJ;have hz':σ.length≤((σ++BI σ.length).set sums (fK l e k (.obj σ.length))).length:=by rw [bO];exact bM aD
  have new:=Ae (lo:=lo) hz (atN 0) (atN 1) (atN 2) (atN 3);rw [List.append_cons] at nd hm h3' hQ;refine vj ⟨rfl,?_⟩;refine aw hl ?_;refine gc (aT g1) (lK hkk).1 (lK hkk).2 (ay hll (by decide)) ?_;refine ih (T:=upd T k (tj σ.length)) nd hm h3' (am hz hz') (fun m hm=>(old m (al hm (am (am hB (cT h3)) hz)) (fun e=>absurd hB (Nat.not_le.mpr (e▸hm)))).trans (keep m hm)) ⟨_,_,at1,by rw [kx hget,List.map_append,g2];rfl,fun k' hk'=>?_⟩ (fun k' tb v=>?_) (hf.imp fun e' q=>(old _ (al h4 hz) (aU h5)).trans q) hl fun loc' σ' T' ag'=>hQ loc' σ' T' ((bT.refl.set ai).trans ag')
  ·rw [gO];delta upd;by_cases q:k'=k
   ·rw [if_pos q,if_pos q];exact ⟨_,rfl,new⟩
   ·rw [if_neg q,if_neg q];exact (g3 k' ((b9.mp hk').elim id fun q'=>absurd q' q)).imp fun s q=>⟨q.1,q.2.same hz' fun m h1 h2=>old m h2 fun e=>absurd h3 (bS.mpr (e▸h1))⟩
  ·delta upd;by_cases q:k'=k
   ·rw [if_pos q];exact vh
   ·rw [if_neg q];exact hT k' tb v
theorem Bo:bw.all Hw=true:=rfl
theorem qC{ks:List V}(h:ks.Perm bw):cF ks=true:=by
 delta cF;rw [h.length_eq,vM (fun v hv=>h.mem_iff.mp hv) Bo,Bool.or_true];rfl
noncomputable def Fa:V→String | .str s=>s | _=>""
theorem pJ:bw.Nodup:=List.Pairwise.of_map (S:=(·≠·)) Fa (fun a b h e=>h (congrArg Fa e)) (by decide:["f","g","h"].Nodup)
theorem wn{T0 T:V→Tabs}(ok:P.Ok)(wf0:∀k∈bw,((T0 k).map (·.1)).Nodup∧(∀p∈T0 k,p.2.2.Nodup)∧ew (T0 k))(le:tE (G T0) (G T))(hZ:Z P T≤Z P T0)(res:∀k∈bw,Fo P T0 T fl k) :
  ∃F:V→Facts,cv P F∧(∀C,cv P C→∀k∈bw,∀tb v,F k tb v→C k tb v)∧∀k∈bw,∀s∈P.news k,getD fl s=some (mark (F k) s):=by
 have le':=uD le fun k hk=>(wf0 k hk).2.2;have feq:∀k∈bw,(T k).fact=(T0 k).fact:=fun k hk=>oB (wf0 k hk).1 (wf0 k hk).2.1 (le' k hk) (Cs (f:=fun k=>(T0 k).size) (g:=fun k=>(T k).size) (ks:=P.ks) (fun k hk=>rK (wf0 k (ok.mem.mp hk)).1 (wf0 k (ok.mem.mp hk)).2.1 (le' k (ok.mem.mp hk))) hZ k (ok.mem.mpr hk));have back:tE (G T) (G T0):=fun k hk tb v z_ q=>by show (T0 k).fact tb v;rw [←feq k hk];exact q
 have:∀k,∃F,k∈bw→xA (G T) P k F∧(∀tb v,iX tb=true→((T k).fact tb v↔F tb v))∧(∀s∈P.news k,getD fl s=some (mark F s))∧∀C,cv P C→∀tb v,F tb v→C k tb v:=fun k=>by
  by_cases hk:k∈bw
  ·refine gw ((res k hk).ex) fun Tm F h1 h2 h3 h4 h5 h6=>?_;exact ⟨F,fun z_=>⟨⟨h3.base,fun tb v q=>h3.closed tb v (fI.monoG (ok.ls k hk) (back.trans h1) q),fun C c1 c2=>h3.least C c1 fun tb v q=>c2 tb v (fI.monoG (ok.ls k hk) h2 q)⟩,h4,h5,h6⟩⟩
  ·exact ⟨fun z_ z_=>False,fun h=>absurd h hk⟩
 have hF:=fun k=>Classical.choose_spec (this k);exact ⟨fun k=>Classical.choose (this k),fun k hk=>⟨(hF k hk).1.base,fun tb v q=>(hF k hk).1.closed tb v (fI.monoG (ok.ls k hk) (fun k' hk' tb v hs q=>((hF k' hk').2.1 tb v hs).mpr q) q)⟩,fun C hC k hk=>(hF k hk).2.2.2 C hC,fun k hk=>(hF k hk).2.2.1⟩
structure GC(P:cU)(T:V→Tabs)(fl:List (V×V))(ah:Int):Prop where
 last:(ah= -1∧fl=[])∨∃T0,(∀k∈bw,((T0 k).map (·.1)).Nodup∧(∀p∈T0 k,p.2.2.Nodup)∧ew (T0 k))∧ah=Z P T0∧tE (G T0) (G T)∧fl.map (·.1)=bQ [] (P.full (cz P.ks))∧∀k∈bw,Fo P T0 T fl k
theorem BH{a b:Int}{r:Bool}{Q:Bool→Prop}(h:decide (a=b)=r)(q:Q (!r)):dh (ml .ne σ (.int a) (.int b)) Q:=aw (a:= !r) (by rw [←h];rfl) q
theorem C0{f:V→Nat}(ok:P.Ok)(h:∀k∈bw,f k≤600):(P.ks.map f).sum≤1800:=by
 refine am (tm (g:=fun z_=>600) fun k hk=>h k (ok.mem.mp hk)) ?_;rw [List.map_const',ok.len];exact ae
theorem r8{sums:Nat}{QQ:KS}(ok:P.Ok)(hsl:σ.length=sums){m:Nat}:∀{T:V→Tabs} {fl:List (V×V)} {loc:Loc} {σ2:Hp} {ah:Int},qv σ.length (sums+2) sums (sums+1) codes P σ2 T fl→tI σ.length (sums+2) sums (sums+1) σ2→(∀m,m<σ.length→σ2[m]?=σ[m]?)→Fk P T→AY P fl→
   loc "codes"=some (.obj codes)→loc "summaries"=some (.obj sums)→loc "found"=some (.obj (sums+1))→loc "ahead"=some (.int ah)→GC P T fl ah→
   2*(1801-Z P T)+(if ah=Z P T then 0 else 1)<m→
   (∀loc' σ' fl e (F:V→Facts),loc' "found"=some (.obj (sums+1))→σ.length≤σ'.length→(∀m,m<σ.length→σ'[m]?=σ[m]?)→σ'[sums+1]?=some (.dict fl e)→fl.map (·.1)=bQ [] (P.full (cz P.ks))→cv P F→(∀C,cv P C→∀k∈bw,∀tb v,F k tb v→C k tb v)→(∀k∈bw,∀s∈P.news k,getD fl s=some (mark (F k) s))→QQ .next loc' σ')→
   jL (tF (aY ba (n+9)) md) (dW (aY ba (n+9)) mc) m loc σ2 QQ:=by
 induction m with
 | zero=>intro T fl loc σ2 ah _ _ _ _ _ _ _ _ _ _ hm;exact absurd hm (Nat.not_lt_zero _)
 | succ m ih =>
  intro T fl loc σ2 ah x y keep iv fk hc hs hf ha last hm hQ;have below:∀{σ3 σ4:Hp},tI σ.length (sums+2) sums (sums+1) σ3→(∀m,m<σ.length→σ3[m]?=σ[m]?)→σ3 <+:σ4→∀m,m<σ.length→σ4[m]?=σ[m]?:=fun y k p m hm=>by
   refine xe p fun τ w=>?_;subst w;exact (au (al hm (am y.h1 (am (cT y.h3) y.h6)))).trans (k m hm)
  refine aw ha ?_;dsimp only [GX,k2];refine qq (n:=n+8) ok y x hc hs fun σ3 p3=>?_;have x3:=x.ext y p3;have y3:tI σ.length (sums+2) sums (sums+1) σ3:=y.le (bM p3);have keep3:=below y keep p3;have wfT:=x.wf;by_cases q:ah=Z P T
  ·refine BH (bh q) ?_;refine Or.elim last.last (fun z=>xa z fun e1 z_=>?_) (fun u=>Fd u fun T0 wf0 hah le t=>xa t fun hk res=>?_)
   ·exact absurd (e1.symm.trans q) Hh
   refine f7 (wn ok wf0 le (Nat.le_of_eq (Int.ofNat.inj (q.symm.trans hah))) res) fun F f1 f2 f3=>?_;refine xe x3.fd fun fe hfe=>?_;exact hQ loc σ3 fl fe F hf (am y3.h1 (am (cT y3.h3) y3.h6)) keep3 hfe hk f1 f2 f3
  ·refine BH (decide_eq_false q) ?_;dsimp only [kB,Ik,Bool.not_false];refine rZ ?_;refine qq (n:=n+8) ok y3 x3 hc hs fun σ4 p4=>?_;have x4:=x3.ext y3 p4;have y4:tI σ.length (sums+2) sums (sums+1) σ4:=y3.le (bM p4);have keep4:=below y3 keep3 p4;refine xe x4.cd.d fun ce4 hce4=>?_;have sp:=lP P.ks;refine aw hc ?_;refine je (l:=P.ks) ((sC hce4).trans (congrArg some sv)) (qC ok.perm) ?_;refine aw (ch aI) ?_;refine xh (n:=n) (T0:=T) (fl0:=fl) (done:=[]) ok y4.h6 (a0 aI) (sp.nodup_iff.mpr (ok.perm.nodup_iff.mpr pJ)) (fun k hk=>ok.mem.mp (sp.mem_iff.mp hk)) (x4.ext y4 aD) (y4.le (bM aD)) iv .refl fk rfl (fun k hk=>(an hk).elim) hc hs hf (ax _) (fun z_ z_ z_ z_=>rfl) fun loc' σ5 T' fl' ag5 x5 y5 iv5 le5 fk5 hk5 res5 hz5 keep5=>?_;have hkeys:fl'.map (·.1)=bQ [] (P.full (cz P.ks)):=by
    rw [hk5];rcases last.last with ⟨_,rfl⟩ | ⟨T0,_,_,_,hk,_⟩
    ·rfl
    ·rw [hk];exact me
   have hZm:Z P T≤Z P T':=tm (ks:=P.ks) fun k hk=>rK (wfT k (ok.mem.mp hk)).1 (wfT k (ok.mem.mp hk)).2.1 (uD le5 (fun k hk=>(wfT k hk).2.2.1) k (ok.mem.mp hk));have hZb:Z P T'≤1800:=C0 ok fun k hk=>(x5.wf k hk).2.2.2;rw [if_neg q] at hm;have hm':2*(1801-Z P T')+(if (Z P T:Int)=Z P T' then 0 else 1)<m:=lz hm hZm hZb;have s4:σ.length<σ4.length:=ay y4.h1 (al y4.h3 y4.h6);refine ih x5 y5 (fun m hm=>(keep5 m (al (bf hm s4) (bM aD)) (fun e=>Hc hsl hm e) (fun e=>HZ hsl hm e)).trans ((au (bf hm s4)).trans (keep4 m hm))) iv5 fk5 (ag5.at (by decide) hc) (ag5.at (by decide) hs) (ag5.at (by decide) hf) (ag5.at (by decide) rfl) ⟨.inr ⟨T,fun k hk=>⟨(wfT k hk).1,(wfT k hk).2.1,(wfT k hk).2.2.1⟩,rfl,le5,hkeys,fun k hk=>res5 k (sp.mem_iff.mpr (ok.mem.mpr hk))⟩⟩ hm' hQ
theorem mq(ok:P.Ok)(cd:fw σ.length σ codes P)
  (hQ:∀fo σ' fl e (F:V→Facts),σ.length≤σ'.length→(∀m,m<σ.length→σ'[m]?=σ[m]?)→σ.length≤fo→σ'[fo]?=some (.dict fl e)→fl.map (·.1)=bQ [] (P.full (cz P.ks))→cv P F→(∀C,cv P C→∀k∈bw,∀tb v,F k tb v→C k tb v)→(∀k∈bw,∀s∈P.news k,getD fl s=some (mark (F k) s))→Q (.obj fo) σ') :
  aY ba (n+10) ("","escapes") [.obj codes] σ Q:=by
 refine xe cd.d fun ce hce=>?_;have hle:(σ++[fD [] [] 0]).length=σ.length+1:=dg;refine bs (d:=qM) rfl ae ae ?_;refine ⟨fun p hp=>er hp,ae,?_⟩;refine ⟨fun p hp=>er hp,ae,?_⟩;refine aw (eA (aT (aT hce))) ?_;rw [sv,hle];refine yV (n:=n+8) (B:=σ.length) (lo:=σ.length+2) (sums:=σ.length) (fo:=σ.length+1) (done:=[]) (T:=fun z_=>[]) cd.lt (ax _) (Nat.lt_add_of_pos_right (by decide)) (bY _) (aN (bY _)) (ok.perm.nodup_iff.mpr pJ) (fun k hk=>ok.mem.mp hk) ok.len (by rw [aR,dg];exact ax _) (fun z_ z_=>rfl) ⟨[],0,by rw [aR];exact hS,rfl,fun k hk=>(an hk).elim⟩ (fun k tb v w=>cY w fun z_ z_ h z_=>(an h).elim) ⟨0,by rw [←hle];exact aI⟩ rfl fun loc1 σ1 T1 ag1 hz1 keep1 hsd1 hT1 hfd1=>?_;have keep1':∀m,m<σ.length→σ1[m]?=σ[m]?:=fun m hm=>(keep1 m hm).trans (by rw [aR,au hm]);refine cS hsd1 fun l1 le1 p1 p2 p3=>?_;have y1:tI σ.length (σ.length+2) σ.length (σ.length+1) σ1:=⟨ax _,Nat.le_succ _,Nat.lt_add_of_pos_right (by decide),bY _,aN (bY _),hz1⟩
 have x1:qv σ.length (σ.length+2) σ.length (σ.length+1) codes P σ1 T1 []:=⟨cd.same keep1',⟨l1,le1,p1,by rw [←aJ (as:=l1) (·.1),p2];exact Nat.le_of_eq ok.len,p2,fun k hk=>p3 k (ok.mem.mpr hk)⟩,hfd1⟩
 have iv1:Fk P T1:=⟨x1.only,fun k hk C z_ z_ tb v q=>absurd q (hT1 k tb v),fun C z_ k hk tb v q=>absurd q (hT1 k tb v)⟩
 refine ⟨5000,?_⟩;refine r8 (n:=n) (ah:= -1) ok rfl x1 y1 keep1' iv1 ⟨List.nodup_nil,fun s hs=>(an hs).elim⟩ (ag1.at (by decide) rfl) (ag1.at (by decide) rfl) (ag1.at (by decide) rfl) (ag1.at (by decide) rfl) ⟨.inl ⟨rfl,rfl⟩⟩ ?_ fun loc' σ' fl e F h1 h2 h3 h4 h5 h6 h7 h8=>?_
 ·split<;>exact ay (bL (Nat.mul_le_mul_left 2 (Nat.sub_le 1801 _)) _) (by decide)
 ·refine aw h1 ?_;exact hQ _ σ' fl e F h2 h3 (Nat.le_succ _) h4 h5 h6 h7 h8
end
section
noncomputable abbrev SetI:=Int→Prop
noncomputable def ef:V→SetI
 | .int n=>fun o=>o=n
 | .tup l=>fun o=>V.int o∈l
 | _=>fun z_=>False
noncomputable def cont(H:List (V×V))(o p:Int):Prop:=∃v,getD H (.int o)=some v∧ef v p
noncomputable def tD(G0:SetI)(m0:Int)(G:SetI):Prop:=(∀o,G0 o→G o)∧∀o,G o→G0 o∨m0<o
theorem tD.refl{G0:SetI}{m0:Int}:tD G0 m0 G0:=⟨fun z_=>id,fun z_=>.inl⟩
theorem tD.trans{G0 G G':SetI}{m0 m:Int}(x:tD G0 m0 G)(y:tD G m G')(h:m0≤m):tD G0 m0 G' :=
 ⟨fun o q=>y.1 o (x.1 o q),fun o q=>(y.2 o q).elim (x.2 o) fun q=>.inr (Int.lt_of_le_of_lt h q)⟩
structure Cx(O:V→SetI→SetI)(Own:SetI)(cap:Int→SetI→SetI)(F:Facts)(G0:SetI)(m0:Int):Prop where
 neg:∀G o,O (.int (-1)) G o↔G o
 monoO:∀x G G',(∀o,G o→G' o)→∀o,O x G o→O x G' o
 monoC:∀x G G',(∀o,G o→G' o)→∀o,cap x G o→cap x G' o
 sub:∀G,tD G0 m0 G→∀x o,O x G o→G o∨Own o
 capsub:∀G,tD G0 m0 G→∀o,Own o→∀p,cap o G p→G p∨Own p
 disj:∀o,Own o→¬G0 o∧o≤m0
 cl1:∀G,tD G0 m0 G→∀x o p,O x G o→Own o→cap o G p→O x G p
 cl2:∀G,tD G0 m0 G→∀x o,O x G o→G o→∀p,G p→O x G p
 lk:∀G,tD G0 m0 G→∀x,F .leaks x→∀o,O x G o→G o
 kp:∀G,tD G0 m0 G→∀x i,F .kept (.tup [x,i])→∀o,O i G o→(G o→∀p,O x G p→G p)∧(Own o→∀p,O x G p→cap o G p)
theorem Cx.notG{O:V→SetI→SetI}{Own:SetI}{cap:Int→SetI→SetI}{G0 G:SetI}{m0:Int}(c:Cx O Own cap F G0 m0)(e:tD G0 m0 G){o:Int}(h:Own o):¬G o:=fun q =>
 (e.2 o q).elim (c.disj o h).1 fun q=>absurd (c.disj o h).2 (Int.not_le.mpr q)
noncomputable def GU(O:V→SetI→SetI)(mk:V→SetI)(G:SetI)(t:V):SetI:=fun o=>(t=tB∧G o)∨(∃i,t=tO i∧O i G o)∨(∃s,t=tS s∧mk s o)
noncomputable def fE(O:V→SetI→SetI)(mk:V→SetI)(G:SetI)(T:V→Prop):SetI:=fun o=>∃t,T t∧GU O mk G t o
structure Fs(F:Facts)(G0:SetI)(m0:Int)(G:SetI)(m:Int)(mk:V→SetI):Prop where
 ext:tD G0 m0 G
 le:m0≤m
 m1:∀s o,mk s o→F .gone s→G o
 m2:∀s o,mk s o→¬F .gone s→¬G o
 m3:∀s s' o,mk s o→mk s' o→s=s'
 m4:∀s o,mk s o→m0<o∧o≤m
structure Fi(O:V→SetI→SetI)(Own:SetI)(cap:Int→SetI→SetI)(F:Facts)(G0:SetI)(m0:Int)(G:SetI)(m:Int)(H:List (V×V))(mk:V→SetI):Prop where
 st:Fs F G0 m0 G m mk
 g1:∀o,G o→∀p,cont H o p→G p
 g2:∀o,Own o→∀p,cont H o p→cap o G p
 g3:∀s o,mk s o→¬F .gone s→∀p,cont H o p→fE O mk G (F (.inside s)) p
 gm:∀o,G o→o≤m
variable{O:V→SetI→SetI}{Own:SetI}{cap:Int→SetI→SetI}{G0 G:SetI}{m0 m:Int}{H:List (V×V)}{mk:V→SetI}{T T':V→Prop}
theorem fE.mono{T T':V→Prop}(h:∀t,T t→T' t){o:Int}(q:fE O mk G T o):fE O mk G T' o:=let ⟨t,q1,q2⟩:=q;⟨t,h t q1,q2⟩
theorem GU.up(c:Cx O Own cap F G0 m0){G':SetI}(hg:∀o,G o→G' o){mk':V→SetI}(hm:∀s o,mk s o→mk' s o){t:V}{o:Int}(q:GU O mk G t o):GU O mk' G' t o :=
 q.imp (fun q=>⟨q.1,hg o q.2⟩) fun q=>q.imp (fun ⟨i,e,q⟩=>⟨i,e,c.monoO i G G' hg o q⟩) fun ⟨s,e,q⟩=>⟨s,e,hm s o q⟩
theorem fE.up(c:Cx O Own cap F G0 m0){G':SetI}(hg:∀o,G o→G' o){mk':V→SetI}(hm:∀s o,mk s o→mk' s o){o:Int}(q:fE O mk G T o):fE O mk' G' T o:=let ⟨t,q1,q2⟩:=q;⟨t,q1,q2.up c hg hm⟩
theorem GV{o:Int}:GU O mk G tB o↔G o:=⟨fun q=>q.elim And.right fun q=>q.elim (fun w=>bG w fun z_ e z_=>absurd e qn) fun x=>bG x fun z_ e z_=>absurd e lp,fun q=>.inl ⟨rfl,q⟩⟩
theorem Fs.where'(c:Cx O Own cap F G0 m0)(f:Fs F G0 m0 G m mk){o:Int}(q:fE O mk G T o):G o∨Own o∨∃s,mk s o∧¬F .gone s:=by
 obtain ⟨t,_,q | ⟨i,_,q⟩ | ⟨s,_,q⟩⟩:=q
 ·exact .inl q.2
 ·exact (c.sub G f.ext i o q).imp id .inl
 ·by_cases hg:F .gone s
  ·exact .inl (f.m1 s o q hg)
  ·exact .inr (.inr ⟨s,q,hg⟩)
theorem Fs.mkOwn(c:Cx O Own cap F G0 m0)(f:Fs F G0 m0 G m mk){s:V}{o:Int}(q:mk s o):¬Own o:=fun h=>absurd (c.disj o h).2 (Int.not_le.mpr (f.m4 s o q).1)
theorem sx(c:Cx O Own cap F G0 m0)(f:Fs F G0 m0 G m mk)(h:∀tb v,i7 T F tb v→F tb v){o:Int}(q:fE O mk G T o):G o:=by
 obtain ⟨t,ht,q | ⟨i,e,q⟩ | ⟨s,e,q⟩⟩:=q
 ·exact q.2
 ·exact c.lk G f.ext i (h _ _ ⟨t,⟨t,ht,.refl⟩,.inr ⟨rfl,e⟩⟩) o q
 ·exact f.m1 s o q (h _ _ ⟨t,⟨t,ht,.refl⟩,.inl ⟨rfl,e⟩⟩)
theorem DE(c:Cx O Own cap F G0 m0)(f:Fs F G0 m0 G m mk){j:V}(h:∀tb v,kL j T F tb v→F tb v){p:Int}(q:fE O mk G T p):∃x,F .kept (.tup [x,j])∧O x G p:=by
 obtain ⟨t,ht,q | ⟨i,e,q⟩ | ⟨s,e,q⟩⟩:=q
 ·obtain ⟨rfl,q⟩:=q;refine ⟨kt tB,h .kept _ ⟨_,⟨_,ht,.refl⟩,.inr ⟨rfl,rfl⟩⟩,?_⟩;exact (c.neg G p).mpr q
 ·subst e;refine ⟨kt (tO i),h .kept _ ⟨_,⟨_,ht,.refl⟩,.inr ⟨rfl,rfl⟩⟩,?_⟩;rw [sT];exact q
 ·subst e;refine ⟨kt (tS s),h .kept _ ⟨_,⟨_,ht,.refl⟩,.inr ⟨rfl,rfl⟩⟩,?_⟩;rw [sU,c.neg];exact f.m1 s p q (h _ _ ⟨_,⟨_,ht,.refl⟩,.inl ⟨⟨s,rfl⟩,⟨_,⟨_,rfl,.refl⟩,.inl ⟨rfl,rfl⟩⟩⟩⟩)
theorem wV(c:Cx O Own cap F G0 m0)(f:Fs F G0 m0 G m mk)(h:∀tb v,mO T T' F tb v→F tb v){o p:Int}(q:fE O mk G T o)(q':fE O mk G T' p) :
  (G o→G p)∧(Own o→cap o G p)∧∀s,mk s o→¬F .gone s→fE O mk G (F (.inside s)) p:=by
 obtain ⟨t,ht,e | ⟨i,e,q⟩ | ⟨s,e,q⟩⟩:=q
 ·refine xa e fun w hG=>?_;subst w;have hp:G p:=sx c f (fun tb v l=>h tb v ⟨tB,ht,.inl ⟨rfl,l⟩⟩) q';exact ⟨fun z_=>hp,fun ho=>absurd hG (c.notG f.ext ho),fun s hs hg=>absurd hG (f.m2 s o hs hg)⟩
 ·subst e;refine bG (DE c f (fun tb v l=>h tb v ⟨_,ht,.inr (.inl ⟨i,rfl,l⟩)⟩) q') fun x h1 h2=>?_;refine xa (c.kp G f.ext x i h1 o q) fun k1 k2=>?_;refine ⟨fun hG=>k1 hG p h2,fun ho=>k2 ho p h2,fun s hs hg=>?_⟩;exact (c.sub G f.ext i o q).elim (fun hG=>absurd hG (f.m2 s o hs hg)) fun ho=>absurd ho (f.mkOwn c hs)
 ·subst e;refine ⟨fun hG=>?_,fun ho=>absurd ho (f.mkOwn c q),fun s' hs hg=>?_⟩
  ·by_cases hg:F .gone s
   ·exact sx c f (fun tb v l=>h tb v ⟨_,ht,.inr (.inr ⟨s,rfl,.inr ⟨hg,l⟩⟩)⟩) q'
   ·exact absurd hG (f.m2 s o q hg)
  ·have:=f.m3 _ _ _ hs q;subst this;exact q'.mono fun t ht'=>h _ _ ⟨_,ht,.inr (.inr ⟨s',rfl,.inl ⟨rfl,ht'⟩⟩)⟩
theorem DI(c:Cx O Own cap F G0 m0)(f:Fi O Own cap F G0 m0 G m H mk){o p:Int}(q:fE O mk G T o)(hc:cont H o p):fE O mk G (fun u=>∃t,T t∧Ld F t u) p:=by
 obtain ⟨t,ht,e | ⟨i,e,q⟩ | ⟨s,e,q⟩⟩:=q
 ·refine xa e fun w hG=>?_;subst w;exact ⟨tB,⟨tB,ht,.inr ⟨fun s=>lp,.inl rfl⟩⟩,.inl ⟨rfl,f.g1 o hG p hc⟩⟩
 ·subst e;refine ⟨tO i,⟨tO i,ht,.inr ⟨fun s=>oq,.inl rfl⟩⟩,.inr (.inl ⟨i,rfl,?_⟩)⟩;refine Or.elim (c.sub G f.st.ext i o q) (fun hG=>?_) (fun ho=>?_)
  ·exact c.cl2 G f.st.ext i o q hG p (f.g1 o hG p hc)
  ·exact c.cl1 G f.st.ext i o p q ho (f.g2 o ho p hc)
 ·subst e;by_cases hg:F .gone s
  ·exact ⟨tB,⟨_,ht,.inl ⟨s,rfl,.inr ⟨hg,rfl⟩⟩⟩,.inl ⟨rfl,f.g1 o (f.st.m1 s o q hg) p hc⟩⟩
  ·exact (f.g3 s o q hg p hc).mono fun t ht'=>⟨_,ht,.inl ⟨s,rfl,.inl ht'⟩⟩
noncomputable def O'(O:V→SetI→SetI)(mk:V→SetI)(F:Facts)(a b:V):V→SetI→SetI:=fun x G=>fE O mk G (xx F a b x)
noncomputable def CX(Own:SetI)(mk:V→SetI)(F:Facts):SetI:=fun o=>Own o∨∃s,mk s o∧¬F .gone s
noncomputable def GL(O:V→SetI→SetI)(Own:SetI)(cap:Int→SetI→SetI)(mk:V→SetI)(F:Facts):Int→SetI→SetI:=fun o G p=>(Own o∧cap o G p)∨∃s,mk s o∧fE O mk G (F (.inside s)) p
theorem rh{x t u:V}(h:xx F a b x t)(l:Ld F t u):xx F a b x u:=by
 rcases h with ⟨e,t0,q1,q2⟩ | ⟨e,t0,q1,q2⟩ | ⟨e,rfl⟩
 ·exact .inl ⟨e,t0,q1,q2.tail l⟩
 ·exact .inr (.inl ⟨e,t0,q1,q2.tail l⟩)
 ·rcases l with ⟨s,e',_⟩ | ⟨_,e' | ⟨i,o,e',_⟩⟩
  ·exact absurd e' lp
  ·exact .inr (.inr ⟨e,e'⟩)
  ·exact absurd e' qn
theorem Fs.later(f:Fs F G0 m0 G m mk){G':SetI}(e:tD G m G'):Fs F G0 m0 G' m mk :=
 ⟨f.ext.trans e f.le,f.le,fun s o h1 h2=>e.1 o (f.m1 s o h1 h2),fun s o h1 h2 h3=>(e.2 o h3).elim (f.m2 s o h1 h2) fun q=>absurd (f.m4 s o h1).2 (Int.not_le.mpr q),f.m3,f.m4⟩
theorem yz(c:Cx O Own cap F G0 m0)(f:Fs F G0 m0 G m mk){F':Facts}{d1 d2:V}(hcl:∀tb v,f9 F' a b d1 d2 F tb v→F tb v):Cx (O' O mk F a b) (CX Own mk F) (GL O Own cap mk F) F' G m:=by
 have sub:∀{G'},tD G m G'→∀{T o},fE O mk G' T o→G' o∨CX Own mk F o:=fun {G'} e {T o} q=>(f.later e).where' c q;refine ⟨fun G' o=>?_,fun x G1 G2 h o q=>q.up c h fun z_ z_=>id,fun x G1 G2 h o q=>?_,fun G' e x o q=>sub e q,fun G' e o ho p q=>?_,fun o ho=>?_,fun G' e x o p q ho hc=>?_,fun G' e x o q hG p hp=>?_,fun G' e x hl o q=>?_,fun G' e x i hk o q=>⟨fun hG p hp=>?_,fun ho p hp=>?_⟩⟩
 ·constructor
  ·rintro ⟨t,⟨h,_⟩ | ⟨h,_⟩ | ⟨_,rfl⟩,q⟩
   ·cases h
   ·cases h
   ·exact GV.mp q
  ·exact fun q=>⟨tB,.inr (.inr ⟨rfl,rfl⟩),.inl ⟨rfl,q⟩⟩
 ·refine Or.elim q (fun w=>xa w fun h1 h2=>?_) (fun y=>bG y fun s h1 h2=>?_)
  ·exact .inl ⟨h1,c.monoC x G1 G2 h o h2⟩
  ·exact .inr ⟨s,h1,h2.up c h fun z_ z_=>id⟩
 ·refine Or.elim q (fun z=>xa z fun h1 h2=>?_) (fun r=>bG r fun s h1 h2=>?_)
  ·exact (c.capsub G' (f.later e).ext o h1 p h2).imp id .inl
  ·exact sub e h2
 ·refine Or.elim ho (fun ho=>?_) (fun n=>bG n fun s h1 h2=>?_)
  ·exact ⟨c.notG f.ext ho,Int.le_trans (c.disj o ho).2 f.le⟩
  ·exact ⟨f.m2 s o h1 h2,(f.m4 s o h1).2⟩
 ·
  refine bG q fun t ht q'=>?_;have nG:¬G' o:=by
   refine Or.elim ho (fun ho=>?_) (fun k=>bG k fun s h1 h2=>?_)
   ·exact c.notG (f.later e).ext ho
   ·exact (f.later e).m2 s o h1 h2
  rcases q' with ⟨rfl,hG⟩ | ⟨i,rfl,q⟩ | ⟨s,rfl,q⟩
  ·exact absurd hG nG
  ·refine Or.elim (c.sub G' (f.later e).ext i o q) (fun h=>?_) (fun ho'=>?_)
   ·exact absurd h nG
   ·refine Or.elim hc (fun j=>xa j fun z_ h2=>?_) (fun g=>bG g fun s h1 z_=>?_)
    ·exact ⟨tO i,ht,.inr (.inl ⟨i,rfl,c.cl1 G' (f.later e).ext i o p q ho' h2⟩)⟩
    ·exact absurd ho' (f.mkOwn c h1)
  ·refine Or.elim hc (fun d=>xa d fun h1 z_=>?_) (fun Q=>bG Q fun s' h1 h2=>?_)
   ·exact absurd h1 (f.mkOwn c q)
   ·have:=f.m3 _ _ _ h1 q;subst this;exact h2.mono fun u hu=>rh ht (.inl ⟨s',rfl,.inl hu⟩)
 ·refine bG q fun t ht q'=>?_;rcases q' with ⟨rfl,_⟩ | ⟨i,rfl,q⟩ | ⟨s,rfl,q⟩
  ·exact ⟨tB,ht,.inl ⟨rfl,hp⟩⟩
  ·exact ⟨tO i,ht,.inr (.inl ⟨i,rfl,c.cl2 G' (f.later e).ext i o q hG p hp⟩)⟩
  ·by_cases hg:F .gone s
   ·exact ⟨tB,rh ht (.inl ⟨s,rfl,.inr ⟨hg,rfl⟩⟩),.inl ⟨rfl,hp⟩⟩
   ·exact absurd hG ((f.later e).m2 s o q hg)
 ·exact sx c (f.later e) (fun tb v l=>hcl tb v (.inl ⟨x,hl,l⟩)) q
 ·exact (wV c (f.later e) (fun tb v l=>hcl tb v (.inr (.inl ⟨x,i,hk,l⟩))) q hp).1 hG
 ·have:=wV c (f.later e) (fun tb v l=>hcl tb v (.inr (.inl ⟨x,i,hk,l⟩))) q hp;refine Or.elim ho (fun ho=>?_) (fun W=>bG W fun s h1 h2=>?_)
  ·exact .inl ⟨ho,this.2.1 ho⟩
  ·exact .inr ⟨s,h1,this.2.2 s h1 h2⟩
theorem AP{G0:SetI}{m0:Int}:Cx (fun z_ G=>G) (fun z_=>False) (fun z_ z_ z_=>False) F G0 m0 :=
 ⟨fun z_ z_=>Iff.rfl,fun z_ z_ z_ h=>h,fun z_ z_ z_ z_ z_ h=>h,fun z_ z_ z_ z_ h=>.inl h,fun z_ z_ z_ h=>h.elim,fun z_ h=>h.elim,fun z_ z_ z_ z_ z_ z_ h=>h.elim,fun z_ z_ z_ z_ z_ z_ z_ h=>h,fun z_ z_ z_ z_ z_ h=>h,fun z_ z_ z_ z_ z_ z_ z_=>⟨fun z_ z_ h=>h,fun h=>h.elim⟩⟩
end
variable{cap:Int→SetI→SetI}{O:V→SetI→SetI}
section
variable{H:List (V×V)}
noncomputable def kU(v:V):Prop:=v=.none∨∃n,v=.int n
noncomputable def iN(v:V):Prop:=kU v∨∃a b,v=.tup [a,b]∧kU a∧kU b
theorem kU.dat{v:V}(h:kU v):v.dat=true∧v.dep=0:=by
 rcases h with rfl | ⟨n,rfl⟩<;>exact ⟨rfl,rfl⟩
theorem iN.dat{v:V}(h:iN v):v.dat=true∧v.dep≤1:=by
 rcases h with h | ⟨a,b,rfl,ha,hb⟩
 ·exact ⟨h.dat.1,by rw [h.dat.2];decide⟩
 ·refine ⟨?_,?_⟩
  ·show (a.dat&&(b.dat&&true))=true;rw [ha.dat.1,hb.dat.1];rfl
  ·show max a.dep (max b.dep 0)+1≤1;rw [ha.dat.2,hb.dat.2];exact ax _
noncomputable def fQ(op:V):Prop:=(∃i:Nat,i<7∧op=oR (.int i))∨op=oN∨op=oG
theorem fQ.opd{op:V}(h:fQ op):jY op:=by
 rcases h with ⟨i,hi,rfl⟩ | h | h
 ·exact .inl ⟨_,bH.mpr ⟨i,List.mem_range.mpr (bf hi (by decide)),rfl⟩,rfl⟩
 ·exact .inr (.inl h)
 ·exact .inr (.inr h)
noncomputable def qe(R:List V):V→V
 | .tup [_,.int i]=>(R[i.toNat]?).getD .none
 | .tup [_,_,.none]=>.none
 | _=>.int 0
theorem dR{r:Nat}{R:List V}{op:V}(hr:σ[r]?=some (.list R))(hl:R.length=7)(ho:fQ op)(hQ:Q (qe R op) σ):aY ba (n+1) ("","_law_read") [.obj r,op] σ Q:=by
 refine bs (d:=nX) rfl ae ae ?_;rcases ho with ⟨i,hi,rfl⟩ | rfl | rfl
 ·refine cQ (w:=qe R (oR (.int i))) hr (hl▸by decide) ?_ hQ;have:i<R.length:=hl▸hi;show (if 0≤(i:Int) then R[Int.toNat i]? else _)=some (R[Int.toNat i]?.getD .none);rw [if_pos (Int.natCast_nonneg _),Int.toNat_natCast,aC this];rfl
 ·(conv=>whnf);exact hQ
 ·(conv=>whnf);exact hQ
noncomputable def pZ:V→V
 | .tup _=>.none
 | v=>v
theorem p7(hv:iN v)(hQ:Q (pZ v) σ):aY ba (n+1) ("","_law_plain") [v] σ Q:=by
 refine bs (d:=l9) rfl ae ae ?_;rcases hv with (rfl | ⟨n,rfl⟩) | ⟨a,b,rfl,_,_⟩
 ·(conv=>whnf);exact hQ
 ·(conv=>whnf);exact hQ
 ·(conv=>whnf);exact hQ
theorem mN(hv:iN v):kU (pZ v):=by
 rcases hv with (rfl | ⟨n,rfl⟩) | ⟨a,b,rfl,_,_⟩
 ·exact .inl rfl
 ·exact .inr ⟨n,rfl⟩
 ·exact .inl rfl
theorem oi{p:Int}(h:ef (pZ v) p):ef v p:=by
 cases v<;>first | exact h | exact h.elim
theorem D3{R:List V}{op:V}(hR:∀v∈R,iN v)(ho:fQ op):iN (qe R op):=by
 rcases ho with ⟨i,hi,rfl⟩ | rfl | rfl
 ·show iN ((R[Int.toNat i]?).getD .none);rw [Int.toNat_natCast]
  cases e:R[i]? with
  | none=>exact .inl (.inl rfl)
  | some v=>exact hR v (List.mem_of_getElem? e)
 ·exact .inl (.inl rfl)
 ·exact .inl (.inr ⟨0,rfl⟩)
noncomputable def wt:V→Nat
 | .none=>1
 | .int _=>2
 | _=>6
noncomputable def yp(l:List V):Nat:=(l.map wt).sum
noncomputable def vI(H:List (V×V)):Prop:=∀p∈H,(∃n,p.1=.int n)∧iN p.2
theorem hO{l:List (V×V)}(h:getD l k=some v):(k,v)∈l:=by
 refine bG (ez h) fun i z_ h2=>?_;exact List.mem_of_getElem? h2
theorem xo(h:iN v):1≤wt v∧wt v≤6:=by
 rcases h with (rfl | ⟨n,rfl⟩) | ⟨a,b,rfl,_,_⟩<;>exact ⟨ae,ae⟩
theorem vA(h:kU v):wt v≤2:=by
 rcases h with rfl | ⟨n,rfl⟩<;>exact ae
noncomputable def jU(H:List (V×V))(fs:List V):Nat:=((H.map (·.1)).filter fun k=>decide (k∉fs)).length
theorem jK{p:V×V}{r:List (V×V)}:jU (p::r) fs=if p.1∈fs then jU r fs else jU r fs+1:=by
 delta jU;rw [List.map_cons];by_cases h:p.1∈fs
 ·rw [if_pos h,List.filter_cons_of_neg (p:=fun k=>decide (k∉fs)) (fun q=>aF q h)]
 ·rw [if_neg h,List.filter_cons_of_pos (p:=fun k=>decide (k∉fs)) (bh h)];rfl
theorem vu:jU H (fs++[k])≤jU H fs:=by
 induction H with
 | nil=>exact ax _
 | cons p r ih =>
  rw [jK,jK];by_cases h1:p.1∈fs
  ·rw [if_pos (b9.mpr (.inl h1)),if_pos h1];exact ih
  ·rw [if_neg h1];by_cases h2:p.1=k
   ·rw [if_pos (b9.mpr (.inr h2))];exact bD ih
   ·rw [if_neg fun q=>(b9.mp q).elim h1 h2];exact Nat.succ_le_succ ih
theorem CM(hm:(k,v)∈H)(hk:k∉fs):jU H (fs++[k])<jU H fs:=by
 induction H with
 | nil=>cases hm
 | cons p r ih =>
  rw [jK,jK];rcases aP.mp hm with rfl | hm
  ·rw [if_pos (b9.mpr (.inr rfl)),if_neg hk];exact Nat.lt_succ_of_le vu
  ·by_cases h1:p.1∈fs
   ·rw [if_pos (b9.mpr (.inl h1)),if_pos h1];exact ih hm
   ·rw [if_neg h1];by_cases h2:p.1=k
    ·rw [if_pos (b9.mpr (.inr h2))];exact Nat.lt_succ_of_lt (ih hm)
    ·rw [if_neg fun q=>(b9.mp q).elim h1 h2];exact Nat.succ_lt_succ (ih hm)
noncomputable def kZ(codes fo hd:Nat)(m f:Int)(safe:Bool):List (V×V):=[(.str "codes",.obj codes),(.str "told",.obj fo),(.str "held",.obj hd),(.str "made",.int m),(.str "fuel",.int f),(.str "safe",.bool safe)]
theorem dz{bk:Nat}{l:List (V×V)}{k:String}{w:V}{e:Nat}{Q:V→Prop}(h:σ[bk]?=some (.dict l e))(h2:getD l (.str k)=some w)(q:Q w):dh (kc σ (.obj bk) (.str k)) Q:=pH h rfl (aS _) h2 q
theorem lS{a b:List V}:yp (a++b)=yp a+yp b:=by unfold yp;rw [List.map_append,List.sum_append]
theorem yq(h:∀v∈l,iN v):l.length≤yp l:=by
 induction l with
 | nil=>exact aS _
 | cons x r ih =>
  show r.length+1≤wt x+yp r;rw [Nat.add_comm];exact Nat.add_le_add (xo (h x ai)).1 (ih fun y hy=>h y (aj _ hy))
theorem qs(h:∀v∈l,iN v):V.dats l=true∧V.deps l≤6:=by
 refine ⟨V.dats_iff.mpr fun v q=>(h v q).dat.1,?_⟩
 induction l with
 | nil=>exact aS _
 | cons x r ih=>exact Nat.max_le.mpr ⟨am (h x ai).dat.2 (by decide),ih fun y hy=>h y (aj _ hy)⟩
theorem un{x:V}(h:σ[n]?=some (.list l))(hx:x.dat=true)(hd:x.dep≤6)(hl:V.dats l=true)(hl2:V.deps l≤6):Ba σ x (.obj n)=some (decide (x∈l)):=by
 have e:(l.any fun y=>V.deq y x)=decide (x∈l):=by
  rw [Bool.eq_iff_iff,List.any_eq_true,decide_eq_true_eq];exact ⟨fun w=>bG w fun y q1 q2=>V.deq_iff.mp q2▸q1,fun q=>⟨_,q,V.deq_self _⟩⟩
 rw [←e];exact (cZ h).trans (if_pos (by rw [hx,hl,bh hd,bh hl2];rfl))
structure Gu(H:List (V×V))(A:V→Prop)(lf fd:Nat)(σ₀ σ:Hp)(ls fs:List V)(n:Nat):Prop where
 p:σ₀ <+:σ
 l:σ[lf]?=some (.list ls)
 f:σ[fd]?=some (.list fs)
 vl:∀v∈ls,iN v∧A v
 vf:∀v∈fs,(∃n,v=.int n)∧A v
 b:yp ls+10*jU H fs≤n
 b2:n+fs.length≤200000
theorem Gu.vsl{A:V→Prop}{lf fd:Nat}{ls:List V}(x:Gu H A lf fd σ₀ σ ls fs n):∀v∈fs,iN v:=fun v q=>let ⟨⟨n,e⟩,_⟩:=x.vf v q;.inl (.inr ⟨n,e⟩)
theorem Gu.len{A:V→Prop}{lf fd:Nat}{ls:List V}(x:Gu H A lf fd σ₀ σ ls fs n):ls.length+3<big:=by
 have h1:=yq fun v q=>(x.vl v q).1;have h2:=x.b;have h3:=x.b2;exact ay (bL (am h1 (am (aW _ _) (am h2 (am (aW _ _) h3)))) 3) (by decide)
theorem wo{k bk hd lf fd codes fo be he:Nat}{m f:Int}{sf:Bool}{A:V→Prop}(hb0:σ[bk]?=some (.dict (kZ codes fo hd m f sf) be))(hh:σ[hd]?=some (.dict H he))(hv:vI H)(hlf:σ.length≤lf)(hfd:σ.length≤fd)(hne:lf≠fd)
  (hA:∀n v,A (.int n)→getD H (.int n)=some v→A v) (hT:∀l,A (.tup l)→∀v∈l,A v) (hN:A .none) {n:Nat}:∀{ls fs:List V} {loc:Loc} {σ₁:Hp},Gu H A lf fd σ σ₁ ls fs n→loc "book"=some (.obj bk)→loc "left"=some (.obj lf)→loc "found"=some (.obj fd)→
  (∀loc' σ' fs',bT ["here"] loc loc'→σ <+:σ'→σ'[fd]?=some (.list fs')→(∀v∈fs',(∃n,v=.int n)∧A v)→fs'.length≤200000→QQ .next loc' σ')→jL (tF (aY ba k) gA) (dW (aY ba k) gz) (n+1) loc σ₁ QQ:=by
 induction n with
 | zero =>
  intro ls fs loc σ₁ x b1 b2 b3 hQ;have d:=qs fun v q=>(x.vl v q).1;refine aw b2 ?_;have:ls=[]:=List.length_eq_zero_iff.mp (Nat.le_zero.mp (am (yq fun v q=>(x.vl v q).1) (am (aW _ _) x.b)));refine iz (b:=true) (aT x.l) aI d.1 d.2 (this▸rfl) ?_;exact hQ loc _ fs .refl (x.p.trans aD) (aT x.f) x.vf (am (Nat.le_add_left _ _) x.b2)
 | succ n ih =>
  intro ls fs loc σ₁ x b1 b2 b3 hQ;have d:=qs fun v q=>(x.vl v q).1;have df:=qs x.vsl;refine aw b2 ?_;rcases uG ls with rfl | ⟨ls',t,rfl⟩
  ·refine iz (b:=true) (aT x.l) aI d.1 d.2 rfl ?_;exact hQ loc _ fs .refl (x.p.trans aD) (aT x.f) x.vf (am (Nat.le_add_left _ _) x.b2)
  ·refine iz (b:=false) (aT x.l) aI d.1 d.2 (by cases ls'<;>rfl) ?_;have tv:=x.vl t (b9.mpr (.inr rfl));have h1':(σ₁++[Ob.list []])[lf]?=some (.list (ls'++[t])):=aT x.l;have hlen:=x.len;have hlen':ls'.length+4<big:=by rw [aO] at hlen;exact hlen
   have p1:σ <+:(σ₁++[Ob.list []]).set lf (.list ls'):=eU (x.p.trans aD) hlf;have g1:((σ₁++[Ob.list []]).set lf (.list ls'))[lf]?=some (.list ls'):=bq h1';have g2:((σ₁++[Ob.list []]).set lf (.list ls'))[fd]?=some (.list fs):=(aM hne).trans (aT x.f);have hls':∀v∈ls',iN v∧A v:=fun v q=>x.vl v (b9.mpr (.inl q));have hb:∀w,wt t=w+1→yp ls'+w+10*jU H fs≤n:=fun w e=>by
    have:=x.b;rw [lS,show yp [t]=wt t from rfl,e] at this;exact Nat.le_of_succ_le_succ (am (Nat.le_of_eq (Nat.succ_add (yp ls'+w) _).symm) this)
   have hb2:n+fs.length+1≤200000:=am (Nat.le_of_eq (Nat.succ_add n fs.length).symm) x.b2;refine aw b2 ?_;refine ⟨xV h1' rfl,?_⟩;refine sB h1' (ay (aW _ 3) hlen) List.getLast?_concat ?_;rw [List.dropLast_concat];generalize (σ₁++[Ob.list []]).set lf (.list ls')=σ₂ at p1 g1 g2 ⊢;have go:=fun {ls2 fs2:List V} {σ3:Hp} (q:Gu H A lf fd σ σ3 ls2 fs2 n)=>ih (loc:=setL loc "here" t) q b1 b2 b3 fun loc' σ' fs' ag'=>hQ loc' σ' fs' ((bT.refl.set ai).trans ag');rcases tv with ⟨(rfl | ⟨o,rfl⟩) | ⟨a,b,rfl,ha,hb'⟩,tA⟩
   ·exact go ⟨p1,g1,g2,hls',x.vf,hb 0 rfl,Nat.le_of_succ_le hb2⟩
   ·refine aw b3 ?_;refine mH (un g2 rfl (aS _) df.1 df.2) ?_;by_cases hm:V.int o∈fs
    ·rw [bh hm];exact go ⟨p1,g1,g2,hls',x.vf,am (bL (aW _ 1) _) (hb 1 rfl),Nat.le_of_succ_le hb2⟩
    ·rw [decide_eq_false hm];refine aw b3 ?_;refine ⟨xV g2 rfl,?_⟩;refine fh g2 (ay (am (Nat.le_add_left _ _) x.b2) (show (200000:Nat)<big by decide)) ?_;have p2:σ <+:σ₂.set fd (.list (fs++[.int o])):=eU p1 hfd;have g3:(σ₂.set fd (.list (fs++[.int o])))[lf]?=some (.list ls'):=(aM (aU hne)).trans g1;have g4:(σ₂.set fd (.list (fs++[.int o])))[fd]?=some (.list (fs++[.int o])):=bq g2;generalize σ₂.set fd (.list (fs++[.int o]))=σ₃ at p2 g3 g4 ⊢;have hfs2:∀v∈fs++[V.int o],(∃n,v=.int n)∧A v:=fun v q=>(b9.mp q).elim (x.vf v) fun e=>e▸⟨⟨o,rfl⟩,tA⟩;refine aw b2 ?_;refine ⟨xV g3 rfl,?_⟩;refine aw b1 ?_;refine dz (bU p2 hb0) rfl ?_;refine ⟨EX (bU p2 hh) rfl,?_⟩;refine sg (bU p2 hh) rfl (aS _) ?_;have add:∀v,iN v→A v→yp ls'+wt v+10*jU H (fs++[.int o])≤n→jL (tF (aY ba k) gA) (dW (aY ba k) gz) (n+1) (setL loc "here" (.int o)) (σ₃.set lf (.list (ls'++[v]))) QQ:=fun v h1 h2 h3 =>
      go ⟨eU p2 hlf,bq g3,(aM hne).trans g4,fun v' q=>(b9.mp q).elim (hls' v') fun e=>e▸⟨h1,h2⟩,hfs2,by rw [lS];exact h3,by rw [aO];exact hb2⟩
     cases hg:getD H (.int o) with
     | none =>
      refine fh g3 (ay (aW _ 4) hlen') ?_;exact add .none (.inl (.inl rfl)) hN (am (bK (Nat.mul_le_mul_left 10 vu) _) (hb 1 rfl))
     | some v =>
      refine fh g3 (ay (aW _ 4) hlen') ?_;have vv:iN v:=(hv _ (hO hg)).2;exact add v vv (hA o v tA hg) (IF (hb 1 rfl) (CM (hO hg) hm) (xo vv).2)
   ·refine aw b2 ?_;refine ⟨xV g1 rfl,?_⟩;refine nz (w:=.tup [a,b]) (l':=[a,b]) g1 rfl (bf (Nat.add_lt_add_left (by decide:2<4) _) hlen') ?_;have ab:∀v∈[a,b],kU v:=fun v q=>(aP.mp q).elim (fun e=>e▸ha) fun q=>aq.mp q▸hb';exact go ⟨eU p1 hlf,bq g1,(aM hne).trans g2,fun v q=>(bA.mp q).elim (hls' v) fun q=>⟨.inl (ab v q),hT _ tA v q⟩,x.vf,by
     rw [lS];have h5:=hb 5 rfl;have:yp [a,b]≤5:=am (Nat.add_le_add (vA ha) (Nat.add_le_add (vA hb') (ax 0))) (by decide);exact am (bL (bK this _) _) h5,Nat.le_of_succ_le hb2⟩
end
section
variable{Own:SetI}{G0 G:SetI}{m0 m:Int}{H:List (V×V)}{mk:V→SetI}{T T':V→Prop}
theorem mm{a o p:Int}:cont (dw H (.int a) v) o p↔if o=a then ef v p else cont H o p:=by
 unfold cont;rw [gO];by_cases h:o=a
 ·rw [if_pos h,if_pos (h▸rfl)];exact ⟨fun w=>bG w fun z_ e q=>by cases e;exact q,fun q=>⟨v,rfl,q⟩⟩
 ·have:V.int o≠V.int a:=fun e=>h (by cases e;rfl);rw [if_neg this,if_neg h]
theorem FH(c:Cx O Own cap F G0 m0)(f:Fi O Own cap F G0 m0 G m H mk)(s:V) :
  Fi O Own cap F G0 m0 (fun o=>G o∨(F .gone s∧o=m+1)) (m+1) (dw H (.int (m+1)) .none) (fun s' o=>mk s' o∨(s'=s∧o=m+1)):=by
 have up:∀o,G o→G o∨(F .gone s∧o=m+1):=fun z_=>.inl;have ct:∀{o p},cont (dw H (.int (m+1)) .none) o p→cont H o p:=fun {o p} h=>by
  rw [mm] at h
  split at h
  ·exact h.elim
  ·exact h
 have big:∀s' o,mk s' o→o≠m+1:=fun s' o h e=>by have:=(f.st.m4 s' o h).2;omega
 refine ⟨⟨⟨fun o q=>.inl (f.st.ext.1 o q),fun o q=>?_⟩,by have:=f.st.le;omega,fun s' o h hg=>?_,fun s' o h hg q=>?_,fun s1 s2 o h1 h2=>?_,fun s' o h=>?_⟩,fun o q p h=>?_,fun o q p h=>c.monoC o G _ up p (f.g2 o q p (ct h)),fun s' o h hg p hc=>?_,fun o q=>?_⟩
 ·rcases q with q | ⟨_,rfl⟩
  ·exact f.st.ext.2 o q
  ·exact .inr (by have:=f.st.le;omega)
 ·rcases h with h | ⟨rfl,rfl⟩
  ·exact .inl (f.st.m1 s' o h hg)
  ·exact .inr ⟨hg,rfl⟩
 ·rcases h with h | ⟨rfl,rfl⟩
  ·refine Or.elim q (fun q=>?_) (fun w=>xa w fun z_ e=>?_)
   ·exact f.st.m2 s' o h hg q
   ·exact big s' o h e
  ·refine Or.elim q (fun q=>?_) (fun x=>xa x fun q z_=>?_)
   ·have:=f.gm _ q;omega
   ·exact hg q
 ·rcases h1 with h1 | ⟨rfl,e1⟩<;>rcases h2 with h2 | ⟨rfl,e2⟩
  ·exact f.st.m3 s1 s2 o h1 h2
  ·exact absurd e2 (big s1 o h1)
  ·exact absurd e1 (big s2 o h2)
  ·rfl
 ·rcases h with h | ⟨_,rfl⟩
  ·have:=f.st.m4 s' o h;exact ⟨this.1,by omega⟩
  ·have:=f.st.le;exact ⟨by omega,by omega⟩
 ·rcases q with q | ⟨_,rfl⟩
  ·exact .inl (f.g1 o q p (ct h))
  ·rw [mm,if_pos rfl] at h;exact h.elim
 ·rcases h with h | ⟨_,rfl⟩
  ·exact (f.g3 s' o h hg p (ct hc)).up c up fun z_ z_=>.inl
  ·rw [mm,if_pos rfl] at hc;exact hc.elim
 ·rcases q with q | ⟨_,rfl⟩
  ·have:=f.gm o q;omega
  ·omega
theorem AU(c:Cx O Own cap F G0 m0)(f:Fi O Own cap F G0 m0 G m H mk)(h:∀tb v,mO T T' F tb v→F tb v){g:Int}(hg:fE O mk G T g)(hv:∀p,ef v p→fE O mk G T' p) :
  Fi O Own cap F G0 m0 G m (dw H (.int g) v) mk:=by
 refine ⟨f.st,fun o q p hc=>?_,fun o q p hc=>?_,fun s o hs hgo p hc=>?_,f.gm⟩
 all_goals
  rw [mm] at hc
  split at hc
  ·rename_i e
   subst e;have:=wV c f.st h hg (hv p hc)
   first | exact this.1 q | exact this.2.1 q | exact this.2.2 s hs hgo
  ·rename_i e
   first | exact f.g1 o q p hc | exact f.g2 o q p hc | exact f.g3 s o hs hgo p hc
structure jf(bk hd codes fo B:Nat)(P:cU)(fl:List (V×V))(σ:Hp)(H:List (V×V))(m f:Int):Prop where
 abk:∃e,σ[bk]?=some (.dict (kZ codes fo hd m f true) e)
 ahd:∃e,σ[hd]?=some (.dict H e)
 afo:∃e,σ[fo]?=some (.dict fl e)
 cd:fw B σ codes P
 hv:vI H
 hn:(H.map (·.1)).Nodup
 n1:bk≠hd
 n2:fo≠bk
 n3:fo≠hd
 n4:B≤bk
 n5:B≤hd
variable{bk hd codes fo:Nat}{P:cU}{f:Int}
theorem jf.lt(x:jf bk hd codes fo B P fl σ H m f):bk<σ.length∧hd<σ.length∧fo<σ.length∧B≤σ.length:=by
 refine xe x.abk fun z_ h1=>?_;refine xe x.ahd fun z_ h2=>?_;refine xe x.afo fun z_ h3=>?_;exact ⟨a0 h1,a0 h2,a0 h3,am x.n4 (cT (a0 h1))⟩
theorem jf.same(x:jf bk hd codes fo B P fl σ H m f)(h:∀n,n=bk∨n=hd∨n=fo∨n<B→σ'[n]?=σ[n]?):jf bk hd codes fo B P fl σ' H m f :=
 ⟨let ⟨e,q⟩:=x.abk;⟨e,(h _ (.inl rfl)).trans q⟩,let ⟨e,q⟩:=x.ahd;⟨e,(h _ (.inr (.inl rfl))).trans q⟩,let ⟨e,q⟩:=x.afo;⟨e,(h _ (.inr (.inr (.inl rfl)))).trans q⟩,x.cd.same fun n hn=>h n (.inr (.inr (.inr hn))),x.hv,x.hn,x.n1,x.n2,x.n3,x.n4,x.n5⟩
theorem jf.ext(x:jf bk hd codes fo B P fl σ H m f)(p:σ <+:σ'):jf bk hd codes fo B P fl σ' H m f :=
 x.same fun n hn=>by
  refine xe p fun τ q=>?_;subst q;refine nU x.lt fun h1 h2 h3 h4=>?_;refine au ?_;rcases hn with rfl | rfl | rfl | hn<;>omega
theorem jf.setOther(x:jf bk hd codes fo B P fl σ H m f){a:Nat}(h1:a≠bk)(h2:a≠hd)(h3:a≠fo)(h4:B≤a):jf bk hd codes fo B P fl (σ.set a o) H m f :=
 x.same fun n hn=>aM (by rcases hn with rfl | rfl | rfl | hn<;>omega)
theorem BZ{m':Int}:dw (kZ codes fo hd m f true) (.str "made") (.int m')=kZ codes fo hd m' f true:=rfl
theorem BY{f':Int}:dw (kZ codes fo hd m f true) (.str "fuel") (.int f')=kZ codes fo hd m f' true:=rfl
theorem jf.setBook(x:jf bk hd codes fo B P fl σ H m f){k:String}{m' f':Int}{Q:Hp→Prop}(hk:dw (kZ codes fo hd m f true) (.str k) v=kZ codes fo hd m' f' true)(hQ:∀σ',jf bk hd codes fo B P fl σ' H m' f'→σ'.length=σ.length→(∀n,n≠bk→σ'[n]?=σ[n]?)→Q σ'):dp (.obj bk) (.str k) v σ Q:=by
 refine xe x.abk fun e he=>?_;refine gc he rfl (aS _) ae ?_;unfold fK;rw [hk];exact hQ _ ⟨⟨_,bq he⟩,x.ahd.imp fun e q=>(aM x.n1).trans q,x.afo.imp fun e q=>(aM (aU x.n2)).trans q,x.cd.same fun n hn=>aM (aU (aN (al hn x.n4))),x.hv,x.hn,x.n1,x.n2,x.n3,x.n4,x.n5⟩ bO fun n hn=>aM (aU hn)
theorem jf.setMade(x:jf bk hd codes fo B P fl σ H m f){m':Int}{Q:Hp→Prop}(hQ:∀σ',jf bk hd codes fo B P fl σ' H m' f→σ'.length=σ.length→(∀n,n≠bk→σ'[n]?=σ[n]?)→Q σ'):dp (.obj bk) (.str "made") (.int m') σ Q:=x.setBook BZ hQ
theorem jf.setFuel(x:jf bk hd codes fo B P fl σ H m f){f':Int}{Q:Hp→Prop}(hQ:∀σ',jf bk hd codes fo B P fl σ' H m f'→σ'.length=σ.length→(∀n,n≠bk→σ'[n]?=σ[n]?)→Q σ'):dp (.obj bk) (.str "fuel") (.int f') σ Q:=x.setBook BY hQ
theorem vI.put(h:vI H){a:Int}(hv:iN v):vI (dw H (.int a) v):=by
 induction H with
 | nil =>
  rw [qa];intro p hp;rw [aq.mp hp];exact ⟨⟨a,rfl⟩,hv⟩
 | cons q r ih =>
  rw [nL];have h2:vI r:=fun p hp=>h p (aj _ hp)
  split
  ·intro p hp;rcases aP.mp hp with rfl | hp
   ·exact ⟨(h q ai).1,hv⟩
   ·exact h2 p hp
  ·intro p hp;refine Or.elim (aP.mp hp) (fun e=>?_) (fun hp=>?_)
   ·exact h p (e▸ai)
   ·exact ih h2 p hp
theorem yb:(dw H a v).length≤H.length+1:=rD
theorem jf.setHeld(x:jf bk hd codes fo B P fl σ H m f){a:Int}{Q:Hp→Prop}(hv:iN v)(hl:H.length<100000)(hQ:∀σ',jf bk hd codes fo B P fl σ' (dw H (.int a) v) m f→σ'.length=σ.length→(∀n,n≠hd→σ'[n]?=σ[n]?)→Q σ'):dp (.obj hd) (.int a) v σ Q:=by
 refine xe x.ahd fun e he=>?_;exact gc he rfl (aS _) (bf hl (by decide)) (hQ _ ⟨x.abk.imp fun e q=>(aM (aU x.n1)).trans q,⟨_,bq he⟩,x.afo.imp fun e q=>(aM (aU x.n3)).trans q,x.cd.same fun n hn=>aM (aU (aN (al hn x.n5))),x.hv.put hv,by rw [i5];exact jC x.hn,x.n1,x.n2,x.n3,x.n4,x.n5⟩ bO fun n hn=>aM (aU hn))
theorem lO{r:Nat}{R:List V}{Q:Hp→Prop}(h:σ[r]?=some (.list R))(hl:R.length=7)(hi:i<7)(hQ:Q (σ.set r (.list (R.set i v)))):dp (.obj r) (.int i) v σ Q :=
 s0 h (Int.natCast_nonneg _) (by rw [hl];exact Int.ofNat_lt.mpr hi) (by rw [hl];decide) (by rw [Int.toNat_natCast];exact hQ)
end
section
variable{Own:SetI}{G0 G G':SetI}{m0 m:Int}{H H0:List (V×V)}{mk:V→SetI}{T T':V→Prop}
variable{bk hd codes fo:Nat}{P:cU}{f:Int}
structure FD(bk hd fo B rg ow ab:Nat)(as:List (Nat×List V)):Prop where
 d1:rg≠bk
 d2:rg≠hd
 d3:rg≠fo
 d4:B≤rg
 e1:ow≠bk
 e2:ow≠hd
 e3:ow≠fo
 e4:B≤ow
 ro:rg≠ow
 ab:ab≠bk∧ab≠hd∧ab≠rg∧ab≠ow
 as:∀x∈as,x.1≠bk∧x.1≠hd∧x.1≠rg∧x.1≠ow
structure FS(bk hd codes fo B:Nat)(P:cU)(fl:List (V×V))(F:Facts)(rg ow ab:Nat)(as:List (Nat×List V))(O:V→SetI→SetI)(Own:SetI)(cap:Int→SetI→SetI)(G0:SetI)(m0:Int)(H0:List (V×V))
  (σ:Hp) (R:List V) (os:List Int) (G:SetI) (m:Int) (H:List (V×V)) (mk:V→SetI) (f:Int):Prop where
 ms:jf bk hd codes fo B P fl σ H m f
 fi:Fi O Own cap F G0 m0 G m H mk
 arg:σ[rg]?=some (.list R)
 rl:R.length=7
 rv:∀(i:Nat) v,R[i]?=some v→iN v∧∀p,ef v p→fE O mk G (F (.held (.int i))) p
 aow:σ[ow]?=some (.list (os.map V.int))
 own:∀o,o∈os↔∃s,mk s o∧¬F .gone s
 ond:os.Nodup
 dom:∀o∈os,∃v,getD H (.int o)=some v
 old:∀o,o≤m0→(∃v,getD H0 (.int o)=some v)→∃v,getD H (.int o)=some v
 aab:σ[ab]?=some (.list (as.map fun x=>V.obj x.1))
 av:∀x∈as,σ[x.1]?=some (.list x.2)∧∀v∈x.2,iN v∧∀p,ef v p→G p∨Own p
 g0:G 0
variable{rg ow ab:Nat}{R:List V}{os:List Int}
noncomputable def nk(d:V):Prop:=∃i:Nat,i<7∧d=.int i
noncomputable def Ln.mok:Ln→Prop
 | .new d _=>nk d
 | .store a b | .struct a b=>fQ a∧fQ b
 | .load d a | .move d a=>nk d∧fQ a
 | .part d a i=>nk d∧a=oR (.int 6)∧(i=.int 0∨i=.int 1)
 | .call d1 d2 _ a b=>nk d1∧nk d2∧fQ a∧fQ b
noncomputable def qx(H:List (V×V))(f:Int):Nat:=H.length+25*f.toNat
theorem FS.rd(x:FS bk hd codes fo B P fl F rg ow ab as O Own cap G0 m0 H0 σ R os G m H mk f){op:V}(ho:fQ op){p:Int}(h:ef (qe R op) p):fE O mk G (cX F op) p:=by
 rcases ho with ⟨i,hi,rfl⟩ | rfl | rfl
 ·have hiR:i<R.length:=by rw [x.rl];exact hi
  have e:R[i]?=some R[i]:=aC hiR;have e2:qe R (oR (.int i))=R[i]:=by show (R[Int.toNat i]?).getD .none=_;rw [Int.toNat_natCast,e];rfl
  rw [e2] at h;exact ((x.rv i _ e).2 p h).mono fun t q=>.inl ⟨_,rfl,q⟩
 ·exact h.elim
 ·have:p=0:=h;subst this;exact ⟨tB,.inr ⟨rfl,rfl⟩,.inl ⟨rfl,x.g0⟩⟩
theorem FS.rdVal(x:FS bk hd codes fo B P fl F rg ow ab as O Own cap G0 m0 H0 σ R os G m H mk f){op:V}(ho:fQ op):iN (qe R op) :=
 D3 (fun v hv=>by obtain ⟨i,hi,e⟩:=List.getElem_of_mem hv;exact (x.rv i v (by rw [aC hi,e])).1) ho
theorem FS.heap(d:FD bk hd fo B rg ow ab as)(x:FS bk hd codes fo B P fl F rg ow ab as O Own cap G0 m0 H0 σ R os G m H mk f)(ms:jf bk hd codes fo B P fl σ' H m f)(h:∀n,n<σ.length→n≠bk→n≠hd→σ'[n]?=σ[n]?):FS bk hd codes fo B P fl F rg ow ab as O Own cap G0 m0 H0 σ' R os G m H mk f :=
 ⟨ms,x.fi,(h _ (a0 x.arg) d.d1 d.d2).trans x.arg,x.rl,x.rv,(h _ (a0 x.aow) d.e1 d.e2).trans x.aow,x.own,x.ond,x.dom,x.old,(h _ (a0 x.aab) d.ab.1 d.ab.2.1).trans x.aab,
  fun y hy=>⟨(h _ (a0 (x.av y hy).1) (d.as y hy).1 (d.as y hy).2.1).trans (x.av y hy).1,(x.av y hy).2⟩,x.g0⟩
theorem FS.ext(d:FD bk hd fo B rg ow ab as)(x:FS bk hd codes fo B P fl F rg ow ab as O Own cap G0 m0 H0 σ R os G m H mk f)(p:σ <+:σ'):FS bk hd codes fo B P fl F rg ow ab as O Own cap G0 m0 H0 σ' R os G m H mk f :=
 x.heap d (x.ms.ext p) fun n hn z_ z_=>by refine xe p fun τ q=>?_;subst q;exact au hn
theorem FS.setR(d:FD bk hd fo B rg ow ab as)(x:FS bk hd codes fo B P fl F rg ow ab as O Own cap G0 m0 H0 σ R os G m H mk f)(hi:i<7)(hv:iN v)(hr:∀p,ef v p→fE O mk G (F (.held (.int i))) p) :
  FS bk hd codes fo B P fl F rg ow ab as O Own cap G0 m0 H0 (σ.set rg (.list (R.set i v))) (R.set i v) os G m H mk f:=by
 refine ⟨x.ms.setOther d.d1 d.d2 d.d3 d.d4,x.fi,bq x.arg,by rw [bO];exact x.rl,fun j w hj=>?_,(aM d.ro).trans x.aow,x.own,x.ond,x.dom,x.old,(aM (aU d.ab.2.2.1)).trans x.aab,fun y hy=>⟨(aM (aU (d.as y hy).2.2.1)).trans (x.av y hy).1,(x.av y hy).2⟩,x.g0⟩;by_cases e:i=j
 ·subst e;rw [List.getElem?_set_self (by rw [x.rl];exact hi)] at hj;cases hj;exact ⟨hv,hr⟩
 ·rw [List.getElem?_set_ne e] at hj;exact x.rv j w hj
noncomputable def Frame(bk hd rg ow:Nat)(σ σ':Hp):Prop:=σ.length≤σ'.length∧∀n,n<σ.length→n≠bk→n≠hd→n≠rg→n≠ow→σ'[n]?=σ[n]?
theorem Frame.trans(x:Frame bk hd rg ow σ σ')(y:Frame bk hd rg ow σ' σ''):Frame bk hd rg ow σ σ'' :=
 ⟨am x.1 y.1,fun n hn h1 h2 h3 h4=>(y.2 n (al hn x.1) h1 h2 h3 h4).trans (x.2 n hn h1 h2 h3 h4)⟩
theorem Frame.pre(p:σ <+:σ'):Frame bk hd rg ow σ σ':=⟨bM p,fun n hn z_ z_ z_ z_=>by refine xe p fun τ q=>?_;subst q;exact au hn⟩
theorem Frame.setR:Frame bk hd rg ow σ (σ.set rg o):=⟨Nat.le_of_eq bO.symm,fun n z_ z_ z_ h z_=>aM (aU h)⟩
noncomputable abbrev nW(bk hd codes fo B:Nat)(P:cU)(fl:List (V×V))(F:Facts)(rg ow ab:Nat)(as:List (Nat×List V))(O:V→SetI→SetI)(Own:SetI)(cap:Int→SetI→SetI)(G0:SetI)(m0:Int)(H0:List (V×V))(σ:Hp)(G:SetI)(m:Int)(H:List (V×V))(f:Int)(Q:K1):Prop :=
 ∀σ' R' os' G' m' H' mk' f',FS bk hd codes fo B P fl F rg ow ab as O Own cap G0 m0 H0 σ' R' os' G' m' H' mk' f'→Frame bk hd rg ow σ σ'→qx H' f'≤qx H f+1→Q .none σ'
theorem xM{K:K1}(hv:iN v)(h1:∀n,v=.int n→K (.bool true) σ)(h2:(∀n,v≠.int n)→K (.bool false) σ):ic .isInt [v] σ K:=by
 rcases hv with (rfl | ⟨n,rfl⟩) | ⟨a,b,rfl,_,_⟩
 ·exact h2 fun n e=>by cases e
 ·exact h1 n rfl
 ·exact h2 fun n e=>by cases e
theorem iI{l:List (V×V)}{k':V}(h:(∃w,getD l k'=some w)∨k'=k):∃w,getD (dw l k v) k'=some w:=by
 rw [gO];by_cases e:k'=k
 ·exact ⟨v,if_pos e⟩
 ·rw [if_neg e];exact h.elim id fun q=>absurd q e
theorem Co{d s:V}(D:FD bk hd fo B rg ow ab as)(c:Cx O Own cap F G0 m0)(x:FS bk hd codes fo B P fl F rg ow ab as O Own cap G0 m0 H0 σ R os G m H mk f)(hd1:nk d)(hl:H.length<50000)(hm:0≤m0)(hks:s.key=true∧s.dep≤3)(hos:os.length<50000)
  (hfl:getD fl s=some (mark F s)) (hh:F (.held d) (tS s)) (hQ:nW bk hd codes fo B P fl F rg ow ab as O Own cap G0 m0 H0 σ G m H f Q):aY ba (n+1) ("","_law_step") [.obj bk,.obj rg,(Ln.new d s).vl,.obj ow,.obj ab] σ Q:=by
 refine bG hd1 fun i hi w=>?_;subst w;refine xe x.ms.abk fun be hbe=>?_;refine bs (d:=dG) rfl ae ae ?_;refine dz hbe rfl ?_;refine x.ms.setMade fun σ1 ms1 l1 k1=>?_;refine xe ms1.abk fun be1 hbe1=>?_;refine dz hbe1 rfl ?_;have hrg1:σ1[rg]?=some (.list R):=(k1 _ D.d1).trans x.arg;refine lO hrg1 x.rl hi ?_;have ms2:=ms1.setOther (a:=rg) (o:=.list (R.set i (.int (m+1)))) D.d1 D.d2 D.d3 D.d4;refine xe ms2.abk fun be2 hbe2=>?_;refine dz hbe2 rfl ?_;refine dz hbe2 rfl ?_;refine ms2.setHeld (v:=.none) (.inl (.inl rfl)) (bf hl (by decide)) fun σ3 ms3 l3 k3=>?_;refine xe ms3.abk fun be3 hbe3=>?_;refine xe ms3.afo fun fe hfe=>?_;have at3:∀n,n≠bk→n≠hd→n≠rg→σ3[n]?=σ[n]?:=fun n h1 h2 h3=>(k3 n h2).trans ((aM (aU h3)).trans (k1 n h1));have l33:σ.length≤σ3.length:=Nat.le_of_eq (by rw [l3,bO,l1]);have hrg3:σ3[rg]?=some (.list (R.set i (.int (m+1)))):=(k3 _ D.d2).trans (bq hrg1);have how3:σ3[ow]?=some (.list (os.map V.int)):=(at3 _ D.e1 D.e2 (aU D.ro)).trans x.aow;have fi':=FH c x.fi s;have hphi:qx (dw H (.int (m+1)) .none) f≤qx H f+1:=by
  delta qx;rw [Nat.add_right_comm];exact bL yb _
 have regs':∀(j:Nat) v,(R.set i (.int (m+1)))[j]?=some v→iN v∧∀p,ef v p→fE O (fun s' o=>mk s' o∨(s'=s∧o=m+1)) (fun o=>G o∨(F .gone s∧o=m+1)) (F (.held (.int j))) p:=fun j v hj=>by
  by_cases e:i=j
  ·subst e;rw [List.getElem?_set_self (by rw [x.rl];exact hi)] at hj;cases hj;exact ⟨.inl (.inr ⟨_,rfl⟩),fun p hp=>⟨tS s,hh,.inr (.inr ⟨s,rfl,.inr ⟨rfl,hp⟩⟩)⟩⟩
  ·rw [List.getElem?_set_ne e] at hj;have q:=x.rv j v hj;exact ⟨q.1,fun p hp=>(q.2 p hp).up c (fun z_=>.inl) fun z_ z_=>.inl⟩
 have old':∀o,o≤m0→(∃v,getD H0 (.int o)=some v)→∃v,getD (dw H (.int (m+1)) .none) (.int o)=some v:=fun o h1 h2=>iI (.inl (x.old o h1 h2));have dom':∀o,o∈os∨o=m+1→∃v,getD (dw H (.int (m+1)) .none) (.int o)=some v:=fun o h=>iI (h.imp (x.dom o) (congrArg V.int));have av':∀y∈as,σ3[y.1]?=some (.list y.2)∧∀v∈y.2,iN v∧∀p,ef v p→(G p∨(F .gone s∧p=m+1))∨Own p:=fun y hy =>
  have a:=D.as y hy
  ⟨(at3 _ a.1 a.2.1 a.2.2.1).trans (x.av y hy).1,fun v hv=>⟨((x.av y hy).2 v hv).1,fun p hp=>(((x.av y hy).2 v hv).2 p hp).imp .inl id⟩⟩
 have rl':(R.set i (V.int (m+1))).length=7:=by rw [bO];exact x.rl
 have ab':=(at3 _ D.ab.1 D.ab.2.1 D.ab.2.2.1).trans x.aab;refine dz hbe3 rfl ?_;refine pH hfe hks.1 (am hks.2 (by decide)) hfl ?_;by_cases hgo:F .gone s
 ·rw [BB hgo];exact hQ σ3 _ os _ (m+1) _ _ f ⟨ms3,fi',hrg3,rl',regs',how3,fun o=>(x.own o).trans ⟨fun z=>bG z fun s' h1 h2=>⟨s',.inl h1,h2⟩,fun u=>bG u fun s' h1 h2=>h1.elim (fun h1=>⟨s',h1,h2⟩) fun h=>absurd (h.1▸hgo) h2⟩,x.ond,fun o h=>dom' o (.inl h),old',ab',av',.inl x.g0⟩ ⟨l33,fun n z_ h1 h2 h3 z_=>at3 n h1 h2 h3⟩ hphi
 ·rw [BA hgo];refine ⟨xV how3 rfl,?_⟩;refine dz hbe3 rfl ?_;refine fh how3 (by rw [aJ];exact bf hos (by decide)) ?_;rw [show os.map V.int++[V.int (m+1)]=(os++[m+1]).map V.int by rw [List.map_append];rfl];have lt:∀o∈os,o≠m+1:=fun o h e=>by
   refine bG ((x.own o).mp h) fun s' h1 z_=>?_;exact absurd (x.fi.st.m4 s' o h1).2 (Int.not_le.mpr (e▸Int.lt_succ m))
  exact hQ (σ3.set ow (.list ((os++[m+1]).map V.int))) _ (os++[m+1]) _ (m+1) _ _ f ⟨ms3.setOther D.e1 D.e2 D.e3 D.e4,fi',(aM (aU D.ro)).trans hrg3,rl',regs',bq how3,fun o=>b9.trans ⟨fun h=>h.elim (fun h=>let ⟨s',h1,h2⟩:=(x.own o).mp h;⟨s',.inl h1,h2⟩) fun h=>⟨s,.inr ⟨rfl,h⟩,hgo⟩,fun t=>bG t fun s' h1 h2=>h1.imp (fun h1=>(x.own o).mpr ⟨s',h1,h2⟩) And.right⟩,
   List.nodup_append.mpr ⟨x.ond,List.nodup_cons.mpr ⟨an,List.nodup_nil⟩,fun a ha b hb=>by rw [aq.mp hb];exact lt a ha⟩,fun o h=>dom' o (b9.mp h),old',(aM (aU D.ab.2.2.2)).trans ab',fun y hy=>⟨(aM (aU (D.as y hy).2.2.2)).trans (av' y hy).1,(av' y hy).2⟩,.inl x.g0⟩ ⟨by rw [bO];exact l33,fun n h1 h2 h3 h4 h5=>(aM (aU h5)).trans (at3 n h2 h3 h4)⟩ hphi
end
section
variable{Own:SetI}{G0 G G':SetI}{m0 m:Int}{H H0:List (V×V)}{mk:V→SetI}{T T':V→Prop}
variable{bk hd codes fo:Nat}{P:cU}{f:Int}{rg ow ab:Nat}{R:List V}{os:List Int}
theorem FS.put(D:FD bk hd fo B rg ow ab as)(c:Cx O Own cap F G0 m0)(x:FS bk hd codes fo B P fl F rg ow ab as O Own cap G0 m0 H0 σ R os G m H mk f){g:Int}(hp:∀tb v,mO (cX F a) (cX F b) F tb v→F tb v)(hg:fE O mk G (cX F a) g)(hv:∀p,ef v p→fE O mk G (cX F b) p)
  (ms:jf bk hd codes fo B P fl σ' (dw H (.int g) v) m f) (h:∀n,n≠hd→σ'[n]?=σ[n]?):FS bk hd codes fo B P fl F rg ow ab as O Own cap G0 m0 H0 σ' R os G m (dw H (.int g) v) mk f:=by
 have keys:∀o,(∃w,getD H (.int o)=some w)→∃w,getD (dw H (.int g) v) (.int o)=some w:=fun o h=>iI (.inl h);exact ⟨ms,AU c x.fi hp hg hv,(h _ D.d2).trans x.arg,x.rl,x.rv,(h _ D.e2).trans x.aow,x.own,x.ond,fun o ho=>keys o (x.dom o ho),fun o h1 h2=>keys o (x.old o h1 h2),(h _ D.ab.2.1).trans x.aab,fun y hy=>⟨(h _ (D.as y hy).2.1).trans (x.av y hy).1,(x.av y hy).2⟩,x.g0⟩
theorem D1{a:Int}:qx (dw H (.int a) v) f≤qx H f+1:=by
 delta qx;rw [Nat.add_right_comm];exact bL yb _
theorem xc(D:FD bk hd fo B rg ow ab as)(c:Cx O Own cap F G0 m0)(x:FS bk hd codes fo B P fl F rg ow ab as O Own cap G0 m0 H0 σ R os G m H mk f)(ha:fQ a)(hb:fQ b)(hl:H.length<50000)
  (hp:∀tb v,mO (cX F a) (cX F b) F tb v→F tb v) (hQ:nW bk hd codes fo B P fl F rg ow ab as O Own cap G0 m0 H0 σ G m H f Q):aY ba (n+2) ("","_law_step") [.obj bk,.obj rg,(Ln.store a b).vl,.obj ow,.obj ab] σ Q:=by
 refine bs (d:=dG) rfl ae ae ?_;refine dR x.arg x.rl ha ?_;refine xM (x.rdVal ha) (fun g hg=>?_) fun hg=>?_
 ·refine xe x.ms.abk fun be hbe=>?_;refine dR x.arg x.rl hb ?_;refine dz hbe rfl ?_;rw [hg];refine x.ms.setHeld (x.rdVal hb) (bf hl (by decide)) fun σ1 ms1 l1 k1=>?_;exact hQ σ1 R os G m _ mk f (x.put D c hp (x.rd ha (by rw [hg];rfl)) (fun p hp=>x.rd hb hp) ms1 k1) ⟨Nat.le_of_eq l1.symm,fun n z_ z_ h2 z_ z_=>k1 n h2⟩ D1
 ·exact hQ σ R os G m H mk f x ⟨ax _,fun z_ z_ z_ z_ z_ z_=>rfl⟩ (Nat.le_succ _)
theorem z8{d:V}(D:FD bk hd fo B rg ow ab as)(c:Cx O Own cap F G0 m0)(x:FS bk hd codes fo B P fl F rg ow ab as O Own cap G0 m0 H0 σ R os G m H mk f)(hd1:nk d)(ha:fQ a)
  (hp:∀u,Hx F a u→F (.held d) u) (hQ:nW bk hd codes fo B P fl F rg ow ab as O Own cap G0 m0 H0 σ G m H f Q):aY ba (n+2) ("","_law_step") [.obj bk,.obj rg,(Ln.load d a).vl,.obj ow,.obj ab] σ Q:=by
 refine bG hd1 fun i hi q=>?_;subst q;refine bs (d:=dG) rfl ae ae ?_;refine dR x.arg x.rl ha ?_;have fin:∀v,iN v→(∀p,ef v p→fE O mk G (F (.held (.int i))) p)→dp (.obj rg) (.int i) v σ fun σ=>Q .none σ:=fun v h1 h2 =>
  lO x.arg x.rl hi (hQ _ _ os G m H mk f (x.setR D hi h1 h2) Frame.setR (Nat.le_succ _))
 refine xM (x.rdVal ha) (fun g hg=>?_) fun hg=>?_
 ·refine xe x.ms.abk fun be hbe=>?_;refine xe x.ms.ahd fun he hhe=>?_;refine dz hbe rfl ?_;refine ⟨EX hhe rfl,?_⟩;rw [hg];refine sg hhe rfl (aS _) ?_
  cases e:getD H (.int g) with
  | none=>(conv=>whnf);exact fin _ (.inl (.inl rfl)) fun p hp=>hp.elim
  | some v=>(conv=>whnf);exact fin v (x.ms.hv _ (hO e)).2 fun p hp'=>(DI c x.fi (x.rd ha (by rw [hg];rfl)) ⟨v,e,hp'⟩).mono hp
 ·exact fin _ (.inl (.inl rfl)) fun p hp=>hp.elim
theorem z9{d:V}(D:FD bk hd fo B rg ow ab as)(x:FS bk hd codes fo B P fl F rg ow ab as O Own cap G0 m0 H0 σ R os G m H mk f)(hd1:nk d)(ha:fQ a)
  (hp:∀u,cX F a u→F (.held d) u) (hQ:nW bk hd codes fo B P fl F rg ow ab as O Own cap G0 m0 H0 σ G m H f Q):aY ba (n+2) ("","_law_step") [.obj bk,.obj rg,(Ln.move d a).vl,.obj ow,.obj ab] σ Q:=by
 refine bG hd1 fun i hi q=>?_;subst q;refine bs (d:=dG) rfl ae ae ?_;refine dR x.arg x.rl ha ?_;refine lO x.arg x.rl hi ?_;exact hQ _ _ os G m H mk f (x.setR D hi (x.rdVal ha) fun p h=>(x.rd ha h).mono hp) Frame.setR (Nat.le_succ _)
theorem uX{p:Int}(h:V.int p=v):ef v p:=by rw [←h];rfl
theorem vd(D:FD bk hd fo B rg ow ab as)(x:FS bk hd codes fo B P fl F rg ow ab as O Own cap G0 m0 H0 σ R os G m H mk f)(ha:fQ a)(hb:fQ b)
  (hp:∀u,yt F [a,b] u→F (.held (.int 6)) u) (hQ:nW bk hd codes fo B P fl F rg ow ab as O Own cap G0 m0 H0 σ G m H f Q):aY ba (n+2) ("","_law_step") [.obj bk,.obj rg,(Ln.struct a b).vl,.obj ow,.obj ab] σ Q:=by
 have nl:∀{σ σ':Hp},bV [] σ σ':=fun z_ q=>(an q).elim;refine bs (d:=dG) rfl ae ae ?_;refine ⟨nl,?_⟩;refine dR x.arg x.rl ha ?_;refine p7 (x.rdVal ha) ⟨ae,nl,?_⟩;refine dR x.arg x.rl hb ?_;refine p7 (x.rdVal hb) ⟨ae,nl,?_⟩;have x1:=x.ext D (aD (τ:=[Ob.list [pZ (qe R a),pZ (qe R b)]]));refine vt (jd aI) ae ?_;refine lO (i:=6) x1.arg x1.rl (by decide) ?_;refine hQ _ _ os G m H mk f (x1.setR D (i:=6) (by decide) (.inr ⟨_,_,rfl,mN (x.rdVal ha),mN (x.rdVal hb)⟩) fun p h=>?_) ((Frame.pre aD).trans Frame.setR) (Nat.le_succ _);rcases aP.mp h with e | e
 ·exact (x.rd ha (oi (uX e))).mono fun t q=>hp t ⟨a,ai,q⟩
 ·exact (x.rd hb (oi (uX (aq.mp e)))).mono fun t q=>hp t ⟨b,aj _ ai,q⟩
theorem lN(pa:kU a)(h:a∈l){p:Int}(hp:ef a p):ef (.tup l) p:=by
 rcases pa with rfl | ⟨n,rfl⟩
 ·exact hp.elim
 ·have:p=n:=hp;exact this▸h
theorem Aa{d i':V}(D:FD bk hd fo B rg ow ab as)(x:FS bk hd codes fo B P fl F rg ow ab as O Own cap G0 m0 H0 σ R os G m H mk f)(hd1:nk d)(hi':i'=.int 0∨i'=.int 1)
  (hp:∀u,cX F (oR (.int 6)) u→F (.held d) u) (hQ:nW bk hd codes fo B P fl F rg ow ab as O Own cap G0 m0 H0 σ G m H f Q):aY ba (n+2) ("","_law_step") [.obj bk,.obj rg,(Ln.part d (oR (.int 6)) i').vl,.obj ow,.obj ab] σ Q:=by
 refine bG hd1 fun i hi y=>?_;subst y;have l6:6<R.length:=by rw [x.rl];decide
 have hv:=aC l6;have n6:DT R 6=some R[6]:=hv;have xr:=x.rv 6 _ hv;have lb:R.length<big:=by rw [x.rl];decide
 generalize R[6]=v at hv n6 xr;have fin:∀w,iN w→(∀p,ef w p→ef v p)→dp (.obj rg) (.int i) w σ fun σ=>Q .none σ:=fun w h1 h2 =>
  lO x.arg x.rl hi (hQ _ _ os G m H mk f (x.setR D hi h1 fun p h=>(xr.2 p (h2 p h)).mono fun t q=>hp t (.inl ⟨_,rfl,q⟩)) Frame.setR (Nat.le_succ _))
 refine bs (d:=dG) rfl ae ae ?_;refine cQ x.arg lb n6 ?_;rcases xr.1 with (rfl | ⟨n,rfl⟩) | ⟨a,b,rfl,pa,pb⟩
 ·(conv=>whnf);exact fin _ (.inl (.inl rfl)) fun z_ h=>h.elim
 ·(conv=>whnf);exact fin _ (.inl (.inl rfl)) fun z_ h=>h.elim
 ·refine cQ x.arg lb n6 ?_;rcases hi' with rfl | rfl
  ·(conv=>whnf);exact fin a (.inl pa) fun p h=>lN pa ai h
  ·(conv=>whnf);exact fin b (.inl pb) fun p h=>lN pb (aj _ ai) h
end
section
variable{Own:SetI}{G0 G G':SetI}{m0 m:Int}{H H0:List (V×V)}{mk:V→SetI}{T T':V→Prop}
theorem ny{p:V×V}{r:List (V×V)}:oA (p::r) k=if p.1=k then r else p::oA r k:=by
 delta oA fW;rw [List.findIdx?_cons];by_cases h:p.1=k
 ·rw [if_pos h,if_pos (V.deq_iff.mpr h)];rfl
 ·rw [if_neg h,if_neg (by rw [V.deq_ne h];decide)]
  cases List.findIdx? (fun p:V×V=>V.deq p.1 k) r with
  | none=>rfl
  | some i=>rfl
theorem xI{l:List (V×V)}(h:k∉l.map (·.1)):getD l k=none:=by
 cases e:getD l k with
 | none=>rfl
 | some v=>exact absurd (bH.mpr ⟨_,hO e,rfl⟩) h
theorem rf{k k':V}:∀{l:List (V×V)},(l.map (·.1)).Nodup→getD (oA l k) k'=if k'=k then none else getD l k'
 | [],_=>by
  split<;>rfl
 | p::r,hn=>by
  refine xa (List.nodup_cons.mp hn) fun h1 h2=>?_;rw [ny];by_cases h:p.1=k
  ·rw [if_pos h,dP];by_cases e:k'=k
   ·rw [if_pos e];exact xI (by rw [e,←h];exact h1)
   ·rw [if_neg e,if_neg (fun q=>e (q.symm.trans h))]
  ·rw [if_neg h,dP,rf h2,dP];by_cases e:p.1=k'
   ·rw [if_pos e,if_pos e,if_neg (fun q=>h (e.trans q))]
   ·rw [if_neg e,if_neg e]
theorem uK{k:V}{p:V×V}:∀{l:List (V×V)},p∈oA l k→p∈l
 | [],h=>by cases h
 | q::r,h=>by
  rw [ny] at h
  split at h
  ·exact aj _ h
  ·rcases aP.mp h with rfl | h
   ·exact ai
   ·exact aj _ (uK h)
theorem pn{k:V}:∀{l:List (V×V)},(oA l k).length≤l.length
 | []=>ax _
 | p::r=>by
  rw [ny]
  split
  ·exact Nat.le_succ _
  ·exact Nat.succ_le_succ pn
variable{bk hd codes fo:Nat}{P:cU}{f:Int}{rg ow ab:Nat}{R:List V}{os:List Int}
theorem Dl{l:List (V×V)}{e:Nat}{i:Int}{u:V}(h:σ[n]?=some (.dict l e))(hl:l.length<big)(h2:getD l (.int i)=some u)(q:Q u (σ.set n (pq l e (.int i)))):vF .dpop (.obj n) [.int i] σ Q:=by
 exact i6 h ⟨rfl,hl,aw h2 q⟩
theorem jf.drop(x:jf bk hd codes fo B P fl σ H m f){a:Int}{u:V}{K:K1}(hu:getD H (.int a)=some u)(hl:H.length<100000)(hQ:∀σ',jf bk hd codes fo B P fl σ' (oA H (.int a)) m f→σ'.length=σ.length→(∀n,n≠hd→σ'[n]?=σ[n]?)→K u σ'):vF .dpop (.obj hd) [.int a] σ K:=by
 refine xe x.ahd fun e he=>?_;exact Dl he (bf hl (by decide)) hu (hQ _ ⟨x.abk.imp fun e q=>(aM (aU x.n1)).trans q,⟨_,bq he⟩,x.afo.imp fun e q=>(aM (aU x.n3)).trans q,x.cd.same fun n hn=>aM (aU (aN (al hn x.n5))),fun p hp=>x.hv p (uK hp),uz _ x.hn,x.n1,x.n2,x.n3,x.n4,x.n5⟩ bO fun n hn=>aM (aU hn))
theorem BS(hoh:ow≠hd){os:List Int}:∀{H:List (V×V)} {loc:Loc} {σ:Hp},os.Nodup→jf bk hd codes fo B P fl σ H m f→σ[ow]?=σ₀[ow]?→(∀o∈os,∃v,getD H (.int o)=some v)→H.length<100000→loc "book"=some (.obj bk)→
  (∀loc' σ' H',bT ["one"] loc loc'→jf bk hd codes fo B P fl σ' H' m f→σ'.length=σ.length→(∀n,n≠hd→σ'[n]?=σ[n]?)→(∀o:Int,getD H' (.int o)=if o∈os then none else getD H (.int o))→H'.length≤H.length→QQ .next loc' σ')→
  eV (bV [ow] σ₀) (.name "one") (dW (aY ba n) iS) (os.map V.int) loc σ QQ:=by
 induction os with
 | nil=>intro H loc σ nd x hs hd' hl hb hQ;exact ⟨fun k q=>by rw [aq.mp q];exact hs,hQ loc σ H .refl x rfl (fun z_ z_=>rfl) (fun o=>(if_neg an).symm) (ax _)⟩
 | cons o os ih =>
  intro H loc σ nd x hs hd' hl hb hQ;refine ⟨fun k q=>by rw [aq.mp q];exact hs,?_⟩;have nn:=List.nodup_cons.mp nd;refine xe x.abk fun be hbe=>?_;refine xe x.ahd fun he hhe=>?_;refine xe (hd' o ai) fun u hu=>?_;refine aw hb ?_;refine dz hbe rfl ?_;refine ⟨EX hhe rfl,?_⟩;refine x.drop hu hl fun σ1 x1 l1 k1=>?_;have gd:∀o':Int,getD (oA H (.int o)) (.int o')=if o'=o then none else getD H (.int o'):=fun o'=>by
   rw [rf x.hn];by_cases e:o'=o
   ·rw [if_pos e,if_pos (congrArg V.int e)]
   ·rw [if_neg e,if_neg (fun q=>e (V.int.inj q))]
  refine ih nn.2 x1 ((k1 _ hoh).trans hs) (fun o' ho'=>?_) (ay pn hl) hb fun loc' σ' H' ag' x' l' k' g' hl'=>hQ loc' σ' H' ((bT.refl.set ai).trans ag') x' (l'.trans l1) (fun n hn=>(k' n hn).trans (k1 n hn)) (fun o'=>?_) (am hl' pn)
  ·rw [gd,if_neg (fun e:o'=o=>nn.1 (e▸ho'))];exact hd' o' (aj _ ho')
  ·rw [g',gd];by_cases e1:o'∈os
   ·rw [if_pos e1,if_pos (aj _ e1)]
   ·rw [if_neg e1];by_cases e2:o'=o
    ·rw [if_pos e2,if_pos (e2▸ai)]
    ·rw [if_neg e2,if_neg fun q=>(aP.mp q).elim e2 e1]
theorem v3{l:Loc}{K:List V→Hp→Prop}(hg:gd σ){ys:List V}:∀{acc:List V},n+acc.length+ys.length<10000→K (acc++ys) σ→
  dL gd (.name "value") l (eW (iK C fS) (ev C fR)) n ys acc σ K:=by
 induction ys with
 | nil=>intro acc _ hk;exact ⟨hg,bn acc▸hk⟩
 | cons y ys ih =>
  intro acc hl hk;rw [List.append_cons] at hk;rw [List.length_cons] at hl;refine ⟨hg,?_⟩;exact ⟨by show n+acc.length+1<big;unfold big;omega,ih (by rw [aO,List.length_singleton];omega) hk⟩
theorem v4{l:Loc}{K:List V→Hp→Prop}(hg:gd σ):∀{acc:List V},(∀y∈as,σ[y.1]?=some (.list y.2))→acc.length+(as.flatMap (·.2)).length<10000→K (acc++as.flatMap (·.2)) σ→
  dL gd (.name "one") l (su .over (.name "value") (pz C [.var "one"]) (eW (iK C fS) (ev C fR))) 0 (as.map fun y=>V.obj y.1) acc σ K:=by
 induction as with
 | nil=>intro acc _ _ hk;exact ⟨hg,bn acc▸hk⟩
 | cons y as ih =>
  intro acc ha hl hk;rw [List.flatMap_cons,←aR] at hk;rw [List.flatMap_cons,aO] at hl;refine ⟨hg,?_⟩;refine aw (ch (ha y ai)) ?_;refine v3 (ys:=y.2) (fun z_ z_=>rfl) (by rw [List.length_nil];omega) ?_;exact ⟨by show 0+acc.length+y.2.length<big;unfold big;omega,ih (fun z hz=>ha z (aj _ hz)) (by rw [List.nil_append,aO];omega) hk⟩
theorem iY{os:List Int}:V.dats (os.map V.int)=true∧V.deps (os.map V.int)=0:=by
 induction os with
 | nil=>exact ⟨rfl,rfl⟩
 | cons a r ih=>exact ⟨ih.1,ih.2▸rfl⟩
theorem BC{os:List Int}{o:Int}:V.int o∈os.map V.int↔o∈os:=List.mem_map.trans ⟨fun q=>bG q fun a h e=>by cases e;exact h,fun h=>⟨o,h,rfl⟩⟩
theorem wC{l:Loc}{K:List V→Hp→Prop}(hg:gd σ)(how:σ[ow]?=some (.list (os.map V.int)))(hl:cw ["one"] l "owned"=some (.obj ow))(hf:∀v∈fs,∃n,v=.int n∧n∉os)(hk:K [] σ) :
  dL gd (.name "one") (cw ["one"] l) (eW (iK C iU) (ev C iT)) 0 fs [] σ K:=by
 induction fs with
 | nil=>exact ⟨hg,hk⟩
 | cons v fs ih =>
  refine ⟨hg,?_⟩;refine bG (hf v ai) fun o x ho=>?_;subst x;refine aw hl ?_;refine oJ (un how rfl (aS _) iY.1 (iY.2▸aS _)) ?_;rw [decide_eq_false fun q=>ho (BC.mp q)];exact ⟨ae,ih (fun w hw=>hf w (aj _ hw))⟩
end
section
variable{Own:SetI}{G0 G G':SetI}{m0 m:Int}{H H0:List (V×V)}{mk:V→SetI}{T T':V→Prop}
variable{bk hd codes fo:Nat}{P:cU}{f:Int}{rg ow ab:Nat}{R:List V}{os:List Int}{F:V→Facts}
structure qw(P:cU)(F:V→Facts)(fl:List (V×V)):Prop where
 ok:P.Ok
 cl:cv P F
 mks:∀k∈bw,∀s∈P.news k,getD fl s=some (mark (F k) s)
 mok:∀k∈bw,∀x∈P.ls k,x.mok
 ra:∀k∈bw,fQ (P.a k)
 rb:∀k∈bw,fQ (P.b k)
 few:∀k∈bw,(P.ls k).length≤20
noncomputable def rT(bk hd codes fo B:Nat)(P:cU)(F:V→Facts)(fl:List (V×V))(n j:Nat):Prop :=
 ∀{σ:Hp} {k x y:V} {gv ab:Nat} {as:List (Nat×List V)} {O:V→SetI→SetI} {Own:SetI} {cap:Int→SetI→SetI} {G:SetI} {m f:Int} {H:List (V×V)} {Q:K1},k∈bw→jf bk hd codes fo B P fl σ H m f→Cx O Own cap (F k) G m→
  σ[gv]?=some (.list [x,y])→iN x→iN y→(∀p,ef x p→O (.int 0) G p)→(∀p,ef y p→O (.int 1) G p)→σ[ab]?=some (.list (as.map fun x=>V.obj x.1))→5≤as.length+j→as.length≤5→ab≠bk→ab≠hd→
  (∀z∈as,(σ[z.1]?=some (.list z.2)∧z.1≠bk∧z.1≠hd∧z.2.length≤7)∧∀v∈z.2,iN v∧∀p,ef v p→G p∨Own p)→
  (∀o,G o→∀p,cont H o p→G p)→(∀o,Own o→∀p,cont H o p→cap o G p)→(∀o,G o→o≤m)→G 0→0≤m→qx H f≤2000→
  (∀σ' H' m' f' G' t0 t1,jf bk hd codes fo B P fl σ' H' m' f'→σ.length≤σ'.length→(∀n,n<σ.length→n≠bk→n≠hd→σ'[n]?=σ[n]?)→tD G m G'→m≤m'→(∀o,G' o→∀p,cont H' o p→G' p)→(∀o,Own o→∀p,cont H' o p→cap o G' p)→(∀o,G' o→o≤m')→iN t0→iN t1→
   (∀p,ef t0 p→∃x,F k (.told (.int 0)) x∧O x G' p)→(∀p,ef t1 p→∃x,F k (.told (.int 1)) x∧O x G' p)→qx H' f'≤qx H f→(∀o,o≤m→(∃v,getD H (.int o)=some v)→∃v,getD H' (.int o)=some v)→Q (.tup [t0,t1]) σ')→
  aY ba n ("","_law_called") [.obj bk,k,.obj gv,.obj ab] σ Q
theorem f5(M:qw P F fl)(hk:k∈bw){x:Ln}(hx:x∈P.ls k)(h:xP F x (F k) tb v):F k tb v:=(M.cl k hk).2 tb v (.inl ⟨x,hx,h⟩)
theorem pY(M:qw P F fl)(hk:k∈bw)(h:wu (P.a k) (P.b k) (F k) tb v):F k tb v:=(M.cl k hk).2 tb v (.inr h)
theorem FS.call{σ4:Hp}{H4:List (V×V)}{m4 f4:Int}{G4:SetI}(D:FD bk hd fo B rg ow ab as)(c:Cx O Own cap (F k) G0 m0)(x:FS bk hd codes fo B P fl (F k) rg ow ab as O Own cap G0 m0 H0 σ R os G m H mk f)
  (ms4:jf bk hd codes fo B P fl σ4 H4 m4 f4) (k4:∀n,n<σ.length→n≠bk→n≠hd→σ4[n]?=σ[n]?) (ext4:tD G m G4) (lm4:m≤m4) (g14:∀o,G4 o→∀p,cont H4 o p→G4 p)
  (g24:∀o,CX Own mk (F k) o→∀p,cont H4 o p→GL O Own cap mk (F k) o G4 p) (gm4:∀o,G4 o→o≤m4) (keys4:∀o,o≤m→(∃v,getD H (.int o)=some v)→∃v,getD H4 (.int o)=some v) :
  FS bk hd codes fo B P fl (F k) rg ow ab as O Own cap G0 m0 H0 σ4 R os G4 m4 H4 mk f4:=by
 have fst:=x.fi.st;have st4:=fst.later ext4;have at4:∀{n o},n≠bk→n≠hd→σ[n]?=some o→σ4[n]?=some o:=fun {n o} h1 h2 h3=>(k4 n (a0 h3) h1 h2).trans h3;have om:∀o∈os,o≤m:=fun o ho=>let ⟨s,h1,_⟩:=(x.own o).mp ho;(fst.m4 s o h1).2
 have fi4:Fi O Own cap (F k) G0 m0 G4 m4 H4 mk:=by
  refine ⟨⟨st4.ext,Int.le_trans fst.le lm4,st4.m1,st4.m2,st4.m3,fun s o h=>⟨(fst.m4 s o h).1,Int.le_trans (fst.m4 s o h).2 lm4⟩⟩,g14,fun o ho p hp=>?_,fun s o h1 h2 p hp=>?_,gm4⟩
  ·exact (g24 o (.inl ho) p hp).elim And.right fun w=>bG w fun s q z_=>absurd ho (fst.mkOwn c q)
  ·exact (g24 o (.inr ⟨s,h1,h2⟩) p hp).elim (fun q=>absurd q.1 (fst.mkOwn c h1)) fun y=>bG y fun s' q q2=>fst.m3 _ _ _ q h1▸q2
 exact ⟨ms4,fi4,at4 D.d1 D.d2 x.arg,x.rl,fun i v hi=>⟨(x.rv i v hi).1,fun p hp=>((x.rv i v hi).2 p hp).up c ext4.1 fun z_ z_=>id⟩,at4 D.e1 D.e2 x.aow,x.own,x.ond,fun o ho=>keys4 o (om o ho) (x.dom o ho),fun o h1 h2=>keys4 o (Int.le_trans h1 fst.le) (x.old o h1 h2),at4 D.ab.1 D.ab.2.1 x.aab,
  fun z hz=>⟨at4 (D.as z hz).1 (D.as z hz).2.1 (x.av z hz).1,fun v hv=>⟨((x.av z hz).2 v hv).1,fun p hp=>(((x.av z hz).2 v hv).2 p hp).imp (ext4.1 p) id⟩⟩,ext4.1 0 x.g0⟩
theorem FS.aboves(D:FD bk hd fo B rg ow ab as)(c:Cx O Own cap (F k) G0 m0)(x:FS bk hd codes fo B P fl (F k) rg ow ab as O Own cap G0 m0 H0 σ R os G m H mk f)(hal:∀z∈as,z.2.length≤7):∀z∈as++[(rg,R)],(σ[z.1]?=some (.list z.2)∧z.1≠bk∧z.1≠hd∧z.2.length≤7)∧∀v∈z.2,iN v∧∀p,ef v p→G p∨CX Own mk (F k) p:=fun z hz=>by
 rcases b9.mp hz with hz | rfl
 ·have z1:=x.av z hz;have a:=D.as z hz;exact ⟨⟨z1.1,a.1,a.2.1,hal z hz⟩,fun v hv=>⟨(z1.2 v hv).1,fun p hp=>((z1.2 v hv).2 p hp).imp id .inl⟩⟩
 ·refine ⟨⟨x.arg,D.d1,D.d2,Nat.le_of_eq x.rl⟩,fun v hv=>?_⟩;obtain ⟨i,hi,e⟩:=List.getElem_of_mem hv;have q:=x.rv i v (by rw [aC hi,e]);exact ⟨q.1,fun p hp=>x.fi.st.where' c (q.2 p hp)⟩
theorem z7{j:Nat}{d1 d2 k':V}(M:qw P F fl)(hk:k∈bw)(hx:Ln.call d1 d2 k' a b∈P.ls k)(ih:rT bk hd codes fo B P F fl n j)(D:FD bk hd fo B rg ow ab as)(c:Cx O Own cap (F k) G0 m0)(x:FS bk hd codes fo B P fl (F k) rg ow ab as O Own cap G0 m0 H0 σ R os G m H mk f)
  (hj:5≤as.length+(j+1)) (has:as.length≤4) (hal:∀z∈as,z.2.length≤7) (hm:0≤m0) (hphi:qx H f≤1999) (hn:1≤n)
  (hQ:nW bk hd codes fo B P fl (F k) rg ow ab as O Own cap G0 m0 H0 σ G m H f Q):aY ba (n+1) ("","_law_step") [.obj bk,.obj rg,(Ln.call d1 d2 k' a b).vl,.obj ow,.obj ab] σ Q:=by
 cases n with
 | zero=>exact absurd hn (by decide)
 | succ n =>
 refine nU (M.mok k hk _ hx) fun w u ha hb=>?_;refine bG w fun i1 hi1 r=>?_;subst r;refine bG u fun i2 hi2 i=>?_;subst i;have hk':k'∈bw:=(M.ok.ls k hk _ hx).2.2.1;have hcl:∀tb v,f9 (F k') a b (.int i1) (.int i2) (F k) tb v→F k tb v:=fun tb v q=>f5 M hk hx q;have nl:∀{σ σ':Hp},bV [] σ σ':=fun z_ q=>(an q).elim;have x1:=x.ext D (aD (τ:=[Ob.list [qe R a,qe R b]]));have x2:=x1.ext D (aD (τ:=[Ob.list [V.obj rg]]));have x3:=x2.ext D (aD (τ:=[Ob.list ((as++[(rg,R)]).map fun x=>V.obj x.1)]));have p3:σ <+:σ++[Ob.list [qe R a,qe R b]]++[Ob.list [V.obj rg]]++[Ob.list ((as++[(rg,R)]).map fun x=>V.obj x.1)]:=(aD.trans aD).trans aD;have l5:(as++[(rg,R)]).length=as.length+1:=aO;have fst:=x.fi.st;refine bs (d:=dG) rfl ae ae ?_;refine ⟨nl,?_⟩;refine dR x.arg x.rl ha ⟨ae,nl,?_⟩;refine dR x.arg x.rl hb ⟨ae,nl,?_⟩;refine eM x2.aab (eM aI ⟨by rw [aJ];exact ay (bL has 1) (by decide),?_⟩);rw [show (as.map fun x=>V.obj x.1)++[V.obj rg]=(as++[(rg,R)]).map fun x=>V.obj x.1 by rw [List.map_append];rfl];refine ih hk' x3.ms (yz c fst hcl) (aT (aT aI)) (x.rdVal ha) (x.rdVal hb) (fun p hp=>(x.rd ha hp).mono fun t q=>.inl ⟨rfl,t,q,.refl⟩) (fun p hp=>(x.rd hb hp).mono fun t q=>.inr (.inl ⟨rfl,t,q,.refl⟩)) aI (by rw [l5];omega) (by rw [l5];omega) (aU (aN (al (x2.ms.lt.1) (ax _)))) (aU (aN (al (x2.ms.lt.2.1) (ax _)))) (x3.aboves D c hal) x.fi.g1
  (fun o ho p hp=>ho.elim (fun ho=>.inl ⟨ho,x.fi.g2 o ho p hp⟩) fun h=>bG h fun s h1 h2=>.inr ⟨s,h1,x.fi.g3 s o h1 h2 p hp⟩) x.fi.gm x.g0 (Int.le_trans hm fst.le) (bD hphi) fun σ4 H4 m4 f4 G4 t0 t1 ms4 le4 k4 ext4 lm4 g14 g24 gm4 v0 v1 r0 r1 phi4 keys4=>?_
 have k4':∀n,n<σ.length→n≠bk→n≠hd→σ4[n]?=σ[n]?:=fun n hn h1 h2=>(k4 n (al hn (bM p3)) h1 h2).trans (by rw [aR,aR,au hn]);have x4:=x.call D c ms4 k4' ext4 lm4 g14 g24 gm4 keys4;have x5:=x4.setR D hi1 v0 fun p hp=>let ⟨y,h1,h2⟩:=r0 p hp;fE.mono (fun t ht=>hcl _ _ (.inr (.inr (.inl ⟨y,h1,rfl,ht⟩)))) h2
 have x6:=x5.setR D hi2 v1 fun p hp=>let ⟨y,h1,h2⟩:=r1 p hp;fE.mono (fun t ht=>hcl _ _ (.inr (.inr (.inr ⟨y,h1,rfl,ht⟩)))) h2
 refine ⟨nl,?_⟩;refine lO x4.arg x4.rl hi1 ?_;refine ⟨nl,?_⟩;refine lO x5.arg x5.rl hi2 ?_;refine ⟨nl,?_⟩;exact hQ _ _ os G4 m4 H4 mk f4 x6 ⟨by rw [bO,bO];exact am (bM p3) le4,fun n hn h1 h2 h3 h4=>(aM (aU h3)).trans ((aM (aU h3)).trans (k4' n hn h1 h2))⟩ (bD phi4)
end
section
variable{Own:SetI}{G0 G G':SetI}{m0 m:Int}{H H0:List (V×V)}{mk:V→SetI}{T T':V→Prop}
variable{bk hd codes fo:Nat}{P:cU}{f:Int}{rg ow ab:Nat}{R:List V}{os:List Int}{F:V→Facts}
theorem CR:∀{l:List V},(∀v∈l,iN v)→yp l≤6*l.length
 | [],_=>ax _
 | x::r,h=>by
  show wt x+yp r≤6*(r.length+1);rw [Nat.mul_succ,Nat.add_comm];exact Nat.add_le_add (CR fun y hy=>h y (aj _ hy)) (xo (h x ai)).2
theorem Aj:jU H []≤H.length:=by
 have:=List.length_filter_le (fun k=>decide (k∉([]:List V))) (H.map (·.1));rw [aJ] at this;exact this
theorem wq{sm:Nat}{vals:List V}{A:V→Prop}(ms:jf bk hd codes fo B P fl σ H m f)(hs:σ[sm]?=some (.list vals))(hv:∀v∈vals,iN v∧A v)(hl:vals.length<1000)(hH:H.length≤3000)
  (hA:∀n v,A (.int n)→getD H (.int n)=some v→A v) (hT:∀l,A (.tup l)→∀v∈l,A v) (hN:A .none)
  (hQ:∀r σ' fs,σ <+:σ'→σ'[r]?=some (.list fs)→(∀v∈fs,(∃n,v=.int n)∧A v)→fs.length≤200000→Q (.obj r) σ'):aY ba (n+1) ("","_law_leads") [.obj bk,.obj sm] σ Q:=by
 refine xe ms.abk fun be hbe=>?_;refine xe ms.ahd fun he hhe=>?_;have w1:=CR fun v q=>(hv v q).1;have w2:=Aj (H:=H);refine bs (d:=lY) rfl ae ae ?_;refine jz (hU (aT hs)) (bf hl (by decide)) ?_;refine ⟨40001,?_⟩;refine wo (A:=A) (n:=40000) (ls:=vals) (fs:=[]) hbe hhe ms.hv (lf:=(σ++[Ob.list []]).length) (fd:=σ.length) (bM aD) (ax _) (aU (aN (a0 aI))) hA hT hN ⟨aD.trans aD,aI,aT aI,hv,fun v hv=>(an hv).elim,by omega,by rw [List.length_nil];decide⟩ rfl rfl rfl fun loc' σ' fs' ag p hr hf hl'=>?_;refine aw (ag.at (by decide) rfl) ?_;exact hQ _ σ' fs' p hr hf hl'
theorem yN{F:Facts}(x:FS bk hd codes fo B P fl F rg ow ab as O Own cap G0 m0 H0 σ R os G m H mk f):os.length≤H.length:=by
 have h2:=cM (l:=os.map V.int) (m:=H.map (·.1)) (List.Pairwise.map _ (fun a b h e=>h (V.int.inj e)) x.ond) fun v hv=>by
  refine bG (List.mem_map.mp hv) fun o ho q=>?_;subst q;refine xe (x.dom o ho) fun v hv=>?_;exact bH.mpr ⟨_,hO hv,rfl⟩
 rwa [aJ,aJ] at h2
theorem Cn{j:Nat}{y:Ln}(M:qw P F fl)(hk:k∈bw)(hy:y∈P.ls k)(ih:rT bk hd codes fo B P F fl (n+1) j)(D:FD bk hd fo B rg ow ab as)(c:Cx O Own cap (F k) G0 m0)(x:FS bk hd codes fo B P fl (F k) rg ow ab as O Own cap G0 m0 H0 σ R os G m H mk f)
  (hj:5≤as.length+(j+1)) (has:as.length≤4) (hal:∀z∈as,z.2.length≤7) (hm:0≤m0) (hphi:qx H f≤1999) (sp:nW bk hd codes fo B P fl (F k) rg ow ab as O Own cap G0 m0 H0 σ G m H f Q):aY ba (n+2) ("","_law_step") [.obj bk,.obj rg,y.vl,.obj ow,.obj ab] σ Q:=by
 have mok:=M.mok k hk y hy;have hH:H.length<50000:=ay (am (aW _ _) hphi) (by decide)
 cases y with
 | new d s =>
  have hs:s∈P.news k:=List.mem_flatMap.mpr ⟨_,hy,ai⟩;exact Co D c x mok hH hm (M.ok.key k hk s hs) (ay (yN x) hH) (M.mks k hk s hs) (f5 M hk hy (.inr ⟨rfl,rfl⟩)) sp
 | store a b=>exact xc D c x mok.1 mok.2 hH (fun tb v q=>f5 M hk hy q) sp
 | load d a=>exact z8 D c x mok.1 mok.2 (fun u q=>f5 M hk hy ⟨rfl,q⟩) sp
 | move d a=>exact z9 D x mok.1 mok.2 (fun u q=>f5 M hk hy ⟨rfl,q⟩) sp
 | struct a b=>exact vd D x mok.1 mok.2 (fun u q=>f5 M hk hy ⟨rfl,q⟩) sp
 | part d a i =>
  refine ni mok fun h1 w h3=>?_;subst w;exact Aa D x h1 h3 (fun u q=>f5 M hk hy ⟨rfl,q⟩) sp
 | call d1 d2 k' a b=>exact z7 M hk hy ih D c x hj has hal hm hphi (Nat.le_add_left _ _) sp
theorem wy{N j:Nat}{li:Nat}(M:qw P F fl)(hk:k∈bw)(ih:rT bk hd codes fo B P F fl (N+2*j+5) j)(D:FD bk hd fo B rg ow ab as)(c:Cx O Own cap (F k) G0 m0)
  (hj:5≤as.length+(j+1)) (has:as.length≤4) (hal:∀z∈as,z.2.length≤7) (hm:0≤m0) (hliB:li<B) {rest:List Ln}:∀{loc:Loc} {σ:Hp} {R:List V} {os:List Int} {G:SetI} {m:Int} {H:List (V×V)} {mk:V→SetI} {f:Int},(∀x∈rest,x∈P.ls k)→FS bk hd codes fo B P fl (F k) rg ow ab as O Own cap G0 m0 H0 σ R os G m H mk f→σ[li]?=σ₀[li]?→
  loc "book"=some (.obj bk)→loc "registers"=some (.obj rg)→loc "owned"=some (.obj ow)→loc "above"=some (.obj ab)→qx H f+rest.length≤1999→
  (∀loc' σ' R' os' G' m' H' mk' f',bT ["line"] loc loc'→FS bk hd codes fo B P fl (F k) rg ow ab as O Own cap G0 m0 H0 σ' R' os' G' m' H' mk' f'→Frame bk hd rg ow σ σ'→qx H' f'≤qx H f+rest.length→QQ .next loc' σ')→
  eV (bV [li] σ₀) (.name "line") (dW (aY ba (N+2*j+6)) iR) (rest.map Ln.vl) loc σ QQ:=by
 induction rest with
 | nil =>
  intro loc σ R os G m H mk f hr x hl b1 b2 b3 b4 hphi hQ;exact ⟨fun q hq=>by rw [aq.mp hq];exact hl,hQ loc σ R os G m H mk f .refl x ⟨ax _,fun z_ z_ z_ z_ z_ z_=>rfl⟩ (ax _)⟩
 | cons y rest ihr =>
  intro loc σ R os G m H mk f hr x hl b1 b2 b3 b4 hphi hQ;have hy:=hr y ai;rw [List.length_cons] at hphi hQ;refine ⟨fun q hq=>by rw [aq.mp hq];exact hl,?_⟩;refine aw b1 ?_;refine aw b2 ?_;refine aw b3 ?_;refine aw b4 ?_;refine Cn (n:=N+2*j+4) M hk hy ih D c x hj has hal hm (am (aW _ _) hphi) fun σ' R' os' G' m' H' mk' f' x' fr' ph'=>?_;have ne:∀{a},B≤a→li≠a:=fun h=>aN (al hliB h);refine ihr (fun z hz=>hr z (aj _ hz)) x' ((fr'.2 li (al hliB x.ms.lt.2.2.2) (ne x.ms.n4) (ne x.ms.n5) (ne D.d4) (ne D.e4)).trans hl) b1 b2 b3 b4 (by omega) fun loc'' σ'' R'' os'' G'' m'' H'' mk'' f'' ag' x'' fr'' ph''=>hQ loc'' σ'' R'' os'' G'' m'' H'' mk'' f'' ((bT.refl.set ai).trans ag') x'' (fr'.trans fr'') (by omega)
end
section
variable{Own:SetI}{G0 G G':SetI}{m0 m:Int}{H H0:List (V×V)}{mk:V→SetI}{T T':V→Prop}
variable{bk hd codes fo:Nat}{P:cU}{f:Int}{rg ow ab:Nat}{R:List V}{os:List Int}{F:V→Facts}
theorem yl(M:qw P F fl)(hk:k∈bw)(c:Cx O Own cap (F k) G0 m0)(x:FS bk hd codes fo B P fl (F k) rg ow ab as O Own cap G0 m0 H0 σ R os G m H mk f){i:V}{op:V}(ho:fQ op)(hl:∀tb v,pL i op (F k) tb v→F k tb v){p:Int}(hp:ef (qe R op) p):∃y,F k (.told i) y∧O y G p:=by
 obtain ⟨t,ht,q⟩:=x.rd ho hp;refine ⟨kt t,hl _ _ (.inl ⟨rfl,t,ht,rfl⟩),?_⟩;rcases q with ⟨rfl,q⟩ | ⟨j,rfl,q⟩ | ⟨s,rfl,q⟩
 ·exact (c.neg G p).mpr q
 ·rw [sT];exact q
 ·rw [sU,c.neg];exact x.fi.st.m1 s p q (hl _ _ (.inr ⟨tS s,⟨tS s,⟨ht,s,rfl⟩,.refl⟩,.inl ⟨rfl,rfl⟩⟩))
theorem oL{a:Nat}{y:Int}{x:List V}(h:σ[a]?=some (.list x))(h0:0≤y)(h1:y<100)(hx:x.length<100)(q:Q (.obj σ.length) (σ++[.list (List.replicate y.toNat x).flatten])):yw .mul (.obj a) (.int y) σ Q:=by
 exact eM h ⟨h0,h1,hx,q⟩
theorem rY{a b:Nat}{x y:List V}(h:σ[a]?=some (.list x))(h2:σ[b]?=some (.list y))(hl:x.length+y.length<big)(q:Q (.obj σ.length) (σ++[.list (x++y)])):yw .add (.obj a) (.obj b) σ Q:=by
 exact eM h (eM h2 ⟨hl,q⟩)
theorem lr{a b:Nat}{x y:List V}(h:σ[a]?=some (.list x))(h2:σ[b]?=some (.list y))(hl:x.length+y.length<big)(q:∀w τ,σ <+:τ→σ.length≤w→τ[w]?=some (.list (x++y))→Q (.obj w) τ):yw .add (.obj a) (.obj b) σ Q:=rY h h2 hl (q _ _ aD (ax _) aI)
theorem t9{c:Nat}:∀{l:List (Nat×List V)},(∀z∈l,z.2.length≤c)→(l.flatMap (·.2)).length≤l.length*c:=fun {l}=>by
 induction l with
 | nil=>intro _;exact aS _
 | cons z r ih =>
  intro h;rw [List.flatMap_cons,aO,List.length_cons,Nat.add_mul,Nat.one_mul,Nat.add_comm];exact Nat.add_le_add (ih fun y hy=>h y (aj _ hy)) (h z ai)
theorem vQ{t:V}(D:FD bk hd fo B rg ow ab as)(x:FS bk hd codes fo B P fl (F k) rg ow ab as O Own cap G0 m0 H0 σ R os G m H mk f)(hH:H.length≤2000)(h1:loc "book"=some (.obj bk))(h2:loc "told"=some t)(h3:loc "owned"=some (.obj ow))
  (hQ:∀σ' H',jf bk hd codes fo B P fl σ' H' m f→σ'.length=σ.length→(∀n,n≠hd→σ'[n]?=σ[n]?)→(∀o:Int,getD H' (.int o)=if o∈os then none else getD H (.int o))→H'.length≤H.length→Q t σ'):dW (aY ba n) (dO.body.drop 8) loc σ (qB Q):=by
 refine aw h3 ?_;refine aw (ch x.aow) ?_;refine BS D.e2 x.ond x.ms rfl x.dom (ay hH (by decide)) h1 fun loc6 σ6 H6 ag6 ms6 l6 k6 g6 h6=>?_;refine aw (ag6.at (by decide) h2) ?_;(conv=>whnf)
 exact hQ σ6 H6 ms6 l6 k6 g6 h6
theorem vP(M:qw P F fl)(hk:k∈bw)(D:FD bk hd fo B rg ow ab as)(c:Cx O Own cap (F k) G0 m0)(x:FS bk hd codes fo B P fl (F k) rg ow ab as O Own cap G0 m0 H0 σ R os G m H mk f)(has:as.length≤4)(hal:∀z∈as,z.2.length≤7)(hH:H.length≤2000)
  (l1:loc "book"=some (.obj bk)) (l2:loc "registers"=some (.obj rg)) (l3:loc "owned"=some (.obj ow)) (l4:loc "above"=some (.obj ab)) (l5:loc "end"=some (.tup [.str "return",.tup [P.a k,P.b k]]))
  (ta:∀p,ef (qe R (P.a k)) p→G p∨Own p) (tb:∀p,ef (qe R (P.b k)) p→G p∨Own p)
  (hQ:∀σ' H',jf bk hd codes fo B P fl σ' H' m f→σ.length≤σ'.length→(∀n,n<σ.length→n≠hd→σ'[n]?=σ[n]?)→(∀o:Int,getD H' (.int o)=if o∈os then none else getD H (.int o))→H'.length≤H.length→Q (.tup [qe R (P.a k),qe R (P.b k)]) σ'):dW (aY ba (n+1)) (dO.body.drop 5) loc σ (qB Q):=by
 have nl:∀{σ σ':Hp},bV [] σ σ':=fun z_ q=>(an q).elim;have hid:∀{y:String},y≠"operand"→y≠".0"→cw ["operand"] loc y=loc y:=fun h h2=>if_neg fun q=>q.elim (fun q=>h (aq.mp q)) h2;have va:=x.rdVal (M.ra k hk);have vb:=x.rdVal (M.rb k hk);have r2:=(hid (by decide) (by decide)).trans l2;have fin:∀{σ5:Hp} {loc5:Loc},σ <+:σ5→loc5 "book"=some (.obj bk)→loc5 "told"=some (.tup [qe R (P.a k),qe R (P.b k)])→loc5 "owned"=some (.obj ow)→dW (aY ba (n+1)) (dO.body.drop 8) loc5 σ5 (qB Q):=fun p h1 h2 h3 =>
  vQ D (x.ext D p) hH h1 h2 h3 fun σ' H' a1 a2 a3 a4 a5=>hQ σ' H' a1 (am (bM p) (Nat.le_of_eq a2.symm)) (fun n hn h=>(a3 n h).trans (by obtain ⟨τ,rfl⟩:=p;exact au hn)) a4 a5
 refine aw l5 ?_;(conv=>whnf)
 refine ⟨nl,?_⟩;refine aw r2 ?_;(conv=>whnf)
 refine dR x.arg x.rl (M.ra k hk) ⟨ae,nl,?_⟩;refine aw r2 ?_;(conv=>whnf)
 refine dR x.arg x.rl (M.rb k hk) ⟨ae,nl,?_⟩;generalize qe R (P.a k)=t0 at ta va hQ fin ⊢;generalize qe R (P.b k)=t1 at tb vb hQ fin ⊢;refine vt (jd aI) ae ?_;(conv=>whnf)
 have x4:=x.ext D (aD (τ:=[Ob.list [t0,t1]]));refine aw l4 ?_;refine aw (ch x4.aab) ?_;have flen:(as.flatMap (·.2)).length≤28:=am (t9 hal) (Nat.mul_le_mul_right 7 has);refine v4 (fun z_ z_=>rfl) (fun z hz=>(x4.av z hz).1) (by rw [List.length_nil,Nat.zero_add];exact ay flen (by decide)) ?_;rw [List.nil_append];have live:∀n:Int,(G n∨Own n)→n∉os:=fun n h q=>by
  obtain ⟨s,h1,h2⟩:=(x.own n).mp q;exact h.elim (x.fi.st.m2 s n h1 h2) (x.fi.st.mkOwn c h1)
 refine ⟨ae,?_⟩;(conv=>whnf)
 refine rY (aT aI) aI (ay (bL flen 2) (by decide)) ?_;(conv=>whnf)
 refine lr (aT aI) aI (by rw [aO];exact ay (bL (bL flen 2) 1) (by decide)) fun w4 σ4 p4 z_ h4=>?_;have q4:σ <+:σ4:=((((aD.trans aD).trans aD).trans aD).trans aD).trans p4;have x5:=x.ext D q4;refine aw l3 ?_;(conv=>whnf)
 by_cases hos:os=[]
 ·refine iz (b:=true) (aT x5.aow) aI iY.1 (iY.2▸aS _) (by rw [hos];rfl) ?_;exact fin (q4.trans aD) l1 rfl l3
 ·refine iz (b:=false) (aT x5.aow) aI iY.1 (iY.2▸aS _) (by cases os with | nil=>exact absurd rfl hos | cons _ _=>rfl) ?_;refine aw l1 ?_;(conv=>whnf)
  refine wq (A:=fun v=>iN v∧∀p,ef v p→G p∨Own p) (x5.ext D aD).ms (aT h4) (fun v hv=>?_) ?_ (am hH (by decide)) (fun n v h1 h2=>⟨(x.ms.hv _ (hO h2)).2,fun p hp=>?_⟩) (fun l h1 v hv=>?_) ⟨.inl (.inl rfl),fun p h=>h.elim⟩ fun r σ5 fs p5 hr hfs hfl=>?_
  ·have key:iN v∧∀p,ef v p→G p∨Own p:=by
    refine Or.elim (bA.mp hv) (fun hv=>?_) (fun hv=>?_)
    ·refine Or.elim (bA.mp hv) (fun hv=>?_) (fun hv=>?_)
     ·obtain ⟨z,hz,hv⟩:=List.mem_flatMap.mp hv;exact (x.av z hz).2 v hv
     ·rcases aP.mp hv with rfl | hv
      ·exact ⟨va,ta⟩
      ·cases aq.mp hv;exact ⟨vb,tb⟩
    ·cases aq.mp hv;exact ⟨.inl (.inr ⟨0,rfl⟩),fun p hp=>by have:p=0:=hp;subst this;exact .inl x.g0⟩
   exact ⟨key.1,key⟩
  ·rw [aO,aO];exact ay (bL (bL flen 2) 1) (by decide)
  ·exact (h1.2 n rfl).elim (fun h=>.inl (x.fi.g1 n h p ⟨v,h2,hp⟩)) fun h=>c.capsub G x.fi.st.ext n h p (x.fi.g2 n h p ⟨v,h2,hp⟩)
  ·rcases h1.1 with (h | ⟨n,h⟩) | ⟨a,b,h,ha,hb⟩
   ·cases h
   ·cases h
   ·cases h;have pl:kU v:=by
     rcases aP.mp hv with rfl | hv
     ·exact ha
     ·cases aq.mp hv;exact hb
    exact ⟨.inl pl,fun p hp=>h1.2 p (lN pl hv hp)⟩
  ·refine aw (ch hr) ?_;have x6:=(x5.ext D aD).ext D p5;refine wC (l:=setL (setL loc "told" (.tup ([t0]++[t1]))) "some" (.obj w4)) ?_ x6.aow ((if_neg fun q=>q.elim (fun q=>absurd (aq.mp q) (by decide)) (by decide)).trans l3) (fun v hv=>?_) ?_
   ·exact fun z_ z_=>rfl
   ·obtain ⟨⟨n,rfl⟩,_,h2⟩:=hfs v hv;exact ⟨n,rfl,live n (h2 n rfl)⟩
   ·(conv=>whnf)
    refine iz (b:=true) (aT aI) aI rfl (aS _) rfl ?_;exact fin ((((q4.trans aD).trans p5).trans aD).trans aD) l1 rfl l3
theorem FI{x y:V}{ab:Nat}{G:SetI}(M:qw P F fl)(hk:k∈bw)(ms:jf bk hd codes fo B P fl σ H m f)(vx:iN x)(vy:iN y)(rx:∀p,ef x p→O (.int 0) G p)(ry:∀p,ef y p→O (.int 1) G p)
  (ar:σ[rg]?=some (.list [x,y,.none,.none,.none,.none,.none])) (ao:σ[ow]?=some (.list [])) (hab:σ[ab]?=some (.list (as.map fun x=>V.obj x.1))) (hav:∀z∈as,σ[z.1]?=some (.list z.2)∧∀v∈z.2,iN v∧∀p,ef v p→G p∨Own p)
  (g1:∀o,G o→∀p,cont H o p→G p) (g2:∀o,Own o→∀p,cont H o p→cap o G p) (gm:∀o,G o→o≤m) (g0:G 0):FS bk hd codes fo B P fl (F k) rg ow ab as O Own cap G m H σ [x,y,.none,.none,.none,.none,.none] [] G m H (fun z_ z_=>False) f:=by
 have hcl:=M.cl k hk;refine ⟨ms,⟨⟨.refl,Int.le_refl _,fun z_ z_ h=>h.elim,fun z_ z_ h=>h.elim,fun z_ z_ z_ h=>h.elim,fun z_ z_ h=>h.elim⟩,g1,g2,fun z_ z_ h=>h.elim,gm⟩,ar,rfl,fun i v hi=>?_,ao,fun o=>⟨fun h=>(an h).elim,fun q=>bG q fun z_ h z_=>h.elim⟩,List.nodup_nil,fun z_ h=>(an h).elim,fun z_ z_ h=>h,hab,hav,g0⟩
 cases i with
 | zero=>cases hi;exact ⟨vx,fun p hp=>⟨tO (.int 0),hcl.1 _ _ (.inl ⟨rfl,rfl⟩),.inr (.inl ⟨_,rfl,rx p hp⟩)⟩⟩
 | succ i =>
 cases i with
 | zero=>cases hi;exact ⟨vy,fun p hp=>⟨tO (.int 1),hcl.1 _ _ (.inr ⟨rfl,rfl⟩),.inr (.inl ⟨_,rfl,ry p hp⟩)⟩⟩
 | succ i =>
  have hi:[V.none,.none,.none,.none,.none][i]?=some v:=hi;have:v=.none:=(show ∀w∈[V.none,.none,.none,.none,.none],w=.none from fun w hw=>List.eq_of_mem_replicate (n:=5) hw) v (List.mem_of_getElem? hi);subst this;exact ⟨.inl (.inl rfl),fun p h=>h.elim⟩
theorem BQ(h:0<f):qx H (f-1)+25≤qx H f:=by
 unfold qx;rw [Int.pred_toNat,←Nat.succ_pred_eq_of_pos (Int.lt_toNat.mpr h)];exact Nat.le_of_eq (Nat.add_assoc _ _ _)
theorem BR:qx H (f-1)≤qx H f:=bK (Nat.mul_le_mul_left 25 (Int.toNat_le_toNat (Int.sub_le_self f (by decide)))) _
theorem tX(M:qw P F fl)(N:Nat):∀j,rT bk hd codes fo B P F fl (N+2*j+5) j:=by
 intro j
 induction j with
 | zero =>
  intro σ k x y gv ab as O Own cap G m f H Q hk ms c hgv vx vy rx ry hab hj has nb1 nb2 hav g1 g2 gm g0 hm hphi hQ;obtain ⟨be,hbe⟩:=ms.abk;refine bs (d:=dO) rfl ae ae ?_;(conv=>whnf)
  refine dz hbe rfl ?_;(conv=>whnf)
  refine ms.setFuel fun σ1 ms1 l1 k1=>?_;obtain ⟨be1,hbe1⟩:=ms1.abk;have fin:Q (.tup [.none,.none]) σ1:=hQ σ1 H m (f-1) G .none .none ms1 (Nat.le_of_eq l1.symm) (fun n z_ h1 z_=>k1 n h1) .refl (Int.le_refl _) g1 g2 gm (.inl (.inl rfl)) (.inl (.inl rfl)) (fun p hp=>hp.elim) (fun p hp=>hp.elim) BR fun z_ z_ h=>h;have h5:as.length=5:=Nat.le_antisymm has hj;refine dz hbe1 rfl ?_;(conv=>whnf)
  by_cases hf:f-1<0
  ·rw [bh hf];(conv=>whnf);exact fin
  ·rw [decide_eq_false hf];(conv=>whnf)
   refine kj (i9 ((k1 _ nb1).trans hab)) (by rw [aJ,h5];decide) ?_;rw [aJ,h5];(conv=>whnf);exact fin
 | succ j ih =>
  intro σ k x y gv ab as O Own cap G m f H Q hk ms c hgv vx vy rx ry hab hj has nb1 nb2 hav g1 g2 gm g0 hm hphi hQ;obtain ⟨be,hbe⟩:=ms.abk;refine bs (d:=dO) rfl ae ae ?_;(conv=>whnf)
  refine dz hbe rfl ?_;(conv=>whnf)
  refine ms.setFuel fun σ1 ms1 l1 k1=>?_;obtain ⟨be1,hbe1⟩:=ms1.abk;have fin:Q (.tup [.none,.none]) σ1:=hQ σ1 H m (f-1) G .none .none ms1 (Nat.le_of_eq l1.symm) (fun n z_ h1 z_=>k1 n h1) .refl (Int.le_refl _) g1 g2 gm (.inl (.inl rfl)) (.inl (.inl rfl)) (fun p hp=>hp.elim) (fun p hp=>hp.elim) BR fun z_ z_ h=>h;have hab1:=(k1 _ nb1).trans hab;refine dz hbe1 rfl ?_;(conv=>whnf)
  by_cases hf:f-1<0
  ·rw [bh hf];(conv=>whnf);exact fin
  rw [decide_eq_false hf];(conv=>whnf)
  refine kj (i9 hab1) (by rw [aJ];exact ay has (by decide)) ?_;rw [aJ];(conv=>whnf)
  by_cases has4:(4:Int)<as.length
  ·rw [bh has4];(conv=>whnf);exact fin
  rw [decide_eq_false has4];(conv=>whnf)
  have has':as.length≤4:=Int.ofNat_le.mp (Int.not_lt.mp has4);have ngv:gv≠bk:=fun e=>by rw [e] at hgv;rw [hgv] at hbe;cases hbe
  have hgv1:=(k1 _ ngv).trans hgv;refine jz (hU hgv1) ae ?_;(conv=>whnf)
  refine oL aI (by decide) (by decide) (by decide) ?_;(conv=>whnf)
  refine lr (y:=[V.none,.none,.none,.none,.none]) (aT (aT aI)) aI ae fun w τ p hwl hw=>?_;have p1:σ1 <+:τ:=((aD.trans aD).trans aD).trans p;have hwl1:σ1.length≤w:=am (bM ((aD.trans aD).trans aD)) hwl;have p2:σ1 <+:τ++[Ob.list []]:=p1.trans aD;have ms2:=ms1.ext p2;obtain ⟨be2,hbe2⟩:=ms2.abk;obtain ⟨ce,hce⟩:=ms2.cd.d;have cx:=(ms2.cd.c k hk).ex;obtain ⟨ck,rgv,bl,blk,li,q1,q2,q3,q4,w1,w2,w3,w4⟩:=cx;obtain ⟨lb,lh,lf,lB⟩:=ms1.lt;have labs:=a0 hab1;have lw:=a0 hw;have gt:∀{a b:Nat},a<σ1.length→σ1.length≤b→b≠a:=fun h1 h2 e=>bX _ (al h1 (e▸h2));have lt1:=bM p1;have D:FD bk hd fo B w τ.length ab as:=⟨gt lb hwl1,gt lh hwl1,gt lf hwl1,am lB hwl1,gt lb lt1,gt lh lt1,gt lf lt1,am lB lt1,aN lw,⟨nb1,nb2,(gt labs hwl1).symm,(gt labs lt1).symm⟩,fun z hz =>
   have z1:=(hav z hz).1;have:=a0 ((k1 _ z1.2.1).trans z1.1)
   ⟨z1.2.1,z1.2.2.1,(gt this hwl1).symm,(gt this lt1).symm⟩⟩
  have x0:FS bk hd codes fo B P fl (F k) w τ.length ab as O Own cap G m H (τ++[Ob.list []]) [x,y,.none,.none,.none,.none,.none] [] G m H (fun z_ z_=>False) (f-1) :=
   FI M hk ms2 vx vy rx ry (aT hw) aI (bU p2 hab1) (fun z hz=>⟨bU p2 ((k1 _ (hav z hz).1.2.1).trans (hav z hz).1.1),(hav z hz).2⟩) g1 g2 gm g0
  have ph:=BQ (H:=H) (f:=f) (Int.sub_nonneg.mp (Int.not_lt.mp hf));refine dz hbe2 rfl ?_;refine mo hk hce (mv (M.ok.mem.mpr hk)) ?_;refine bP w1 rfl ?_;refine cQ w2 ae rfl ?_;(conv=>whnf)
  refine aw (jd w3) ?_;(conv=>whnf)
  refine aw (ch w4) ?_;have few:=M.few k hk;refine wy M hk ih D c hj has' (fun z hz=>(hav z hz).1.2.2.2) hm q4 (fun z_ h=>h) x0 rfl rfl rfl rfl rfl (Il ph hphi few) fun loc3 σ3 R3 os3 G3 m3 H3 mk3 f3 ag3 x3 fr3 ph3=>?_;have hH3:H3.length≤2000:=am (aW _ (25*f3.toNat)) (bD (am ph3 (Il ph hphi few)));have ta:∀p,ef (qe R3 (P.a k)) p→∃y,F k (.told (.int 0)) y∧O y G3 p:=fun p=>yl M hk c x3 (M.ra k hk) (i:=.int 0) (fun tb v q=>pY M hk (.inl q));have tb:∀p,ef (qe R3 (P.b k)) p→∃y,F k (.told (.int 1)) y∧O y G3 p:=fun p=>yl M hk c x3 (M.rb k hk) (i:=.int 1) (fun tb v q=>pY M hk (.inr q));dsimp only [zb];refine vP (n:=N+2*j+5) M hk D c x3 has' (fun z hz=>(hav z hz).1.2.2.2) hH3 (ag3.at (by decide) rfl) (ag3.at (by decide) rfl) (ag3.at (by decide) rfl) (ag3.at (by decide) rfl) (ag3.at (by decide) rfl) (fun p hp=>let ⟨y,_,h2⟩:=ta p hp;c.sub G3 x3.fi.st.ext y p h2) (fun p hp=>let ⟨y,_,h2⟩:=tb p hp;c.sub G3 x3.fi.st.ext y p h2) fun σ6 H6 ms6 l6 k6 g6 h6=>?_;have ct:∀{o p},cont H6 o p→cont H3 o p:=fun {o p} ⟨v,h1,h2⟩=>by
   rw [g6] at h1
   split at h1
   ·cases h1
   ·exact ⟨v,h1,h2⟩
  have s2:σ.length≤(τ++[Ob.list []]).length:=l1▸bM p2;refine hQ σ6 H6 m3 f3 G3 _ _ ms6 (am s2 (am fr3.1 l6)) (fun q hq' h1 h2=>?_) x3.fi.st.ext x3.fi.st.le (fun o ho p hp=>x3.fi.g1 o ho p (ct hp)) (fun o ho p hp=>x3.fi.g2 o ho p (ct hp)) x3.fi.gm (x3.rdVal (M.ra k hk)) (x3.rdVal (M.rb k hk)) ta tb (am (bL h6 _) (am ph3 (am (bK (am few (by decide:20≤25)) _) ph))) fun o ho hv=>?_
  ·have q1:q<σ1.length:=l1▸hq';refine (k6 q (al hq' (am s2 fr3.1)) h2).trans ((fr3.2 q (al hq' s2) h1 h2 (gt q1 hwl1).symm (gt q1 lt1).symm).trans ?_);obtain ⟨τ',e⟩:=p2;rw [←e,au q1];exact k1 q h1
  ·obtain ⟨v,hv'⟩:=x3.old o ho hv;refine ⟨v,(g6 o).trans ((if_neg fun q=>?_).trans hv')⟩;obtain ⟨s,h1,_⟩:=(x3.own o).mp q;exact absurd ho (Int.not_le.mpr (x3.fi.st.m4 s o h1).1)
end
section
variable{P:cU}{codes:Nat}
structure Ao(P:cU):Prop where
 ok:P.Ok
 mok:∀k∈bw,∀x∈P.ls k,x.mok
 ra:∀k∈bw,fQ (P.a k)
 rb:∀k∈bw,fQ (P.b k)
 few:∀k∈bw,(P.ls k).length≤20
 s1:cF (bQ [] (P.full (cz P.ks)))=true
 s2:cF (P.ks.flatMap P.news)=true
 s3:cz (bQ [] (P.full (cz P.ks)))=cz (P.ks.flatMap P.news)
theorem yH{l:Loc}{K:List V→Hp→Prop}(hg:gd σ){ys:List Ln}:∀{acc:List V},n+acc.length+ys.length<10000→K (acc++ys.flatMap Ln.news) σ→
  dL gd (.name "line") l (eW (iK C dZ) (ev C dY)) n (ys.map Ln.vl) acc σ K:=by
 induction ys with
 | nil=>intro acc _ hk;exact ⟨hg,bn acc▸hk⟩
 | cons y ys ih =>
  intro acc hl hk;rw [List.length_cons] at hl;rw [List.flatMap_cons] at hk;have no:y.news=[]→n+acc.length+0<big∧dL gd (.name "line") l (eW (iK C dZ) (ev C dY)) n (ys.map Ln.vl) (acc++[]) σ K:=fun h=>by
   rw [h] at hk;exact ⟨by unfold big;omega,ih (by rw [bn];omega) (by rw [bn];exact hk)⟩
  refine ⟨hg,?_⟩
  cases y with
  | new d s =>
   exact ⟨by show n+acc.length+1<big;unfold big;omega,ih (by rw [aO,List.length_singleton];omega) (by rw [aR];exact hk)⟩
  | store a b=>(conv=>whnf);exact no rfl
  | load d a=>(conv=>whnf);exact no rfl
  | move d a=>(conv=>whnf);exact no rfl
  | struct a b=>(conv=>whnf);exact no rfl
  | part d a i=>(conv=>whnf);exact no rfl
  | call d1 d2 k a b=>(conv=>whnf);exact no rfl
theorem yI{l:Loc}{K:List V→Hp→Prop}(g:Ao P)(cd:fw B σ codes P)(hl:l "codes"=some (.obj codes))(hg:gd σ){ks:List V}:∀{acc:List V},(∀k∈ks,k∈bw)→acc.length+(ks.flatMap P.news).length<1000→K (acc++ks.flatMap P.news) σ→
  dL gd (.name "name") (cw ["name","line"] l) (su .over (.name "line") (pz C [(.sub (.sub (.attr (.sub (.var "codes") (.var "name")) "blocks") (.const (.int 0))) (.const (.int 0)))]) (eW (iK C dZ) (ev C dY))) 0 ks acc σ K:=by
 induction ks with
 | nil=>intro acc _ _ hk;exact ⟨hg,bn acc▸hk⟩
 | cons k ks ih =>
  intro acc hks hlen hk;rw [List.flatMap_cons,aO] at hlen;rw [List.flatMap_cons,←aR] at hk;have hkk:=hks k ai;obtain ⟨ce,hce⟩:=cd.d;have cx:=(cd.c k hkk).ex;obtain ⟨ck,rgv,bl,blk,li,q1,q2,q3,q4,w1,w2,w3,w4⟩:=cx;have hh:cw ["name","line"] l "codes"=some (.obj codes):=(if_neg (by decide)).trans hl;have hfew:=g.few k hkk;refine ⟨hg,?_⟩;refine aw hh ?_;refine mo hkk hce (mv (g.ok.mem.mpr hkk)) ?_;refine bP w1 rfl ?_;refine cQ w2 ae rfl ?_;refine cQ w3 ae rfl ?_;refine aw (ch w4) ?_;refine yH (ys:=P.ls k) (fun z_ z_=>rfl) (by rw [List.length_nil];omega) ?_;rw [List.nil_append];exact ⟨by show 0+acc.length+(P.news k).length<big;unfold big;omega,ih (fun z hz=>hks z (aj _ hz)) (by show (acc++P.news k).length+_<1000;rw [aO];omega) hk⟩
theorem Bc(h:v8 v=true):v.dat=true∧v.dep≤1:=by
 obtain ⟨i,j,rfl⟩:=mB h;exact ⟨rfl,ax 1⟩
theorem Bg(h:yZ v=true):v.dat=true∧v.dep≤1:=by
 obtain ⟨i,j,rfl⟩:=mC h;exact ⟨rfl,ax 1⟩
theorem Dy(h:GW v=true):v.dat=true∧v.dep≤1:=by cases v<;>first | exact ⟨rfl,aS _⟩ | cases h
theorem DA(h:Hw v=true):v.dat=true∧v.dep≤1:=by cases v<;>first | exact ⟨rfl,aS _⟩ | cases h
theorem xE(h:∀v∈l,v.dep≤n):V.deps l≤n:=by
 induction l with
 | nil=>exact aS _
 | cons x r ih=>exact Nat.max_le.mpr ⟨h x ai,ih fun y hy=>h y (aj _ hy)⟩
theorem mf{p:V→Bool}(hp:∀{v},p v=true→v.dat=true∧v.dep≤1)(h:l.all p=true):V.dats l=true∧V.deps l≤6 :=
 have k:=fun v hv=>hp (List.all_eq_true.mp h v hv)
 ⟨V.dats_iff.mpr fun v hv=>(k v hv).1,xE fun v hv=>am (k v hv).2 (by decide)⟩
theorem qI(h:cF l=true):V.dats l=true∧V.deps l≤6:=by
 unfold cF at h;simp only [Bool.and_eq_true,Bool.or_eq_true] at h;rcases h.2 with ((h | h) | h) | h
 ·exact mf Dy h
 ·exact mf DA h
 ·exact mf Bc h
 ·exact mf Bg h
theorem FW{a b:Nat}{x y:List V}{Q:Bool→Prop}(h1:σ[a]?=some (.list x))(h2:σ[b]?=some (.list y))(d1:V.dats x=true∧V.deps x≤6)(d2:V.dats y=true)(e:x=y)(q:Q false):dh (ml .ne σ (.obj a) (.obj b)) Q:=by
 refine aw (show (FX σ (.obj a) (.obj b)).map (!·)=some false from ?_) q;have:FX σ (.obj a) (.obj b)=some (V.deq (.tup x) (.tup y)):=BG h1 h2 d1.1 d1.2 d2;rw [this,e,V.deq_self];rfl
noncomputable def H3:List (V×V):=[(.int 0,.none),(.int 1,.none),(.int 2,.int 1)]
theorem vK{p:α→Prop}{a b c:α}(h1:p a)(h2:p b)(h3:p c):∀x∈[a,b,c],p x:=bW.mpr ⟨h1,qz h2 h3⟩
theorem Fj:vI H3:=vK ⟨⟨0,rfl⟩,.inl (.inl rfl)⟩ ⟨⟨1,rfl⟩,.inl (.inl rfl)⟩ ⟨⟨2,rfl⟩,.inl (.inr ⟨1,rfl⟩)⟩
noncomputable def Hu:SetI:=fun o=>o=0∨o=1∨o=2
theorem GB{o p:Int}(h:cont H3 o p):Hu p:=by
 obtain ⟨v,h1,h2⟩:=h;have k:∀q∈H3,ef q.2 p→Hu p:=vK (fun h=>h.elim) (fun h=>h.elim) fun h=>.inr (.inl h);exact k _ (hO h1) h2
theorem jw{N:Nat}{key:V}(g:Ao P)(cd:fw σ.length σ codes P)(hk:key∈bw)(hQ:∀σ',σ.length≤σ'.length→(∀n,n<σ.length→σ'[n]?=σ[n]?)→Q (.bool true) σ'):aY ba (N+14) ("","_law_is_safe") [.obj codes,key] σ Q:=by
 refine bs (d:=j3) rfl ae ae ?_;refine mq (n:=N+3) g.ok cd fun fo σ1 fl fe F hz1 k1 hfo hfd hkeys hcl z_ hmk=>?_;have cd1:=cd.same k1;obtain ⟨ce,hce⟩:=cd1.d;have lt1:=a0 hfd;have nl:(P.ks.flatMap P.news).length≤60:=by
  have:=t9 (c:=20) (l:=P.ks.map fun k=>(0,P.news k)) fun z hz=>by
   obtain ⟨k,hk,e⟩:=List.mem_map.mp hz;rw [←e];exact g.ok.few k (g.ok.mem.mp hk)
  rw [List.flatMap_map,aJ,g.ok.len] at this;exact this
 have dd:∀{l:List V},cF l=true→V.dats (cz l)=true∧V.deps (cz l)≤6:=fun {l} h =>
  have q:=qI h
  ⟨V.dats_iff.mpr fun v hv=>V.dats_iff.mp q.1 v (fq.mp hv),xE fun v hv=>am (V.dep_le_deps (fq.mp hv)) q.2⟩
 refine aw (eA hce) ?_;rw [sv];refine yI g cd1 rfl (fun z_ z_=>rfl) (fun k hk=>g.ok.mem.mp hk) (ay (bK nl _) (by decide)) ?_;rw [List.nil_append];refine je (l:=bQ [] (P.full (cz P.ks))) ((sC (aT hfd)).trans (congrArg some hkeys)) g.s1 ?_;refine je (l:=P.ks.flatMap P.news) (DK (aT aI)) g.s2 ?_;refine FW (aT aI) aI (dd g.s1) (dd g.s2).1 g.s3 ?_;have pρ:σ1 <+:σ1++[Ob.list (List.flatMap P.news P.ks)]++[Ob.list (cz (bQ [] (P.full (cz P.ks))))]++[Ob.list (cz (List.flatMap P.news P.ks))]:=(aD.trans aD).trans aD;generalize σ1++[Ob.list (List.flatMap P.news P.ks)]++[Ob.list (cz (bQ [] (P.full (cz P.ks))))]++[Ob.list (cz (List.flatMap P.news P.ks))]=ρ at pρ ⊢;have kk:∀i:Int,(V.int i).key=true∧(V.int i).dep≤6:=fun i=>⟨rfl,aS _⟩
 have ks:∀s:String,(V.str s).key=true∧(V.str s).dep≤6:=fun i=>⟨rfl,aS _⟩
 refine ⟨vK (kk _) (kk _) (kk _),ae,?_⟩;refine ⟨vL (ks _) (ks _) (ks _) (ks _) (ks _) (ks _),ae,?_⟩
 let σA:Hp:=ρ++[Ob.dict H3 3]
 let σB:Hp:=σA++[Ob.dict (kZ codes fo ρ.length 2 30 true) 6]
 let σC:Hp:=σB++[Ob.list [V.int 1,V.int 2]]
 let σD:Hp:=σC++[Ob.list [V.int 1,V.int 2]]
 let σE:Hp:=σD++[Ob.list [V.obj σC.length]]
 show aY ba (N+13) ("","_law_called") [.obj σA.length,key,.obj σB.length,.obj σD.length] σE _;have pE:σB <+:σE:=(aD.trans aD).trans aD;have pA:ρ <+:σE:=(aD.trans aD).trans pE;have p1:σ1 <+:σE:=pρ.trans pA;have b3:σE[ρ.length]?=some (.dict H3 3):=bU pE (aT aI);have b4:σE[σA.length]?=some (.dict (kZ codes fo ρ.length 2 30 true) 6):=bU pE aI;have b5:σE[σB.length]?=some (.list [V.int 1,V.int 2]):=aT (aT aI);have b6:σE[σC.length]?=some (.list [V.int 1,V.int 2]):=aT aI;have b7:σE[σD.length]?=some (.list [V.obj σC.length]):=aI;have l1:σ1.length≤ρ.length:=bM pρ;have lA:ρ.length<σA.length:=a0 aI;have lB:σA.length<σB.length:=a0 aI;have lC:σB.length<σC.length:=a0 aI;have lD:σC.length<σD.length:=a0 aI;have lE:σD.length<σE.length:=a0 aI;have ms:jf σA.length ρ.length codes fo σ.length P fl σE H3 2 30 :=
  ⟨⟨6,b4⟩,⟨3,b3⟩,⟨fe,bU p1 hfd⟩,cd1.same fun n hn=>by obtain ⟨τ,e⟩:=p1;rw [←e];exact au (al hn hz1),Fj,List.Pairwise.of_map (S:=(·≠·)) V.toInt (fun a b h e=>h (congrArg V.toInt e)) (by decide:[(0:Int),1,2].Nodup),aU (aN lA),aN (al lt1 (am l1 (cT lA))),aN (al lt1 l1),am hz1 (am l1 (cT lA)),am hz1 l1⟩
 have M:qw P F fl:=⟨g.ok,hcl,hmk,g.mok,g.ra,g.rb,g.few⟩
 have lv:∀v∈[V.int 1,V.int 2],iN v∧∀p,ef v p→Hu p:=qz ⟨.inl (.inr ⟨1,rfl⟩),fun p hp=>.inr (.inl hp)⟩ ⟨.inl (.inr ⟨2,rfl⟩),fun p hp=>.inr (.inr hp)⟩;clear_value σB σC σD σE;refine tX (bk:=σA.length) (hd:=ρ.length) M N 4 hk ms (AP (G0:=Hu)) b5 (.inl (.inr ⟨1,rfl⟩)) (.inl (.inr ⟨2,rfl⟩)) (fun p hp=>.inr (.inl hp)) (fun p hp=>.inr (.inr hp)) (as:=[(σC.length,[V.int 1,V.int 2])]) b7 (ax _) ae (by omega) (by omega) (fun z hz=>?_) (fun o z_ p hp=>GB hp) (fun o h=>h.elim) (fun o ho=>?_) (.inl rfl) (by decide) (by decide) fun σ3 H' m' f' G' t0 t1 ms3 l3 k3 z_ z_ z_ z_ z_ z_ z_ z_ z_ z_ z_=>?_
 ·cases aq.mp hz;exact ⟨⟨b6,by omega,by omega,ae⟩,fun v hv=>⟨(lv v hv).1,fun p hp=>.inl ((lv v hv).2 p hp)⟩⟩
 ·rcases ho with rfl | rfl | rfl<;>decide
 ·obtain ⟨be,hbe⟩:=ms3.abk;refine dz hbe rfl ?_;have lz:=bM p1;exact hQ σ3 (am hz1 (am lz l3)) fun n hn=>(k3 n (al hn (am hz1 lz)) (by omega) (by omega)).trans (by obtain ⟨τ,e⟩:=p1;rw [←e,au (al hn hz1)];exact k1 n hn)
end
section
variable{so:Nat}
theorem vZ{x:String}{r:Nat}{rs:List V}(hx:loc x=some (.obj r))(hr:σ[r]?=some (.list rs))(hl:rs.length<big)(q:Q (.obj σ.length) (σ++[.list rs])):ev C (.prim .list [.var x]) loc σ Q:=by
 refine aw hx ?_;(conv=>whnf)
 exact jz (hU hr) hl q
theorem B3{r:List Mine.S}{Q:KS}{τ:Hp}{c a x:String}{rs:List V}{l:List (String×V)}(hx:loc x=some (.obj n))(hr:σ[n]?=some (.list rs))(hrl:rs.length<big)(hs:loc "self"=some (.obj σ.length))(ht:τ[0]?=some (.inst c l))(hl:l.length<100)
  (q:dW C r loc (σ++(τ++[Ob.list rs]).set 0 (.inst c (jV l a (.obj (σ.length+τ.length))))) Q):dW C (.assign (.attr (.var "self") a) (.prim .list [.var x])::r) loc (σ++τ) Q:=by
 refine vZ (Q:=wi C (.attr (.var "self") a) (zb (dW C r) Q) loc) hx (aT hr) hrl ?_;refine aw hs ?_;(conv=>whnf)
 refine jI (c:=c) (l:=l) (by rw [aR,hS,au (a0 ht)];exact ht) hl ?_;rw [aR,mR,dg];exact q
theorem qY{key blocks:V}{r:Nat}{rs:List V}(hr:σ[r]?=some (.list rs))(hl:rs.length<1000)
  (hQ:Q .none (σ++[.inst "Code" [("key",key),("params",.int 2),("registers",.obj (σ.length+1)),("blocks",blocks),("captured",.int 0),("results",.int 2),("recovery",.none)],.list rs])) :
  aY ba (n+1) ("Code","__init__") [.obj σ.length,key,.int 2,.obj r,blocks,.int 0,.int 2] (σ++[.inst "Code" []]) Q:=by
 refine bs (d:=jO) rfl ae ae ?_;refine fJ (c:="Code") (v:=key) (fun q=>q) rfl rfl ae ?_;refine fJ (c:="Code") (v:=.int 2) (fun q=>q) rfl rfl ae ?_;refine B3 (c:="Code") rfl hr (bf hl (by decide)) rfl rfl ae ?_;refine fJ (c:="Code") (v:=blocks) (fun q=>q) rfl rfl ae ?_;refine fJ (c:="Code") (v:=.int 0) (fun q=>q) rfl rfl ae ?_;refine fJ (c:="Code") (v:=.int 2) (fun q=>q) rfl rfl ae ?_;refine fJ (c:="Code") (v:=.none) (fun q=>q) rfl rfl ae ?_;exact hQ
noncomputable def vE(σ:Hp)(so:Nat):Prop:=∃a b:Int,σ[so]?=some (.list [.int a,.int b])
structure SF(so:Nat)(σ σ':Hp):Prop where
 le:σ.length≤σ'.length
 fr:∀n,n<σ.length→n≠so→σ'[n]?=σ[n]?
 src:vE σ' so
theorem SF.trans(x:SF so σ σ')(y:SF so σ' σ''):SF so σ σ'':=⟨am x.le y.le,fun n hn h=>(y.fr n (al hn x.le) h).trans (x.fr n hn h),y.src⟩
theorem vE.ext(x:vE σ so)(p:σ <+:σ'):vE σ' so:=let ⟨a,b,h⟩:=x;⟨a,b,bU p h⟩
theorem SF.pre(x:vE σ so)(p:σ <+:σ'):SF so σ σ':=⟨bM p,fun n hn z_=>by refine xe p fun τ q=>?_;subst q;exact au hn,x.ext p⟩
theorem SF.keep(x:SF so σ σ')(e:σ[n]?=some o)(h:n≠so):σ'[n]?=some o:=(x.fr n (a0 e) h).trans e
theorem SF.set{x y:V}(h:σ[so]?=some (.list [x,y])){a b:Int}:SF so σ (σ.set so (.list [.int a,.int b])):=⟨Nat.le_of_eq bO.symm,fun n z_ h=>aM (aU h),a,b,bq h⟩
theorem gQ{top:Int}(hs:vE σ so)(h0:0<top)(h1:top<1000)(hQ:∀r σ',0≤r→r<top→SF so σ σ'→σ'.length=σ.length→Q (.int r) σ'):aY ba (n+1) ("","_law_take") [.obj so,.int top] σ Q:=by
 refine Ak hs fun a b hab=>?_;have m0:∀x:Int,0≤x%top:=fun x=>Int.emod_nonneg _ (Int.ne_of_gt h0);have m1:∀x:Int,x%top<top:=fun x=>Int.emod_lt_of_pos _ h0;have t30:top<2^30:=Int.lt_trans h1 (by decide);have t62:top<2^62:=Int.lt_trans h1 (by decide);have b2:2<big:=by decide
 refine bs (d:=nY) rfl ae ae ?_;(conv=>whnf)
 refine cQ hab b2 rfl ?_;(conv=>whnf)
 by_cases hp:0<a
 ·rw [bh hp];(conv=>whnf)
  refine cQ hab b2 rfl ?_;(conv=>whnf)
  refine ⟨⟨h0,t62⟩,?_⟩;(conv=>whnf)
  refine cQ hab b2 rfl ?_;(conv=>whnf)
  refine ⟨⟨h0,t30⟩,?_⟩;(conv=>whnf)
  refine s0 hab (by decide) (show (0:Int)<2 by decide) b2 ?_
  (conv=>whnf)
  exact hQ _ _ (m0 _) (m1 _) (SF.set hab) bO
 ·rw [decide_eq_false hp];(conv=>whnf)
  refine cQ hab b2 rfl ?_;(conv=>whnf)
  refine ⟨.inr (by decide),?_⟩;(conv=>whnf)
  refine ⟨⟨by decide,by decide⟩,?_⟩;(conv=>whnf)
  refine s0 hab (by decide) (show (1:Int)<2 by decide) b2 ?_;have hab2:(σ.set so (.list [.int a,.int ((b*39373+7)%2147483647)]))[so]?=some (.list [.int a,.int ((b*39373+7)%2147483647)]):=bq hab;have r0:=Int.emod_nonneg (b*39373+7) (show (2147483647:Int)≠0 by decide);have r1:=Int.emod_lt_of_pos (b*39373+7) (show (0:Int)<2147483647 by decide);refine cQ hab2 b2 rfl ?_;refine cQ hab2 b2 rfl ?_;(conv=>whnf)
  refine ⟨.inl (by omega),?_⟩;(conv=>whnf)
  refine ⟨⟨by decide,by decide⟩,?_⟩;(conv=>whnf)
  refine ⟨⟨by decide,by decide⟩,?_⟩;(conv=>whnf)
  refine ⟨⟨h0,t62⟩,?_⟩;(conv=>whnf)
  exact hQ _ _ (m0 _) (m1 _) (SF.set hab) bO
theorem mL{l:Nat}(hs:vE σ so)(hl:σ[l]?=some (.list xs))(hne:l≠so)(h0:xs≠[])(h1:xs.length<1000)(hQ:∀x σ',x∈xs→SF so σ σ'→Q x σ'):aY ba (n+2) ("","_law_one") [.obj so,.obj l] σ Q:=by
 have hpos:0<xs.length:=List.length_pos_iff.mpr h0;have hb:xs.length<big:=bf h1 (by decide);refine bs (d:=oY) rfl ae ae ?_;(conv=>whnf)
 refine kj (i9 hl) hb ?_
 (conv=>whnf)
 refine gQ hs (Int.ofNat_lt.mpr hpos) (Int.ofNat_lt.mpr h1) fun r σ' r0 r1 sf len=>?_;refine xe (Int.eq_ofNat_of_zero_le r0) fun i q=>?_;subst q;have hi:i<xs.length:=Int.ofNat_lt.mp r1
 (conv=>whnf)
 refine cQ (w:=xs[i]) (sf.keep hl hne) hb ?_ ?_
 ·show (if 0≤(i:Int) then xs[Int.toNat i]? else _)=some xs[i];rw [if_pos (Int.natCast_nonneg _),Int.toNat_natCast,aC hi]
 ·exact hQ _ _ (List.getElem_mem hi) sf
theorem od(hQ:Q oG σ):aY ba (n+1) ("","_law_GLOBAL") [] σ Q:=by
 refine bs (d:=kX) rfl ae ae ?_;(conv=>whnf)
 exact hQ
noncomputable def vH(x:V):Prop:=∃i:Nat,i<6∧x=oR (.int i)
theorem vH.ropd{x:V}(h:vH x):fQ x:=let ⟨i,h1,h2⟩:=h;.inl ⟨i,Nat.lt_succ_of_lt h1,h2⟩
theorem cP(hs:vE σ so)(hQ:∀x σ',vH x→SF so σ σ'→Q x σ'):aY ba (n+3) ("","_law_operand") [.obj so] σ Q:=by
 have nl:∀{σ σ':Hp},bV [] σ σ':=fun z_ q=>(an q).elim;have hso:so<σ.length:=let ⟨_,_,h⟩:=hs;a0 h
 have reg:∀i:Nat,i<6→vH (oR (.int i)):=fun i h=>⟨i,h,rfl⟩
 refine bs (d:=j4) rfl ae ae ?_;(conv=>whnf)
 refine ⟨nl,?_⟩;refine ⟨ae,nl,?_⟩;refine ⟨ae,nl,?_⟩;refine ⟨ae,nl,?_⟩;refine ⟨ae,nl,?_⟩;refine ⟨ae,nl,?_⟩;refine ⟨ae,nl,?_⟩;(conv=>whnf)
 refine lr (x:=[oR (.int 0),oR (.int 1),oR (.int 2),oR (.int 3),oR (.int 4),oR (.int 5)]) (y:=[oR (.int 0),oR (.int 1)]) (aT aI) aI ae fun w τ p hw h=>?_;have pτ:σ <+:τ:=(aD.trans aD).trans p
 (conv=>whnf)
 refine mL (hs.ext pτ) h (aU (aN (al hso (am (bM (aD.trans aD)) hw)))) (by intro e;cases e) (by decide) fun x σ' hx sf=>hQ x σ' ?_ ((SF.pre hs pτ).trans sf);have k:∀x∈[oR (.int 0),oR (.int 1),oR (.int 2),oR (.int 3),oR (.int 4),oR (.int 5)],vH x:=vL (reg 0 (by decide)) (reg 1 (by decide)) (reg 2 (by decide)) (reg 3 (by decide)) (reg 4 (by decide)) (reg 5 (by decide));exact (bA.mp hx).elim (k x) fun q=>qz (reg 0 (by decide)) (reg 1 (by decide)) x q
end
section
variable{so:Nat}
theorem jW(d:Nat)(h:d<7):nk (.int d):=⟨d,h,rfl⟩
theorem nk.regs{d:V}(h:nk d):d∈regs:=let ⟨i,h1,h2⟩:=h;bH.mpr ⟨i,List.mem_range.mpr (bf h1 (by decide)),h2.symm⟩
theorem oM:fQ oG:=.inr (.inr rfl)
theorem nQ{r:Int}(h0:0≤r)(h1:r<4):nk (.int (2+r)):=by
 obtain ⟨i,rfl⟩:=Int.eq_ofNat_of_zero_le h0;exact ⟨2+i,Nat.add_lt_add_left (Int.ofNat_lt.mp h1:i<4) 2 |>fun h=>al h (by decide),rfl⟩
theorem DF(h:k∈bw):∃s:String,k=.str s:=(show ∀k∈bw,∃s:String,k=.str s from vK ⟨_,rfl⟩ ⟨_,rfl⟩ ⟨_,rfl⟩) k h
theorem vE.ne(x:vE σ so):σ.length≠so:=let ⟨_,_,h⟩:=x;aU (aN (a0 h))
theorem kD{a b:Int}(h:¬a=b):V.deq (.int a) (.int b)=false:=decide_eq_false h
theorem kE{a b:Int}(h:a=b):V.deq (.int a) (.int b)=true:=bh h
theorem Fw{r:Int}(h0:0≤r)(h1:r<2):V.int r=.int 0∨V.int r=.int 1 :=
 (show r=0∨r=1 by omega).imp (congrArg V.int) (congrArg V.int)
theorem nE{key:V}{at':Int}(hs:vE σ so)(hQ:∀(x:Ln) σ',x.mok→x.ok [.tup [key,.int at']]→(x.news=[]∨x.news=[.tup [key,.int at']])→SF so σ σ'→Q x.vl σ'):aY ba (n+5) ("","_law_instruction") [.obj so,key,.int at'] σ Q:=by
 refine bs (d:=gX) rfl ae ae ?_;(conv=>whnf)
 refine gQ hs (by decide) (by decide) fun w σ1 w0 w1 sf1 z_=>?_
 (conv=>whnf)
 refine gQ sf1.src (by decide) (by decide) fun d σ2 d0 d1 sf2 z_=>?_;have sf12:=sf1.trans sf2;have rd:=nQ d0 d1
 (conv=>whnf)
 by_cases h1:w<2
 ·rw [bh h1];(conv=>whnf)
  exact hQ (.new (.int (2+d)) (.tup [key,.int at'])) σ2 rd ⟨rd.regs,ai⟩ (.inr rfl) sf12
 rw [decide_eq_false h1];(conv=>whnf)
 by_cases h2:w<4
 ·rw [bh h2];(conv=>whnf)
  refine cP sf12.src fun a σ3 ha sf3=>?_
  (conv=>whnf)
  refine cP sf3.src fun b σ4 hb sf4=>?_
  (conv=>whnf)
  exact hQ (.store a b) σ4 ⟨ha.ropd,hb.ropd⟩ ⟨ha.ropd.opd,hb.ropd.opd⟩ (.inl rfl) ((sf12.trans sf3).trans sf4)
 rw [decide_eq_false h2];(conv=>whnf)
 by_cases h4:w=4
 ·rw [kE h4];(conv=>whnf)
  refine cP sf12.src fun a σ3 ha sf3=>?_
  (conv=>whnf)
  exact hQ (.load (.int (2+d)) a) σ3 ⟨rd,ha.ropd⟩ ⟨rd.regs,ha.ropd.opd⟩ (.inl rfl) (sf12.trans sf3)
 rw [kD h4];(conv=>whnf)
 by_cases h5:w=5
 ·rw [kE h5];(conv=>whnf)
  refine cP sf12.src fun a σ3 ha sf3=>?_
  (conv=>whnf)
  refine od ?_
  (conv=>whnf)
  refine od ?_
  (conv=>whnf)
  refine mL (sf3.src.ext aD) (xs:=[(Ln.store oG a).vl,(Ln.load (.int (2+d)) oG).vl,(Ln.move (.int (2+d)) a).vl]) aI sf3.src.ne (List.cons_ne_nil _ _) ae fun x σ4 hx sf4=>?_
  (conv=>whnf)
  have sf:=(sf12.trans sf3).trans ((SF.pre sf3.src aD).trans sf4);rcases aP.mp hx with rfl | hx
  ·exact hQ (.store oG a) σ4 ⟨oM,ha.ropd⟩ ⟨oM.opd,ha.ropd.opd⟩ (.inl rfl) sf
  rcases aP.mp hx with rfl | hx
  ·exact hQ (.load (.int (2+d)) oG) σ4 ⟨rd,oM⟩ ⟨rd.regs,oM.opd⟩ (.inl rfl) sf
  ·cases aq.mp hx;exact hQ (.move (.int (2+d)) a) σ4 ⟨rd,ha.ropd⟩ ⟨rd.regs,ha.ropd.opd⟩ (.inl rfl) sf
 rw [kD h5];(conv=>whnf)
 by_cases h6:w=6
 ·rw [kE h6];(conv=>whnf)
  refine cP sf12.src fun a σ3 ha sf3=>?_
  (conv=>whnf)
  refine cP sf3.src fun b σ4 hb sf4=>?_
  (conv=>whnf)
  exact hQ (.struct a b) σ4 ⟨ha.ropd,hb.ropd⟩ ⟨ha.ropd.opd,hb.ropd.opd⟩ (.inl rfl) ((sf12.trans sf3).trans sf4)
 rw [kD h6];(conv=>whnf)
 by_cases h7:w=7
 ·rw [kE h7];(conv=>whnf)
  refine gQ sf12.src (by decide) (by decide) fun r σ3 r0 r1 sf3 z_=>?_
  (conv=>whnf)
  exact hQ (.part (.int (2+d)) (oR (.int 6)) (.int r)) σ3 ⟨rd,rfl,Fw r0 r1⟩ ⟨rd.regs,.inl ⟨_,(jW 6 (by decide)).regs,rfl⟩⟩ (.inl rfl) (sf12.trans sf3)
 rw [kD h7];(conv=>whnf)
 refine mL (sf12.src.ext aD) (xs:=[.str "f",.str "g",.str "h"]) aI sf12.src.ne (by decide) (by decide) fun k σ3 hk sf3=>?_
 (conv=>whnf)
 refine gQ sf3.src (by decide) (by decide) fun r σ4 r0 r1 sf4 z_=>?_
 (conv=>whnf)
 refine cP sf4.src fun a σ5 ha sf5=>?_
 (conv=>whnf)
 refine cP sf5.src fun b σ6 hb sf6=>?_
 (conv=>whnf)
 exact hQ (.call (.int (2+d)) (.int (2+r)) k a b) σ6 ⟨rd,nQ r0 r1,ha.ropd,hb.ropd⟩ ⟨rd.regs,(nQ r0 r1).regs,hk,ha.ropd.opd,hb.ropd.opd⟩ (.inl rfl) ((((sf12.trans ((SF.pre sf12.src aD).trans sf3)).trans sf4).trans sf5).trans sf6)
end
section
variable{so:Nat}{X:Nat→Prop}
structure iL(X:Nat→Prop)(σ:Hp)(c:Nat)(ls:List Ln)(a b:V):Prop where
 ex:∃k rg bl blk li,¬X c∧¬X bl∧¬X blk∧¬X li∧
  σ[c]?=some (.inst "Code" [("key",k),("params",.int 2),("registers",rg),("blocks",.obj bl),("captured",.int 0),("results",.int 2),("recovery",.none)])∧
  σ[bl]?=some (.list [.obj blk])∧σ[blk]?=some (.list [.obj li,.tup [.str "return",.tup [a,b]]])∧σ[li]?=some (.list (ls.map Ln.vl))
theorem iL.same{c:Nat}(s:iL X σ c ls a b)(h:∀n,n<σ.length→¬X n→σ'[n]?=σ[n]?):iL X σ' c ls a b:=by
 refine eR s.ex fun k rg bl blk li h1 h2 h3 h4 g1 g2 g3 g4=>?_;exact ⟨k,rg,bl,blk,li,h1,h2,h3,h4,(h _ (a0 g1) h1).trans g1,(h _ (a0 g2) h2).trans g2,(h _ (a0 g3) h3).trans g3,(h _ (a0 g4) h4).trans g4⟩
theorem iL.at{c:Nat}(s:iL X σ c ls a b):gR σ.length σ c ls a b:=by
 refine eR s.ex fun k rg bl blk li h1 h2 h3 h4 g1 g2 g3 g4=>?_;exact ⟨k,rg,bl,blk,li,a0 g1,a0 g2,a0 g3,a0 g4,g1,g2,g3,g4⟩
noncomputable abbrev T7:List V:=(List.replicate (Int.toNat 7) [vT]).flatten
noncomputable abbrev GP(σ:Hp)(key:V):Ob:=.inst "Code" [("key",key),("params",.int 2),("registers",.obj (σ.length+5)),("blocks",.obj (σ.length+3)),("captured",.int 0),("results",.int 2),("recovery",.none)]
noncomputable abbrev n8(σ:Hp)(key:V)(li:Nat)(en:V):Hp:=[Ob.list [vT],Ob.list T7,Ob.list [.obj li,en],Ob.list [.obj (σ.length+2)],GP σ key,Ob.list T7]
theorem AL{li:Nat}{key en:V}(hQ:Q .none (σ++n8 σ key li en)) :
  aY ba (n+1) ("Code","__init__") [.obj (σ.length+4),key,.int 2,.obj (σ.length+1),.obj (σ.length+3),.int 0,.int 2] (σ++[Ob.list [vT],Ob.list T7,Ob.list [.obj li,en],Ob.list [.obj (σ.length+2)],.inst "Code" []]) Q:=by
 have h:=qY (n:=n) (σ:=σ++[Ob.list [vT],Ob.list T7,Ob.list [.obj li,en],Ob.list [.obj (σ.length+2)]]) (key:=key) (blocks:=.obj (σ.length+3)) (r:=σ.length+1) (rs:=T7) (Q:=Q) (by rw [cJ];rfl) (by decide) ?_
 ·rw [dg,aR] at h;exact h
 ·rw [aR,dg];exact hQ
theorem Br{a:Ob}:(σ++[a]).length=σ.length+1:=dg
theorem Bs{a b:Ob}:(σ++[a]++[b]).length=σ.length+2:=dg.trans (congrArg (·+1) Br)
theorem DG{a b c:Ob}:(σ++[a]++[b]++[c]).length=σ.length+3:=dg.trans (congrArg (·+1) Bs)
theorem uF{a b c d:Ob}:(σ++[a]++[b]++[c]++[d]).length=σ.length+4:=dg.trans (congrArg (·+1) DG)
theorem Hb{a b c d e:Ob}:(σ++[a]++[b]++[c]++[d]++[e]).length=σ.length+5:=dg.trans (congrArg (·+1) uF)
theorem Ft{a b c d e:Ob}:σ++[a]++[b]++[c]++[d]++[e]=σ++[a,b,c,d,e]:=by rw [aR,aR,aR,aR];rfl
theorem qZ{li x1 x2 x3 x4:Nat}{key en:V}{τ:Hp}(e1:x1=σ.length+1)(e2:x2=σ.length+2)(e3:x3=σ.length+3)(e4:x4=σ.length+4)(hτ:τ=σ++[Ob.list [vT],Ob.list T7,Ob.list [.obj li,en],Ob.list [.obj x2],.inst "Code" []])(hQ:Q .none (σ++n8 σ key li en)) :
  aY ba (n+1) ("Code","__init__") [.obj x4,key,.int 2,.obj x1,.obj x3,.int 0,.int 2] τ Q:=by
 subst e1 e2 e3 e4 hτ;exact AL hQ
theorem n9{li:Nat}{key:V}(h:σ[li]?=some (.list (ls.map Ln.vl)))(hl:¬X li)(hX:∀n,σ.length≤n→¬X n):iL X (σ++n8 σ key li (.tup [.str "return",.tup [a,b]])) (σ.length+4) ls a b :=
 ⟨key,.obj (σ.length+5),σ.length+3,σ.length+2,li,hX _ (by omega),hX _ (by omega),hX _ (by omega),hl,cJ,cJ,cJ,aT h⟩
theorem Ln.ok_of{x:Ln}{st st':List V}(h:x.ok st)(hs:∀s∈x.news,s∈st'):x.ok st':=by
 cases x with
 | new d s=>exact ⟨h.1,hs s ai⟩
 | _=>exact h
structure oW(key:V)(js:List Int)(ys:List Ln):Prop where
 mok:∀y∈ys,y.mok
 ok:∀y∈ys,∃st,y.ok st
 news:(ys.flatMap Ln.news).Sublist (js.map fun j=>V.tup [key,.int j])
 len:ys.length=js.length
theorem oW.nil{key:V}:oW key [] []:=⟨fun z_ h=>(an h).elim,fun z_ h=>(an h).elim,List.nil_sublist _,rfl⟩
theorem oW.cons{key:V}{j:Int}{js:List Int}{x:Ln}{ys:List Ln}(m:x.mok)(o:x.ok [.tup [key,.int j]])(hn:x.news=[]∨x.news=[.tup [key,.int j]])(d:oW key js ys):oW key (j::js) (x::ys) :=
 ⟨bW.mpr ⟨m,d.mok⟩,bW.mpr ⟨⟨_,o⟩,d.ok⟩,by
  rw [List.flatMap_cons,List.map_cons];exact hn.elim (fun e=>by rw [e];exact d.news.cons _) fun e=>by rw [e];exact d.news.cons_cons _,congrArg (·+1) d.len⟩
theorem ww{key:V}{K:List V→Hp→Prop}(hg:∀σ,gd σ)(hk:cw ["at"] loc "key"=some key)(hsl:cw ["at"] loc "source"=some (.obj so)){js:List Int}:∀{acc:List Ln} {σ:Hp},vE σ so→acc.length+js.length<1000→
  (∀ys σ',oW key js ys→SF so σ σ'→K ((acc++ys).map Ln.vl) σ')→
  dL gd (.name "at") (cw ["at"] loc) (eW (iK (aY ba (n+5)) jR) (ev (aY ba (n+5)) jQ)) 0 (js.map V.int) (acc.map Ln.vl) σ K:=by
 induction js with
 | nil=>intro acc σ hs hl hK;exact ⟨hg σ,bn acc▸hK [] σ .nil ⟨ax _,fun z_ z_ z_=>rfl,hs⟩⟩
 | cons j js ih =>
  intro acc σ hs hl hK;rw [List.length_cons] at hl;refine ⟨hg σ,?_⟩;refine aw hsl ?_;refine aw hk ?_;refine nE hs fun x σ1 mok xok hn sf=>⟨by show 0+(acc.map Ln.vl).length+1<big;rw [aJ];unfold big;omega,?_⟩
  rw [show acc.map Ln.vl++[x.vl]=(acc++[x]).map Ln.vl from (List.map_append (f:=Ln.vl) (l₁:=acc) (l₂:=[x])).symm];exact ih sf.src (by rw [aO,List.length_singleton];omega) fun ys σ' dr sf'=>List.append_cons acc x ys▸hK (x::ys) σ' (dr.cons mok xok hn) (sf.trans sf')
structure Gy(key:V)(ls:List Ln)(a b:V):Prop where
 js:∃js:List Int,js.Nodup∧js.length≤7∧oW key js ls
 a:vH a
 b:vH b
structure Ht(σ:Hp)(so fo:Nat)(X:Nat→Prop)(done:List V)(cA:V→Nat)(ls:V→List Ln)(a b:V→V):Prop where
 src:vE σ so
 fnd:∃e,σ[fo]?=some (.dict (done.map fun k=>(k,V.obj (cA k))) e)
 fn:∀k∈done,iL X σ (cA k) (ls k) (a k) (b k)∧Gy k (ls k) (a k) (b k)
theorem yj{m:List (V×V)}{e:Nat}{w:V}(h:getD m k=none):fK m e k w=.dict (m++[(k,w)]) (e+1):=by
 unfold fK;rw [kx h,h];rfl
theorem vW{fo li fe:Nat}{done:List V}{a' b':V}{ys:List Ln}{cA:V→Nat}{ls:V→List Ln}{a b:V→V}{σ6:Hp}(hX:∀n,X n↔n=so∨n=fo)(hne:so≠fo)(cs:Ht σ so fo X done cA ls a b)(hfo:σ[fo]?=some (.dict (done.map fun k=>(k,V.obj (cA k))) fe))(sf:SF so σ σ')(hli:σ'[li]?=some (.list (ys.map Ln.vl)))(hl:σ.length≤li)(knd:k∉done)(df:Gy k ys a' b')
  (h6:σ6=(σ'++n8 σ' k li (.tup [.str "return",.tup [a',b']])).set fo (fK (done.map fun k=>(k,V.obj (cA k))) fe k (.obj (σ'.length+4)))) :
  (∃cA ls a b,Ht σ6 so fo X (done++[k]) cA ls a b)∧σ.length≤σ6.length∧∀n,n<σ.length→¬X n→σ6[n]?=σ[n]?:=by
 have hget:getD (done.map fun k=>(k,V.obj (cA k))) k=none:=xI (by rw [List.map_map];intro q;exact knd (by refine bG (List.mem_map.mp q) fun z hz e=>?_;exact e▸hz));have hst:fK (done.map fun k=>(k,V.obj (cA k))) fe k (.obj (σ'.length+4))=.dict (done.map (fun k=>(k,V.obj (cA k)))++[(k,.obj (σ'.length+4))]) (fe+1):=by
  exact yj hget
 rw [hst] at h6;have lso:so<σ.length:=let ⟨_,_,h⟩:=cs.src;a0 h
 have lfo:=a0 hfo;have Xn:∀n,σ.length≤n→¬X n:=fun n hn q=>((hX n).mp q).elim (fun e=>Nat.not_le_of_lt lso (e▸hn)) fun e=>Nat.not_le_of_lt lfo (e▸hn);have cx:=n9 (X:=X) (key:=k) (a:=a') (b:=b') hli (Xn _ hl) fun n hn=>Xn n (am sf.le hn);have hfo4:(σ'++n8 σ' k li (.tup [.str "return",.tup [a',b']]))[fo]?=some (.dict (done.map fun k=>(k,V.obj (cA k))) fe):=aT (sf.keep hfo (aU hne));have set':∀n,¬X n→σ6[n]?=(σ'++n8 σ' k li (.tup [.str "return",.tup [a',b']]))[n]?:=fun n hn=>h6▸aM fun e=>hn ((hX n).mpr (.inr e.symm));have old:∀n,n<σ.length→¬X n→σ6[n]?=σ[n]?:=fun n hn hx =>
  (set' n hx).trans ((au (al hn sf.le)).trans (sf.fr n hn fun e=>hx ((hX n).mpr (.inl e))))
 have at':σ6[fo]?=some (.dict (done.map (fun k=>(k,V.obj (cA k)))++[(k,.obj (σ'.length+4))]) (fe+1)):=h6▸bq hfo4;have src':vE σ6 so:=let ⟨x,y,h⟩:=sf.src;⟨x,y,h6▸(aM (aU hne)).trans (aT h)⟩
 refine ⟨⟨fun k'=>if k'=k then σ'.length+4 else cA k',fun k'=>if k'=k then ys else ls k',fun k'=>if k'=k then a' else a k',fun k'=>if k'=k then b' else b k',src',⟨fe+1,?_⟩,fun k' hk'=>?_⟩,?_,old⟩
 ·have e9:done.map (fun k=>(k,V.obj (cA k)))++[(k,.obj (σ'.length+4))]=(done++[k]).map fun k'=>(k',V.obj (if k'=k then σ'.length+4 else cA k')):=by
   rw [List.map_append,List.map_cons,List.map_nil,if_pos rfl];exact congrArg (·++[(k,V.obj (σ'.length+4))]) (List.map_congr_left fun k' hk'=>by rw [if_neg (fun e:k'=k=>knd (e▸hk'))])
  rw [at',e9]
 ·by_cases e:k'=k
  ·subst e;rw [if_pos rfl,if_pos rfl,if_pos rfl,if_pos rfl];exact ⟨cx.same fun n z_ hn=>set' n hn,df⟩
  ·rw [if_neg e,if_neg e,if_neg e,if_neg e];have c:=cs.fn k' ((bA.mp hk').elim id fun q=>absurd (aq.mp q) e);exact ⟨c.1.same old,c.2⟩
 ·rw [h6,bO,dg];exact am sf.le (aW _ _)
theorem B0(h:i<1000):dm .range [.int i] σ=some (((List.range i).map fun (j:Nat)=>(j:Int)).map V.int,[]):=by
 show (if (0:Int)≤(i:Int)∧(i:Int)<1000000 then some ((List.range (i:Int).toNat).map fun (j:Nat)=>V.int (j:Int),([]:List Nat)) else none)=_;rw [if_pos ⟨Int.natCast_nonneg _,Int.ofNat_lt.mpr (bf h (by decide))⟩,Int.toNat_natCast,List.map_map];rfl
theorem C3{x y z:Int}(e:z=x+y)(q:Q (.int z) σ):Hr .add Q (.int x) (.int y) σ:=by
 subst e;exact q
theorem za{Q:KL}(h:Q [v] σ):EO (pz C [] loc) Q v σ:=h
theorem AM{k:nc}{vs:List V}{p:List V×List Nat}{m:Nat}{t:Tn}{turn:Nat→Loc→Hp→KL→Prop}{Q:KL}(h:dm k vs σ=some p)(q:dL (bV p.2 σ) t loc turn m p.1 [] σ Q):xN k t loc turn m Q vs σ :=
 aw h q
theorem vV{fo:Nat}{l:Nat}(hX:∀n,X n↔n=so∨n=fo)(hne:so≠fo)(hl:¬X l){rest:List V}:∀{done:List V} {cA:V→Nat} {ls:V→List Ln} {a b:V→V} {loc:Loc} {σ:Hp},(done++rest).Nodup→(∀k∈done++rest,k∈bw)→(done++rest).length=3→Ht σ so fo X done cA ls a b→l<σ.length→σ[l]?=σ₀[l]?→σ₀.length≤σ.length→(∀n,n<σ₀.length→¬X n→σ[n]?=σ₀[n]?)→loc "source"=some (.obj so)→loc "found"=some (.obj fo)→
  (∀loc' σ' cA ls a b,bT ["key","lines","end"] loc loc'→Ht σ' so fo X (done++rest) cA ls a b→σ₀.length≤σ'.length→(∀n,n<σ₀.length→¬X n→σ'[n]?=σ₀[n]?)→QQ .next loc' σ')→
  eV (bV [l] σ₀) (.name "key") (dW (aY ba (n+5)) jP) rest loc σ QQ:=by
 induction rest with
 | nil =>
  intro done cA ls a b loc σ nd hm h3 cs hl1 hl2 hz keep hs hf hQ;exact ⟨fun q hq=>by rw [aq.mp hq];exact hl2,hQ loc σ cA ls a b .refl ((bn done).symm▸cs) hz keep⟩
 | cons k rest ih =>
  intro done cA ls a b loc σ nd hm h3 cs hl1 hl2 hz keep hs hf hQ;refine ⟨fun q hq=>by rw [aq.mp hq];exact hl2,?_⟩;rw [List.append_cons] at nd hm h3 hQ;have hkk:=hm k (List.mem_append_left _ (List.mem_append_right _ ai));have knd:k∉done:=fun q=>(cu.mp (cu.mp nd).1).2.2 k q k ai rfl;have dl:done.length<1000:=by rw [aO,aO] at h3;omega
  refine xe cs.fnd fun fe hfe=>?_;refine aw hs ?_;refine gQ cs.src (by decide) (by decide) fun r σ1 r0 r1 sf1 z_=>?_;refine xe (Int.eq_ofNat_of_zero_le r0) fun i w=>?_;subst w;have hi:3+i<8:=Nat.add_lt_add_left (Int.ofNat_lt.mp r1) 3;have e3:((3+i:Nat):Int)=3+(i:Int):=Int.natCast_add 3 i;generalize (i:Int)=ii at e3 ⊢;refine C3 e3 ?_;have hr:=B0 (σ:=σ1) (i:=3+i) (bf hi (by decide));refine za ?_;generalize ((3+i:Nat):Int)=z at hr ⊢;refine AM hr ?_;have nj:((List.range (3+i)).map fun (j:Nat)=>(j:Int)).Nodup:=List.Pairwise.map _ (fun a b h e=>h (Int.ofNat.inj e)) List.nodup_range;have lj:((List.range (3+i)).map fun (j:Nat)=>(j:Int)).length=3+i:=by rw [aJ,List.length_range]
  generalize ((List.range (3+i)).map fun (j:Nat)=>(j:Int))=js at nj lj ⊢;refine ww (n:=n) (loc:=setL loc "key" k) (key:=k) (acc:=[]) (fun σ z_ q=>(an q).elim) rfl hs sf1.src (by rw [lj];exact ay (Nat.le_of_eq (Nat.zero_add _)) (bf hi (by decide))) fun ys σ2 dr sf2=>?_;refine aw hs ?_;refine cP (sf2.src.ext aD) fun a' σ3 ha sf3=>?_;refine aw hs ?_;refine cP sf3.src fun b' σ4 hb sf4=>?_;refine oL aI (by decide) (by decide) ae ?_;refine qZ Br Bs DG uF Ft ⟨rfl,?_⟩;rw [uF];refine aw hf ?_;have sfA:=(sf1.trans sf2).trans (((SF.pre sf2.src aD).trans sf3).trans sf4);have kk:=lK hkk;refine gc (aT (sfA.keep hfe (aU hne))) kk.1 kk.2 (by rw [aJ];exact bf dl (by decide)) ?_;have l2:σ2.length<σ3.length:=al (a0 aI) sf3.le;have hli:σ4[σ2.length]?=some (.list (ys.map Ln.vl)):=sf4.keep (sf3.keep aI (sf2.src.ne)) (sf2.src.ne);have nx:=vW hX hne cs hfe sfA hli (am sf1.le sf2.le) knd ⟨⟨js,nj,by rw [lj];exact Nat.le_of_lt_succ hi,dr⟩,ha,hb⟩ rfl;generalize List.set (σ4++n8 σ4 k (List.length σ2) (V.tup [V.str "return",V.tup [a',b']])) fo (fK (List.map (fun k=>(k,V.obj (cA k))) done) fe k (V.obj (List.length σ4+4)))=σ6 at nx ⊢;refine ni nx fun x l6 old=>?_;refine Hq x fun z_ z_ z_ z_ cs6=>?_;have ag:bT ["key","lines","end"] loc (setL (setL (setL loc "key" k) "lines" (.obj σ2.length)) "end" (.tup [.str "return",.tup [a',b']])):=((bT.refl.set (by decide)).set (by decide)).set (by decide);exact ih nd hm h3 cs6 (al hl1 l6) ((old l hl1 hl).trans hl2) (am hz l6) (fun n hn hx=>(old n (al hn hz) hx).trans (keep n hn hx)) hs hf fun loc' σ' cA ls a b ag' cs' h1 h2=>hQ loc' σ' cA ls a b (ag.trans ag') cs' h1 h2
end
section
variable{so:Nat}{X:Nat→Prop}
theorem vc:cz [.str "f",.str "g",.str "h"]=[.str "f",.str "g",.str "h"]:=by kernel_rfl
theorem Cm:cz [.str "h",.str "g",.str "f"]=[.str "f",.str "g",.str "h"]:=by kernel_rfl
theorem gZ:∀{l:List V},(l++ns).Nodup→bQ l ns=l++ns:=by
 induction ns with
 | nil=>intro l _;exact (bn l).symm
 | cons x ns ih =>
  intro l h;have hx:x∉l:=fun q=>(cu.mp h).2.2 x q x ai rfl;rw [List.append_cons] at h ⊢;rw [j6,show dE l x=l++[x] from if_neg hx];exact ih h
theorem Gy.sites(h:Gy k ls a b):(ls.flatMap Ln.news).Nodup∧(ls.flatMap Ln.news).length≤7∧∀s∈ls.flatMap Ln.news,∃j:Int,s=.tup [k,.int j]:=by
 refine f7 h.js fun js h1 h2 d=>?_;have nd:(js.map fun j=>V.tup [k,.int j]).Nodup:=List.Pairwise.map _ (fun a b h e=>h (by cases e;rfl)) h1;refine ⟨nd.sublist d.news,am d.news.length_le (by simpa using h2),fun s hs=>?_⟩;refine bG (List.mem_map.mp (d.news.subset hs)) fun j z_ e=>?_;exact ⟨j,e.symm⟩
theorem Dv{cA:V→Nat}{ls:V→List Ln}{a b:V→V}(h:∀k∈bw,Gy k (ls k) (a k) (b k)):Ao ⟨bw,cA,ls,a,b⟩:=by
 have kstr:∀k∈bw,∃s,k=.str s:=fun k hk=>DF hk;have disj:∀k∈bw,∀k'∈bw,k≠k'→∀s∈(ls k).flatMap Ln.news,s∉(ls k').flatMap Ln.news:=fun k hk k' hk' hne s h1 h2=>by
  refine xe ((h k hk).sites.2.2 s h1) fun j e=>?_;refine xe ((h k' hk').sites.2.2 s h2) fun j' e'=>?_;rw [e] at e';simp only [V.tup.injEq,List.cons.injEq,and_true] at e';exact hne e'.1
 have ok:cU.Ok ⟨bw,cA,ls,a,b⟩:=by
  refine ⟨.refl _,fun k hk=>am (h k hk).sites.2.1 (by decide),fun k hk s hs=>?_,fun k hk x hx=>?_,fun k hk=>(h k hk).a.ropd.opd,fun k hk=>(h k hk).b.ropd.opd,disj⟩
  ·refine xe ((h k hk).sites.2.2 s hs) fun j w=>?_;subst w;refine xe (kstr k hk) fun t z=>?_;subst z;exact ⟨rfl,ae⟩
  ·refine f7 ((h k hk).js) fun js h1 h2 d=>?_;refine xe (d.ok x hx) fun st q=>?_;exact Ln.ok_of q fun s hs=>List.mem_flatMap.mpr ⟨x,hx,hs⟩
 have nd:(bw.flatMap fun k=>(ls k).flatMap Ln.news).Nodup:=by
  have hf:=(h (.str "f") (by simp [bw])).sites.1;have hg:=(h (.str "g") (by simp [bw])).sites.1;have hh:=(h (.str "h") (by simp [bw])).sites.1;simp only [bw,List.flatMap_cons,List.flatMap_nil,bn];refine List.nodup_append.mpr ⟨hf,List.nodup_append.mpr ⟨hg,hh,fun x hx y hy e=>?_⟩,fun x hx y hy e=>?_⟩
  ·exact disj (.str "g") (by simp [bw]) (.str "h") (by simp [bw]) (by simp) x hx (e▸hy)
  ·refine Or.elim (bA.mp hy) (fun hy=>?_) (fun hy=>?_)
   ·exact disj (.str "f") (by simp [bw]) (.str "g") (by simp [bw]) (by simp) x hx (e▸hy)
   ·exact disj (.str "f") (by simp [bw]) (.str "h") (by simp [bw]) (by simp) x hx (e▸hy)
 have e1:bQ [] (cU.full ⟨bw,cA,ls,a,b⟩ (cz bw))=bw.flatMap fun k=>(ls k).flatMap Ln.news:=by
  have es:cz bw=bw:=vc;rw [es];have e2:cU.full ⟨bw,cA,ls,a,b⟩ bw=bw.flatMap fun k=>(ls k).flatMap Ln.news:=by
   delta cU.full;have:∀k∈bw,bQ [] (cU.news ⟨bw,cA,ls,a,b⟩ k)=(ls k).flatMap Ln.news:=fun k hk=>by
    have:=gZ (l:=[]) (ns:=(ls k).flatMap Ln.news) (by simpa using (h k hk).sites.1);rw [List.nil_append] at this;exact this
   rw [List.flatMap_def,List.flatMap_def];exact congrArg _ (List.map_congr_left this)
  rw [e2];have:=gZ (l:=[]) (ns:=bw.flatMap fun k=>(ls k).flatMap Ln.news) (by simpa using nd)
  simpa using this
 have s2:cF (bw.flatMap fun k=>(ls k).flatMap Ln.news)=true:=by
  delta cF;simp only [Bool.and_eq_true,Bool.or_eq_true,decide_eq_true_eq];refine ⟨?_,.inr (List.all_eq_true.mpr fun s hs=>?_)⟩
  ·have hf:=(h (.str "f") (by simp [bw])).sites.2.1;have hg:=(h (.str "g") (by simp [bw])).sites.2.1;have hh:=(h (.str "h") (by simp [bw])).sites.2.1;simp only [bw,List.flatMap_cons,List.flatMap_nil,bn,aO];omega
  ·refine bG (List.mem_flatMap.mp hs) fun k hk hs=>?_;refine xe ((h k hk).sites.2.2 s hs) fun j u=>?_;subst u;refine xe (kstr k hk) fun t v=>?_;subst v;rfl
 refine ⟨ok,fun k hk x hx=>?_,fun k hk=>(h k hk).a.ropd,fun k hk=>(h k hk).b.ropd,fun k hk=>?_,by rw [e1];exact s2,s2,by rw [e1];rfl⟩
 ·refine f7 ((h k hk).js) fun js h1 h2 d=>?_;exact d.mok x hx
 ·refine f7 ((h k hk).js) fun js h1 h2 d=>?_;rw [d.len];omega
theorem A6{a b:Ob}(h:n<σ.length):(σ++[a]++[b])[n]?=σ[n]?:=by
 rw [aR];exact au h
theorem vX(hs:vE σ so)(hQ:∀fo σ' P,Ao P→(∀σ'',SF so σ' σ''→fw σ''.length σ'' fo P)→vE σ' so→σ.length≤fo→SF so σ σ'→Q (.obj fo) σ'):aY ba (n+6) ("","_law_codes") [.obj so] σ Q:=by
 refine bs (d:=lX) rfl ae ae ?_;have nd:([V.str "f",V.str "g",V.str "h"]:List V).Nodup:=by simp
 have lso:so<σ.length:=let ⟨_,_,h⟩:=hs;a0 h
 refine ⟨fun p hp=>er hp,ae,?_⟩;refine aw (ch aI) ?_;refine vV (n:=n) (so:=so) (fo:=σ.length) (X:=fun n=>n=so∨n=σ.length) (done:=[]) (fun z_=>Iff.rfl) (aN lso) (by rw [Br];omega) (cA:=fun z_=>0) (ls:=fun z_=>[]) (a:=fun z_=>.none) (b:=fun z_=>.none) nd (fun k hk=>hk) rfl ⟨(hs.ext aD).ext aD,⟨0,aT aI⟩,fun z_ h=>(an h).elim⟩ (a0 aI) rfl (ax _) (fun z_ z_ z_=>rfl) rfl rfl fun loc' σ' cA ls a b ag cs h1 h2=>?_;have hfd:loc' "found"=some (.obj σ.length):=ag.at (by decide) rfl;refine aw hfd ?_;rw [List.nil_append] at cs;rw [Bs] at h1 h2;refine xe cs.fnd fun fe hfe=>?_;have hne:=aU (aN lso);refine hQ σ.length σ' ⟨bw,cA,ls,a,b⟩ (Dv fun k hk=>(cs.fn k hk).2) (fun σ'' sf=>⟨a0 (sf.keep hfe hne),⟨fe,sf.keep hfe hne⟩,fun k hk=>((cs.fn k hk).1.same fun n hn hX=>sf.fr n hn fun e=>hX (.inl e)).at⟩) cs.src (ax _) ⟨am (aW _ _) h1,fun n hn hne=>?_,cs.src⟩;refine (h2 n (al hn (aW _ _)) fun q=>q.elim hne (aN hn)).trans ?_;exact A6 hn
end
section
variable{so:Nat}{X:Nat→Prop}
noncomputable abbrev Fz(σ:Hp)(key:V):Ob:=.inst "Code" [("key",key),("params",.int 2),("registers",.obj (σ.length+6)),("blocks",.obj (σ.length+4)),("captured",.int 0),("results",.int 2),("recovery",.none)]
noncomputable abbrev hM(σ:Hp)(key:V)(xs:List V)(en:V):Hp:=[Ob.list [vT],Ob.list T7,Ob.list xs,Ob.list [.obj (σ.length+2),en],Ob.list [.obj (σ.length+3)],Fz σ key,Ob.list T7]
theorem yD{key en:V}(hQ:Q .none (σ++hM σ key xs en)) :
  aY ba (n+1) ("Code","__init__") [.obj (σ.length+5),key,.int 2,.obj (σ.length+1),.obj (σ.length+4),.int 0,.int 2] (σ++[Ob.list [vT],Ob.list T7,Ob.list xs,Ob.list [.obj (σ.length+2),en],Ob.list [.obj (σ.length+3)],.inst "Code" []]) Q:=by
 have h:=qY (n:=n) (σ:=σ++[Ob.list [vT],Ob.list T7,Ob.list xs,Ob.list [.obj (σ.length+2),en],Ob.list [.obj (σ.length+3)]]) (key:=key) (blocks:=.obj (σ.length+4)) (r:=σ.length+1) (rs:=T7) (Q:=Q) (by rw [cJ];rfl) (by decide) ?_
 ·rw [dg,aR] at h;exact h
 ·rw [aR,dg];exact hQ
theorem jo{key:V}(hX:∀n,σ.length≤n→n<σ.length+7→¬X n):iL X (σ++hM σ key (ls.map Ln.vl) (.tup [.str "return",.tup [a,b]])) (σ.length+5) ls a b :=
 ⟨key,.obj (σ.length+6),σ.length+4,σ.length+3,σ.length+2,hX _ (by omega) (by omega),hX _ (by omega) (by omega),hX _ (by omega) (by omega),hX _ (by omega) (by omega),cJ,cJ,cJ,cJ⟩
theorem vU{x1 x2 x3 x4 x5:Nat}{key en:V}{τ:Hp}(e1:x1=σ.length+1)(e2:x2=σ.length+2)(e3:x3=σ.length+3)(e4:x4=σ.length+4)(e5:x5=σ.length+5)(hτ:τ=σ++[Ob.list [vT],Ob.list T7,Ob.list xs,Ob.list [.obj x2,en],Ob.list [.obj x3],.inst "Code" []])(hQ:Q .none (σ++hM σ key xs en)) :
  aY ba (n+1) ("Code","__init__") [.obj x5,key,.int 2,.obj x1,.obj x4,.int 0,.int 2] τ Q:=by
 subst e1 e2 e3 e4 e5 hτ;exact yD hQ
noncomputable abbrev oI(i:Int):V:=oR (.int i)
noncomputable def lu:List Ln:=[.new (.int 2) (.tup [.str "f",.int 1]),.new (.int 3) (.tup [.str "f",.int 2]),.store (oI 2) (oI 3),.call (.int 4) (.int 5) (.str "g") (oI 2) (oI 3)]
noncomputable def fH(cA:V→Nat)(ls1 ls2:List Ln):cU :=
 ⟨[.str "h",.str "g",.str "f"],cA,fun k=>match k with | .str "g"=>ls1 | .str "f"=>lu++ls2 | _=>[],fun k=>match k with | .str "g"=>oN | .str "f"=>oI 5 | _=>oI 0,fun k=>match k with | .str "g"=>oN | .str "f"=>oI 0 | _=>oI 1⟩
structure CD(σ:Hp)(cd:Nat)(L:List (V×Nat×List Ln×V×V))(e:Nat):Prop where
 d:σ[cd]?=some (.dict (L.map fun t=>(t.1,.obj t.2.1)) e)
 c:∀t∈L,iL (·=cd) σ t.2.1 t.2.2.1 t.2.2.2.1 t.2.2.2.2
variable{cd li c e:Nat}{L:List (V×Nat×List Ln×V×V)}{en:V}
theorem CD.ext(x:CD σ cd L e)(p:σ <+:σ'):CD σ' cd L e:=⟨bU p x.d,fun t ht=>(x.c t ht).same fun n hn z_=>by refine xe p fun τ q=>?_;subst q;exact au hn⟩
theorem CD.put(x:CD σ cd L e)(h:iL (·=cd) σ c ls a b)(hk:getD (L.map fun t=>(t.1,V.obj t.2.1)) k=none):CD (σ.set cd (fK (L.map fun t=>(t.1,.obj t.2.1)) e k (.obj c))) cd (L++[(k,c,ls,a,b)]) (e+1):=by
 rw [yj hk];have sm:∀o,∀n,n<σ.length→¬n=cd→(σ.set cd o)[n]?=σ[n]?:=fun o n z_ hn=>aM (aU hn);refine ⟨?_,fun t ht=>(bA.mp ht).elim (fun q=>(x.c t q).same (sm _)) fun q=>?_⟩
 ·rw [List.map_append];exact bq x.d
 ·rw [aq.mp q];exact h.same (sm _)
theorem CD.one(h:iL (·=σ.length) σ c ls a b):CD (σ++[Ob.dict [(k,.obj c)] 1]) σ.length [(k,c,ls,a,b)] 1 :=
 ⟨aI,fun t ht=>by rw [aq.mp ht];exact h.same fun n hn z_=>au hn⟩
theorem HG{a b c d e f:Ob}:σ++[a]++[b]++[c]++[d]++[e]++[f]=σ++[a,b,c,d,e,f]:=by rw [Ft,aR];rfl
theorem Do{x k:String}{eE:E}(hx:loc x=some (.obj li))(hE:∀{σ:Hp} {Q:K1},Q en σ→ev (aY ba (n+1)) eE loc σ Q)(q:Q (.obj (σ.length+4)) (σ++n8 σ (.str k) li en)) :
  ev (aY ba (n+1)) (.new "Code" [(.const (.str k)),(.const (.int 2)),(.bin .mul (.list [(.glob "_law_T" vT)]) (.const (.int 7))),(.list [(.list [.var x,eE])]),(.const (.int 0)),(.const (.int 2))]) loc σ Q:=by
 refine oL aI (by decide) (by decide) ae ?_;refine aw hx ?_;refine hE ?_;refine qZ Br Bs DG uF Ft ⟨rfl,?_⟩;rw [uF];exact q
theorem px{k:String}{eL eE:E}(hL:∀{σ':Hp} {Q:K1},σ <+:σ'→Q (.obj σ'.length) (σ'++[.list xs])→ev (aY ba (n+1)) eL loc σ' Q)(hE:∀{σ:Hp} {Q:K1},Q en σ→ev (aY ba (n+1)) eE loc σ Q)(q:Q (.obj (σ.length+5)) (σ++hM σ (.str k) xs en)) :
  ev (aY ba (n+1)) (.new "Code" [(.const (.str k)),(.const (.int 2)),(.bin .mul (.list [(.glob "_law_T" vT)]) (.const (.int 7))),(.list [(.list [eL,eE])]),(.const (.int 0)),(.const (.int 2))]) loc σ Q:=by
 refine oL aI (by decide) (by decide) ae ?_;refine hL (aD.trans aD) ?_;refine hE ?_;refine vU Br Bs DG uF Hb HG ⟨rfl,?_⟩;rw [Hb];exact q
theorem qk{x k:String}{eE:E}{r:List Mine.S}{Q:KS}(hx:loc x=some (.obj li))(hc:loc "codes"=some (.obj cd))(hE:∀{σ:Hp} {Q:K1},Q (.tup [.str "return",.tup [a,b]]) σ→ev (aY ba (n+1)) eE loc σ Q)(s:CD σ cd L e)(hl:σ[li]?=some (.list (ls.map Ln.vl)))(hne:¬li=cd)(hk:getD (L.map fun t=>(t.1,V.obj t.2.1)) (.str k)=none)(hm:L.length<100)
  (q:∀σ' c,CD σ' cd (L++[(.str k,c,ls,a,b)]) (e+1)→(∀τ:Hp,τ <+:σ→τ.length≤cd→τ <+:σ')→dW (aY ba (n+1)) r loc σ' Q) :
  dW (aY ba (n+1)) (.assign (.sub (.var "codes") (.const (.str k))) (.new "Code" [(.const (.str k)),(.const (.int 2)),(.bin .mul (.list [(.glob "_law_T" vT)]) (.const (.int 7))),(.list [(.list [.var x,eE])]),(.const (.int 0)),(.const (.int 2))])::r) loc σ Q:=by
 refine rZ (Do hx hE ?_);refine aw hc ?_;have lc:=a0 s.d;refine gc (aT s.d) rfl (show V.dep (.str k)≤6 from aS _) (by rw [aJ];exact bf hm (by decide)) ?_;exact q _ _ ((s.ext aD).put (n9 hl hne fun n hn=>aU (aN (al lc hn))) hk) fun τ p h=>eU (p.trans aD) h
theorem zR{k:String}{eL eE:E}{r:List Mine.S}{Q:KS}(hc:loc "codes"=some (.obj cd))(hL:∀{σ':Hp} {Q:K1},σ <+:σ'→Q (.obj σ'.length) (σ'++[.list (ls.map Ln.vl)])→ev (aY ba (n+1)) eL loc σ' Q)(hE:∀{σ:Hp} {Q:K1},Q (.tup [.str "return",.tup [a,b]]) σ→ev (aY ba (n+1)) eE loc σ Q)(s:CD σ cd L e)(hk:getD (L.map fun t=>(t.1,V.obj t.2.1)) (.str k)=none)(hm:L.length<100)
  (q:∀σ' c,CD σ' cd (L++[(.str k,c,ls,a,b)]) (e+1)→(∀τ:Hp,τ <+:σ→τ.length≤cd→τ <+:σ')→dW (aY ba (n+1)) r loc σ' Q) :
  dW (aY ba (n+1)) (.assign (.sub (.var "codes") (.const (.str k))) (.new "Code" [(.const (.str k)),(.const (.int 2)),(.bin .mul (.list [(.glob "_law_T" vT)]) (.const (.int 7))),(.list [(.list [eL,eE])]),(.const (.int 0)),(.const (.int 2))])::r) loc σ Q:=by
 refine rZ (px hL hE ?_);refine aw hc ?_;have lc:=a0 s.d;refine gc (aT s.d) rfl (show V.dep (.str k)≤6 from aS _) (by rw [aJ];exact bf hm (by decide)) ?_;exact q _ _ ((s.ext aD).put (jo fun n hn z_=>aU (aN (al lc hn))) hk) fun τ p h=>eU (p.trans aD) h
theorem tP{x k:String}{eN:E}{r:List Mine.S}{Q:KS}(hN:∀{Q:K1},Q (.obj c) σ₁→ev C eN loc σ Q)(q:dW C r (setL loc x (.obj σ₁.length)) (σ₁++[.dict [(.str k,.obj c)] 1]) Q):dW C (.assign (.name x) (.dict [((.const (.str k)),eN)])::r) loc σ Q:=by
 refine hN ⟨fun p hp=>by rw [aq.mp hp];exact ⟨rfl,show V.dep (.str k)≤6 from aS _⟩,ae,?_⟩;exact q
theorem j7{x:String}{e:E}{r:List Mine.S}{Q:KS}(he:∀{Q:K1},Q v σ₁→ev C e loc σ Q)(q:dW C r (setL loc x v) σ₁ Q):dW C (.assign (.name x) e::r) loc σ Q:=by
 refine rZ (he ?_);exact q
theorem v2{x:String}{e:E}{r:List Mine.S}{Q:KS}(hx:loc x=some (.obj li))(he:∀{Q:K1},Q v σ→ev C e loc σ Q)(h:σ[li]?=some (.list l))(hl:l.length<1000)(q:dW C r loc (σ.set li (.list (l++[v]))) Q):dW C (.expr (.bm .append (.var x) [e])::r) loc σ Q:=by
 refine aw hx ?_;refine ⟨xV h rfl,?_⟩;refine he ?_;exact fh h (bf hl (by decide)) q
theorem wS{f1 f2:Nat}{ls1 ls2:List Ln}(h1:σ[f1]?=some (.list (ls1.map Ln.vl)))(h2:σ[f2]?=some (.list (ls2.map Ln.vl)))(hl:ls2.length≤20)
  (hQ:∀cd σ' cA,σ <+:σ'→fw σ'.length σ' cd (fH cA ls1 ls2)→Q (.obj cd) σ'):aY ba (n+2) ("","_law_pairs") [.obj f1,.obj f2] σ Q:=by
 refine bs (d:=l8) rfl ae ae ?_;refine tP (px (xs:=[]) (en:=.tup [.str "return",.tup [oI 0,oI 1]]) (fun z_ q=>q) (fun q=>q)) ?_;have cx:iL (·=(σ++hM σ (.str "h") [] (.tup [.str "return",.tup [oI 0,oI 1]])).length) (σ++hM σ (.str "h") [] (.tup [.str "return",.tup [oI 0,oI 1]])) (σ.length+5) [] (oI 0) (oI 1):=jo (ls:=[]) fun n z_ h2=>by rw [dg];exact aN h2
 have p1:σ <+:σ++hM σ (.str "h") [] (.tup [.str "return",.tup [oI 0,oI 1]]):=aD;generalize σ++hM σ (.str "h") [] (.tup [.str "return",.tup [oI 0,oI 1]])=σ1 at cx p1 ⊢;have s1:=CD.one (k:=.str "h") cx;refine j7 (v:=oN) (fun q=>q) ?_;have p1':=p1.trans (aD (τ:=[Ob.dict [(V.str "h",V.obj (σ.length+5))] 1]));refine qk (n:=n) (a:=oN) (b:=oN) rfl rfl (fun q=>q) s1 (bU p1' h1) (aN (al (a0 h1) (bM p1))) rfl ae fun σ2 c2 s2 p2=>?_;have p2:=p2 σ p1' (bM p1);refine j7 (v:=.obj σ2.length) (σ₁:=σ2++[Ob.list ((lu.take 3).map Ln.vl)]) (fun q=>q) ?_;refine v2 (li:=σ2.length) (l:=(lu.take 3).map Ln.vl) (v:=(Ln.call (.int 4) (.int 5) (.str "g") (oI 2) (oI 3)).vl) rfl (fun q=>q) aI ae ?_;rw [D6];have s3:=s2.ext (aD (τ:=[Ob.list ((lu.take 3).map Ln.vl++[(Ln.call (.int 4) (.int 5) (.str "g") (oI 2) (oI 3)).vl])]));refine zR (n:=n) (a:=oI 5) (b:=oI 0) (ls:=lu++ls2) rfl (fun p q=>?_) (fun q=>q) s3 rfl ae fun σ4 c4 s4 p4=>?_
 ·refine rY (x:=lu.map Ln.vl) (bU p aI) (bU p (aT (bU p2 h2))) (by rw [aJ,aJ];exact ay (bK hl _) (by decide)) ?_;rw [←List.map_append];exact q
 have lc:σ.length≤σ1.length:=bM p1;have p4:=p4 σ (p2.trans aD) lc;refine hQ σ1.length _ (fun k=>match k with | .str "g"=>c2 | .str "f"=>c4 | _=>σ.length+5) p4 ⟨a0 s4.d,⟨3,s4.d⟩,vK ?_ ?_ ?_⟩
 ·exact (s4.c _ (aj _ (aj _ ai))).at
 ·exact (s4.c _ (aj _ ai)).at
 ·exact (s4.c _ ai).at
end
section
variable{so:Nat}{X:Nat→Prop}
theorem z0:cz [.tup [.str "f",.int 1],.tup [.str "f",.int 2],.tup [.str "g",.int 1]]=cz [.tup [.str "g",.int 1],.tup [.str "f",.int 1],.tup [.str "f",.int 2]]:=by kernel_rfl
theorem b8(h:i<7):fQ (oI i):=.inl ⟨i,h,rfl⟩
theorem C8:∀x∈lu,x.mok:=fun x hx=>by
 simp only [lu,List.mem_cons,an,or_false] at hx;rcases hx with rfl | rfl | rfl | rfl
 ·exact jW 2 (by decide)
 ·exact jW 3 (by decide)
 ·exact ⟨b8 (i:=2) (by decide),b8 (i:=3) (by decide)⟩
 ·exact ⟨jW 4 (by decide),jW 5 (by decide),b8 (i:=2) (by decide),b8 (i:=3) (by decide)⟩
theorem Fu:∀x∈lu,∃st,x.ok st:=fun x hx=>by
 simp only [lu,List.mem_cons,an,or_false] at hx;rcases hx with rfl | rfl | rfl | rfl
 ·exact ⟨[.tup [.str "f",.int 1]],(jW 2 (by decide)).regs,by simp⟩
 ·exact ⟨[.tup [.str "f",.int 2]],(jW 3 (by decide)).regs,by simp⟩
 ·exact ⟨[],(b8 (i:=2) (by decide)).opd,(b8 (i:=3) (by decide)).opd⟩
 ·exact ⟨[],(jW 4 (by decide)).regs,(jW 5 (by decide)).regs,by simp [bw],(b8 (i:=2) (by decide)).opd,(b8 (i:=3) (by decide)).opd⟩
structure Aq(ls1 ls2:List Ln):Prop where
 m1:∀x∈ls1,x.mok∧∃st,x.ok st
 m2:∀x∈ls2,x.mok∧∃st,x.ok st
 n1:ls1.flatMap Ln.news=[]∨ls1.flatMap Ln.news=[.tup [.str "g",.int 1]]
 n2:ls2.flatMap Ln.news=[]
 l1:ls1.length≤10
 l2:ls2.length≤10
theorem v6{cA:V→Nat}{ls1 ls2:List Ln}(h:Aq ls1 ls2):Ao (fH cA ls1 ls2):=by
 have nf:(fH cA ls1 ls2).news (.str "f")=[.tup [.str "f",.int 1],.tup [.str "f",.int 2]]:=by
  show (lu++ls2).flatMap Ln.news=_;rw [List.flatMap_append,h.n2];rfl
 have ng:(fH cA ls1 ls2).news (.str "g")=ls1.flatMap Ln.news:=rfl;have nh:(fH cA ls1 ls2).news (.str "h")=[]:=rfl;have cases3:∀{p:V→Prop},p (.str "f")→p (.str "g")→p (.str "h")→∀k∈bw,p k:=fun {p} a b c k hk=>by
  simp only [bw,List.mem_cons,an,or_false] at hk;rcases hk with rfl | rfl | rfl<;>assumption
 have ok:(fH cA ls1 ls2).Ok:=by
  refine ⟨?_,?_,?_,?_,?_,?_,?_⟩
  ·skip;exact (List.reverse_perm [V.str "f",.str "g",.str "h"])
  ·refine cases3 (by rw [nf];decide) ?_ (by rw [nh];decide);rw [ng];rcases h.n1 with e | e<;>rw [e]<;>decide
  ·refine cases3 ?_ ?_ ?_
   ·rw [nf];intro s hs;simp only [List.mem_cons,an,or_false] at hs;rcases hs with rfl | rfl<;>exact ⟨rfl,ae⟩
   ·rw [ng];intro s hs;rcases h.n1 with e | e<;>rw [e] at hs
    ·cases hs
    ·rw [aq.mp hs];exact ⟨rfl,ae⟩
   ·rw [nh];intro s hs;cases hs
  ·refine cases3 ?_ ?_ ?_
   ·intro x hx;have hx':x∈lu++ls2:=hx;have:∃st,x.ok st:=(bA.mp hx').elim (Fu x) fun q=>(h.m2 x q).2;obtain ⟨st,q⟩:=this;exact Ln.ok_of q fun s hs=>List.mem_flatMap.mpr ⟨x,hx,hs⟩
   ·intro x hx;obtain ⟨st,q⟩:=(h.m1 x hx).2;exact Ln.ok_of q fun s hs=>List.mem_flatMap.mpr ⟨x,hx,hs⟩
   ·intro x hx;cases hx
  ·exact cases3 (b8 (i:=5) (by decide)).opd (fQ.opd (.inr (.inl rfl))) (b8 (i:=0) (by decide)).opd
  ·exact cases3 (b8 (i:=0) (by decide)).opd (fQ.opd (.inr (.inl rfl))) (b8 (i:=1) (by decide)).opd
  ·intro k hk k' hk' hne s h1 h2;have key:∀k∈bw,∀s∈(fH cA ls1 ls2).news k,∃j,s=.tup [k,j]:=by
    refine cases3 ?_ ?_ ?_
    ·rw [nf];intro s hs;simp only [List.mem_cons,an,or_false] at hs;rcases hs with rfl | rfl<;>exact ⟨_,rfl⟩
    ·rw [ng];intro s hs;rcases h.n1 with e | e<;>rw [e] at hs
     ·cases hs
     ·rw [aq.mp hs];exact ⟨_,rfl⟩
    ·rw [nh];intro s hs;cases hs
   obtain ⟨j,e⟩:=key k hk s h1;obtain ⟨j',e'⟩:=key k' hk' s h2;rw [e] at e';simp only [V.tup.injEq,List.cons.injEq,and_true] at e';exact hne e'.1
 have e1:bQ [] ((fH cA ls1 ls2).full (cz (fH cA ls1 ls2).ks))=[.tup [.str "f",.int 1],.tup [.str "f",.int 2]]++ls1.flatMap Ln.news:=by
  have es:cz (fH cA ls1 ls2).ks=[.str "f",.str "g",.str "h"]:=Cm;rw [es];have a1:bQ [] [V.tup [.str "f",.int 1],.tup [.str "f",.int 2]]=[.tup [.str "f",.int 1],.tup [.str "f",.int 2]]:=by
   have:=gZ (l:=[]) (ns:=[V.tup [.str "f",.int 1],.tup [.str "f",.int 2]]) (by simp);exact this
  have a2:bQ [] (ls1.flatMap Ln.news)=ls1.flatMap Ln.news:=by
   have:=gZ (l:=[]) (ns:=ls1.flatMap Ln.news) (by rcases h.n1 with e | e<;>rw [e]<;>simp);rw [List.nil_append] at this;exact this
  have e2:(fH cA ls1 ls2).full [.str "f",.str "g",.str "h"]=[.tup [.str "f",.int 1],.tup [.str "f",.int 2]]++ls1.flatMap Ln.news:=by
   delta cU.full;simp only [List.flatMap_cons,List.flatMap_nil,bn];rw [nf,ng,nh,a1,a2];simp [bQ]
  rw [e2];have:=gZ (l:=[]) (ns:=[V.tup [.str "f",.int 1],.tup [.str "f",.int 2]]++ls1.flatMap Ln.news) (by rcases h.n1 with e | e<;>rw [e]<;>simp);rw [List.nil_append] at this;exact this
 have e2:(fH cA ls1 ls2).ks.flatMap (fH cA ls1 ls2).news=ls1.flatMap Ln.news++[.tup [.str "f",.int 1],.tup [.str "f",.int 2]]:=by
  show List.flatMap (fH cA ls1 ls2).news [.str "h",.str "g",.str "f"]=_;simp only [List.flatMap_cons,List.flatMap_nil,bn];rw [nf,ng,nh];simp
 refine ⟨ok,?_,?_,?_,?_,?_,?_,?_⟩
 ·refine cases3 ?_ ?_ ?_
  ·intro x hx;have hx':x∈lu++ls2:=hx;exact (bA.mp hx').elim (C8 x) fun q=>(h.m2 x q).1
  ·exact fun x hx=>(h.m1 x hx).1
  ·intro x hx;cases hx
 ·exact cases3 (b8 (i:=5) (by decide)) (.inr (.inl rfl)) (b8 (i:=0) (by decide))
 ·exact cases3 (b8 (i:=0) (by decide)) (.inr (.inl rfl)) (b8 (i:=1) (by decide))
 ·have l1:=h.l1;have l2:=h.l2;refine cases3 ?_ ?_ ?_
  ·show (lu++ls2).length≤20;rw [aO];simp [lu];omega
  ·show ls1.length≤20;omega
  ·exact aS _
 ·rw [e1];rcases h.n1 with e | e<;>rw [e]<;>rfl
 ·rw [e2];rcases h.n1 with e | e<;>rw [e]<;>rfl
 ·rw [e1,e2];rcases h.n1 with e | e<;>rw [e]
  ·rfl
  ·exact z0
set_option tactic.hygienic true in
theorem zL{l:List Int}(hl:l.length≤63)(hQ:∀a b,Q (.obj σ.length) (σ++[.list [.int a,.int b]])):aY ba (n+1) ("","_law_pool") [.ints l,.int 0] σ Q:=by
 have fin:∀(loc:Loc) (c:Int),loc "cell"=some (.int c)→loc "k"=some (.int 0)→dW (aY ba n) (iu.body.drop 2) loc σ (qB Q):=fun loc c hc hk=>by
  refine aw hc ?_;(conv=>whnf)
  refine aw hc ?_;(conv=>whnf)
  refine ⟨⟨by decide,by decide⟩,?_⟩;(conv=>whnf)
  refine aw hk ?_;refine ⟨.inl (by decide),?_⟩;(conv=>whnf)
  refine aw hk ?_;refine ⟨.inl (by decide),?_⟩;(conv=>whnf)
  refine aw hk ?_;refine ⟨.inl (by decide),?_⟩;(conv=>whnf)
  refine ⟨.inr (by decide),?_⟩;(conv=>whnf)
  refine ⟨⟨by decide,by decide⟩,?_⟩;(conv=>whnf)
  refine ⟨.inr ?_,?_⟩
  ·split<;>decide
  (conv=>whnf)
  exact hQ _ _
 refine bs (d:=iu) rfl ae ae ?_;(conv=>whnf)
 refine kj (v:=.ints l) (j:=l.length) rfl (ay hl (by decide)) ?_
 (conv=>whnf)
 by_cases h:(0:Int)<l.length
 ·rw [bh h]
  (conv=>whnf)
  refine aw (show kc σ (.ints l) (.int 0)=some (.int (l[0]'(Int.ofNat_lt.mp h))) from ?_) ?_
  ·exact (if_pos (e:=none) (show (0:Int)≤0∧(0:Int)<2^60 from ⟨Int.le_refl 0,by decide⟩)).trans (congrArg (Option.map V.int) (aC (Int.ofNat_lt.mp h)))
  ·exact fin (setL (setL (jT iu.params [.ints l,.int 0]) "cell" (.int 0)) "cell" (.int (l[0]'(Int.ofNat_lt.mp h)))) _ rfl rfl
 ·rw [decide_eq_false h]
  (conv=>whnf)
  refine ⟨⟨by decide,by decide⟩,?_⟩;(conv=>whnf)
  refine ⟨.inl (by decide),?_⟩;(conv=>whnf)
  refine ⟨.inl (by decide),?_⟩;(conv=>whnf)
  refine ⟨.inl (by decide),?_⟩;(conv=>whnf)
  refine ⟨.inr (by decide),?_⟩;(conv=>whnf)
  refine ⟨⟨by decide,by decide⟩,?_⟩;(conv=>whnf)
  refine ⟨.inr ?_,?_⟩
  ·decide
  (conv=>whnf)
  exact hQ _ _
end
section
variable{so:Nat}{X:Nat→Prop}
noncomputable def GD(σ:Hp)(r:V):Prop:=∃p q ls1 ls2,r=.tup [.obj p,.obj q]∧σ[p]?=some (.list (List.map Ln.vl ls1))∧σ[q]?=some (.list (List.map Ln.vl ls2))∧Aq ls1 ls2
theorem Gb(h:σ.length≤σ'.length)(k:∀n,n<σ.length→σ'[n]?=σ[n]?):σ <+:σ' :=
 ⟨σ'.drop σ.length,List.ext_getElem? fun n=>by
  refine Or.elim (cD n σ.length) (fun q=>?_) (fun q=>?_)
  ·rw [au q,k n q]
  ·rw [aL q,List.getElem?_drop,Nat.add_sub_cancel' q]⟩
theorem BD{rl:Nat}{K:List V→Hp→Prop}(hrl:rl<σ₀.length)(hK:∀σ',K [] σ'){rows:List V}:∀{σ:Hp},(∀r∈rows,GD σ₀ r)→σ₀ <+:σ→
  dL (bV [rl] σ₀) (.name "row") loc (eW (iK (aY ba (n+14)) gE) (ev (aY ba (n+14)) gD)) 0 rows [] σ K:=by
 have st:∀{σ:Hp},σ₀ <+:σ→bV [rl] σ₀ σ:=fun p m q=>by rw [aq.mp q];refine xe p fun τ w=>?_;subst w;exact au hrl
 induction rows with
 | nil=>intro σ _ p;exact ⟨st p,hK _⟩
 | cons r rows ih =>
  intro σ hr p0;refine ⟨st p0,?_⟩;refine m9 (hr r ai) fun p q ls1 ls2 x h1 h2 pl=>?_;subst x;refine wS (n:=n+12) (bU p0 h1) (bU p0 h2) (am pl.l2 (by decide)) fun cd σ1 cA pre cs=>?_;refine jw (N:=n) (v6 pl) cs ai fun σ2 le2 fr2=>?_;exact ⟨ae,ih (fun r q=>hr r (aj _ q)) ((p0.trans pre).trans (Gb le2 fr2))⟩
noncomputable def CY(r:Nat)(σ:Hp)(v:V):Prop:=∃p q ls1 ls2,v=.tup [.obj p,.obj q]∧(p≠r∧q≠r)∧σ[p]?=some (.list (List.map Ln.vl ls1))∧σ[q]?=some (.list (List.map Ln.vl ls2))∧Aq ls1 ls2
structure Rows(σ:Hp)(r:Nat)(R:List V):Prop where
 at':σ[r]?=some (.list R)
 ok:∀v∈R,CY r σ v
theorem Rows.push{r:Nat}{R:List V}(x:Rows σ r R)(p:σ <+:σ')(h:CY r σ' v):Rows (σ'.set r (.list (R++[v]))) r (R++[v]):=by
 refine ⟨bq (bU p x.at'),fun w hw=>?_⟩;have k:∀{v} {o:Ob},CY r σ' v→CY r (σ'.set r o) v:=fun y=>dk y fun p q ls1 ls2 e n h1 h2 l=>⟨p,q,ls1,ls2,e,n,(aM (aU n.1)).trans h1,(aM (aU n.2)).trans h2,l⟩
 refine k ((bA.mp hw).elim (fun q=>?_) fun q=>aq.mp q▸h);refine dk (x.ok w q) fun a b ls1 ls2 e n h1 h2 l=>?_;exact ⟨a,b,ls1,ls2,e,n,bU p h1,bU p h2,l⟩
theorem AR{a b:Nat}{x:List V}(h1:σ[a]?=some (.list x))(h2:σ[b]?=some (.list x))(d1:V.dats x=true)(d2:V.deps x≤6):ml .eq σ (.obj a) (.obj b)=some true:=by
 have:FE σ (.obj a) (.obj b)=some (V.deq (.tup x) (.tup x)):=FC h1 h2 d1 d2 d1;exact this.trans (by rw [V.deq_self])
noncomputable def Bp:List Ln:=[.load (.int 5) (oI 2)]
noncomputable def nI:List Ln:=[.load (.int 4) (oI 2),.load (.int 5) (oI 4)]
noncomputable def ET:List Ln:=[.load (.int 5) (oI 3)]
noncomputable def FM:List Ln:=[.store (oI 0) (oI 0)]
noncomputable def FN:List Ln:=[.load (.int 2) (oI 0),.store (oI 2) (oI 0)]
noncomputable def wm:List Ln:=[.store (oI 0) (oI 1),.load (.int 2) (oI 0),.store (oI 2) (oI 0)]
noncomputable def ES:List Ln:=[.new (.int 2) (.tup [.str "g",.int 1]),.store (oI 2) (oI 1),.store (oI 0) (oI 2)]
theorem mE{d:Nat}(hd:d<7)(hi:i<7):(Ln.load (.int d) (oI i)).mok∧∃st,(Ln.load (.int d) (oI i)).ok st:=⟨⟨jW d hd,b8 hi⟩,[],(jW d hd).regs,(b8 hi).opd⟩
theorem kl{d:Nat}(hd:d<7)(hi:i<7):(Ln.store (oI d) (oI i)).mok∧∃st,(Ln.store (oI d) (oI i)).ok st:=⟨⟨b8 hd,b8 hi⟩,[],(b8 hd).opd,(b8 hi).opd⟩
theorem FV{d:Nat}{s:V}(hd:d<7):(Ln.new (.int d) s).mok∧∃st,(Ln.new (.int d) s).ok st:=⟨jW d hd,[s],(jW d hd).regs,by simp⟩
theorem all_nil{p:Ln→Prop}:∀x∈([]:List Ln),p x:=fun z_ h=>absurd h an
theorem all_cons{p:Ln→Prop}{a:Ln}{l:List Ln}(h:p a)(t:∀x∈l,p x):∀x∈a::l,p x:=fun x hx=>(aP.mp hx).elim (fun e=>e▸h) (t x)
theorem F4:∀x∈Bp,x.mok∧∃st,x.ok st:=all_cons (mE (d:=5) (i:=2) (by decide) (by decide)) all_nil
theorem xW:∀x∈nI,x.mok∧∃st,x.ok st:=all_cons (mE (d:=4) (i:=2) (by decide) (by decide)) (all_cons (mE (d:=5) (i:=4) (by decide) (by decide)) all_nil)
theorem F5:∀x∈ET,x.mok∧∃st,x.ok st:=all_cons (mE (d:=5) (i:=3) (by decide) (by decide)) all_nil
theorem Hj:∀x∈FM,x.mok∧∃st,x.ok st:=all_cons (kl (d:=0) (i:=0) (by decide) (by decide)) all_nil
theorem EY:∀x∈FN,x.mok∧∃st,x.ok st:=all_cons (mE (d:=2) (i:=0) (by decide) (by decide)) (all_cons (kl (d:=2) (i:=0) (by decide) (by decide)) all_nil)
theorem DV:∀x∈wm,x.mok∧∃st,x.ok st:=all_cons (kl (d:=0) (i:=1) (by decide) (by decide)) EY
theorem F3:∀x∈ES,x.mok∧∃st,x.ok st:=all_cons (FV (d:=2) (by decide)) (all_cons (kl (d:=2) (i:=1) (by decide) (by decide)) (all_cons (kl (d:=0) (i:=2) (by decide) (by decide)) all_nil))
theorem BE(hQ:∀σ',Q (.bool true) σ'):aY ba (n+15) ("","_law_met_right") [] σ Q:=by
 have ge:∀{r:Nat} {τ:Hp} {R:List V} {m:Nat},Rows τ r R→τ.length≤m→m≠r:=fun x h=>bN (al (a0 x.at') h);have lt:∀m,m<100→m<big:=fun m h=>bf h (by decide);have fin2:∀(loc:Loc) (τ:Hp) (a2 r:Nat) (R:List V),τ[a2]?=some (.list (nI.map Ln.vl))→Rows τ r R→R.length=3→
   loc "one"=some (oI 0)→loc "other"=some (oI 1)→loc "twice"=some (.obj a2)→loc "rows"=some (.obj r)→a2<r→dW (aY ba (n+14)) (ey.body.drop 4) loc τ (qB Q):=fun loc τ a2 r R h2 hR hl e1 e2 e3 e4 l2=>by
  refine aw e4 ?_;refine ⟨xV hR.at' rfl,?_⟩;refine aw e2 ?_;refine aw e1 ?_;refine aw e3 ?_;refine fh (aT hR.at') (lt _ (by rw [hl];decide)) ?_;have hR4:=hR.push aD ⟨τ.length,a2,ES,nI,rfl,⟨ge hR (ax _),aN l2⟩,aI,aT h2,F3,xW,.inr rfl,rfl,ae,ae⟩;refine aw e4 ?_;refine aw (ch hR4.at') ?_;refine BD (n:=n) (a0 hR4.at') (fun σ'=>?_) (fun v hv=>let ⟨p,q,x,y,e,_,h⟩:=hR4.ok v hv;⟨p,q,x,y,e,h⟩) (aB _);refine aw (AR (x:=[]) (aT aI) aI rfl (aS _)) ?_;exact hQ _
 have fin:∀(loc:Loc) (τ:Hp) (a2 r:Nat) (R:List V),τ[a2]?=some (.list (nI.map Ln.vl))→Rows τ r R→R.length=2→
   loc "one"=some (oI 0)→loc "other"=some (oI 1)→loc "twice"=some (.obj a2)→loc "rows"=some (.obj r)→a2<r→dW (aY ba (n+14)) (ey.body.drop 3) loc τ (qB Q):=fun loc τ a2 r R h2 hR hl e1 e2 e3 e4 l2=>by
  refine aw e4 ?_;refine ⟨xV hR.at' rfl,?_⟩;refine aw e1 ?_;refine aw e2 ?_;refine aw e1 ?_;refine aw e1 ?_;refine fh (aT (aT hR.at')) (lt _ (by rw [hl];decide)) ?_;have hR3:=hR.push (aD.trans aD) ⟨τ.length,(τ++[Ob.list (wm.map Ln.vl)]).length,wm,ET,rfl,⟨ge hR (ax _),ge hR (bM aD)⟩,aT aI,aI,DV,F5,.inl rfl,rfl,ae,ae⟩;exact fin2 loc _ a2 r _ ((aM (aU (aN l2))).trans (aT (aT h2))) hR3 (by rw [aO,hl];rfl) e1 e2 e3 e4 l2
 refine bs (d:=ey) rfl ae ae ?_
 let τ1:Hp:=σ++[Ob.list (Bp.map Ln.vl)]
 let τ2:Hp:=τ1++[Ob.list (nI.map Ln.vl)]
 let τ3:Hp:=τ2++[Ob.list (FM.map Ln.vl)]
 let τ4:Hp:=τ3++[Ob.list (FN.map Ln.vl)]
 have p1:τ2 <+:τ4:=aD.trans aD;have l0:σ.length<τ1.length:=a0 aI;have l1:τ1.length<τ2.length:=a0 aI;have l2:τ2.length<τ3.length:=a0 aI;have l3:τ3.length<τ4.length:=a0 aI;refine fin (setL (setL (setL (setL (setL (jT [] []) "one" (oI 0)) "other" (oI 1)) "load" (.obj σ.length)) "twice" (.obj τ1.length)) "rows" (.obj τ4.length)) (τ4++[Ob.list [.tup [.obj τ2.length,.obj σ.length],.tup [.obj τ3.length,.obj τ1.length]]]) τ1.length τ4.length _ (aT (bU p1 aI)) ⟨aI,qz ?_ ?_⟩ rfl rfl rfl rfl rfl (bf l1 (bf l2 l3))
 ·exact ⟨_,_,FM,Bp,rfl,⟨aN (bf l2 l3),aN (bf l0 (bf l1 (bf l2 l3)))⟩,aT (aT aI),aT (bU p1 (aT aI)),Hj,F4,.inl rfl,rfl,ae,ae⟩
 ·exact ⟨_,_,FN,nI,rfl,⟨aN l3,aN (bf l1 (bf l2 l3))⟩,aT aI,aT (bU p1 aI),EY,xW,.inl rfl,rfl,ae,ae⟩
end
section
variable{so:Nat}{X:Nat→Prop}
noncomputable def gL:List Ln:=[.new (.int 2) (.int 6),.new (.int 3) (.int 7),.store (oI 2) (oI 3),.load (.int 4) (oI 2)]
noncomputable def hL:List Ln:=[.new (.int 2) (.int 8),.store (oI 0) (oI 2)]
noncomputable def eZ(cA:V→Nat):cU :=
 ⟨[.str "f",.str "g",.str "h"],cA,fun k=>match k with | .str "f"=>[.new (.int 2) (.int 5)] | .str "g"=>gL | .str "h"=>hL | _=>[],fun k=>match k with | .str "f"=>oI 2 | _=>oI 0,fun k=>match k with | .str "f"=>oI 0 | _=>oI 1⟩
noncomputable def Cg:Facts:=fun tb v=>match tb with
 | .held r=>(r=.int 0∧v=tO (.int 0))∨(r=.int 1∧v=tO (.int 1))∨(r=.int 2∧v=tS (.int 6))∨(r=.int 3∧v=tS (.int 7))∨(r=.int 4∧v=tS (.int 7))
 | .inside s=>s=.int 6∧v=tS (.int 7)
 | .sites=>True
 | .told _=>True
 | _=>False
theorem tn{i:Int}{t:V}(h:cX Cg (oI i) t):Cg (.held (.int i)) t:=by
 refine Or.elim h (fun q=>bG q fun r e h=>?_) (fun w=>xa w fun e z_=>?_)
 ·cases e;exact h
 ·exact absurd e (by simp)
theorem yk{t:V}(h:cX Cg (oI 2) t):t=tS (.int 6):=by
 have:=tn h
 simpa [Cg] using this
theorem Ep{t:V}(h:cX Cg (oI 3) t):t=tS (.int 7):=by
 have:=tn h
 simpa [Cg] using this
theorem En{t:V}(h:cX Cg (oI 0) t):t=tO (.int 0):=by
 have:=tn h
 simpa [Cg] using this
theorem Eo{t:V}(h:cX Cg (oI 1) t):t=tO (.int 1):=by
 have:=tn h
 simpa [Cg] using this
noncomputable def smallC(k:V):Facts:=if k=.str "g" then Cg else fun z_ z_=>True
theorem uE{op:V}{o:V}(h:∀t,cX Cg op t→t=tO o){i:V}(l:pL i op Cg tb v):Cg tb v:=by
 rcases l with ⟨rfl,_⟩ | ⟨u,⟨t,⟨h1,s,rfl⟩,_⟩,_⟩
 ·trivial
 ·exact absurd (h _ h1) (by simp)
theorem mS{cA:V→Nat}:cv (eZ cA) smallC:=by
 intro k hk;simp only [bw,List.mem_cons,an,or_false] at hk;rcases hk with rfl | rfl | rfl
 ·have e:smallC (.str "f")=fun z_ z_=>True:=by simp [smallC]
  rw [e];exact ⟨fun z_ z_ z_=>trivial,fun z_ z_ z_=>trivial⟩
 ·have e:smallC (.str "g")=Cg:=by simp [smallC]
  rw [e];refine ⟨fun tb v h=>?_,fun tb v h=>?_⟩
  ·rcases h with ⟨rfl,rfl⟩ | ⟨rfl,rfl⟩<;>simp [Cg]
  ·rcases h with ⟨x,hx,h⟩ | h
   ·have hx':x∈gL:=hx;simp only [gL,List.mem_cons,an,or_false] at hx';rcases hx' with rfl | rfl | rfl | rfl
    ·rcases h with h | ⟨rfl,rfl⟩
     ·cases h.1;trivial
     ·simp [Cg]
    ·rcases h with h | ⟨rfl,rfl⟩
     ·cases h.1;trivial
     ·simp [Cg]
    ·obtain ⟨g,hg,h⟩:=h;rw [yk hg] at h;rcases h with ⟨h,_⟩ | ⟨o,h,_⟩ | ⟨s,h,⟨rfl,h2⟩ | ⟨h2,_⟩⟩
     ·exact absurd h (by simp)
     ·exact absurd h (by simp)
     ·cases h;exact ⟨rfl,Ep h2⟩
     ·exact h2.elim
    ·obtain ⟨rfl,t,ht,h⟩:=h;rw [yk ht] at h;rcases h with ⟨s,e,h | ⟨h,_⟩⟩ | ⟨h,_⟩
     ·cases e;refine xa h fun z_ q=>?_;subst q;simp [Cg]
     ·exact h.elim
     ·exact absurd rfl (h _)
   ·refine Or.elim h (fun h=>?_) (fun h=>?_)
    ·exact uE (fun z_=>En) h
    ·exact uE (fun z_=>Eo) h
 ·have e:smallC (.str "h")=fun z_ z_=>True:=by simp [smallC]
  rw [e];exact ⟨fun z_ z_ z_=>trivial,fun z_ z_ z_=>trivial⟩
theorem Cl{cA:V→Nat}:(eZ cA).Ok:=by
 have cases3:∀{p:V→Prop},p (.str "f")→p (.str "g")→p (.str "h")→∀k∈bw,p k:=fun {p} a b c k hk=>by
  simp only [bw,List.mem_cons,an,or_false] at hk;rcases hk with rfl | rfl | rfl<;>assumption
 have nf:(eZ cA).news (.str "f")=[.int 5]:=rfl;have ng:(eZ cA).news (.str "g")=[.int 6,.int 7]:=rfl;have nh:(eZ cA).news (.str "h")=[.int 8]:=rfl;refine ⟨.refl _,?_,?_,?_,?_,?_,?_⟩
 ·exact cases3 (by rw [nf];decide) (by rw [ng];decide) (by rw [nh];decide)
 ·refine cases3 ?_ ?_ ?_<;>(intro s hs;simp only [nf,ng,nh,List.mem_cons,an,or_false] at hs;rcases hs with rfl | rfl<;>exact ⟨rfl,ae⟩)
 ·refine cases3 ?_ ?_ ?_
  ·rw [nf];exact all_cons (p:=fun x=>x.ok _) ⟨(jW 2 (by decide)).regs,by simp⟩ all_nil
  ·rw [ng];exact all_cons (p:=fun x=>x.ok _) ⟨(jW 2 (by decide)).regs,by simp⟩ (all_cons (p:=fun x=>x.ok _) ⟨(jW 3 (by decide)).regs,by simp⟩ (all_cons (p:=fun x=>x.ok _) ⟨(b8 (i:=2) (by decide)).opd,(b8 (i:=3) (by decide)).opd⟩ (all_cons (p:=fun x=>x.ok _) ⟨(jW 4 (by decide)).regs,(b8 (i:=2) (by decide)).opd⟩ all_nil)))
  ·rw [nh];exact all_cons (p:=fun x=>x.ok _) ⟨(jW 2 (by decide)).regs,by simp⟩ (all_cons (p:=fun x=>x.ok _) ⟨(b8 (i:=0) (by decide)).opd,(b8 (i:=2) (by decide)).opd⟩ all_nil)
 ·exact cases3 (b8 (i:=2) (by decide)).opd (b8 (i:=0) (by decide)).opd (b8 (i:=0) (by decide)).opd
 ·exact cases3 (b8 (i:=0) (by decide)).opd (b8 (i:=1) (by decide)).opd (b8 (i:=1) (by decide)).opd
 ·refine cases3 (cases3 ?_ ?_ ?_) (cases3 ?_ ?_ ?_) (cases3 ?_ ?_ ?_)<;>simp [nf,ng,nh]
theorem u9{cA:V→Nat}{F:V→Facts}(hc:cv (eZ cA) F)(hl:∀C,cv (eZ cA) C→∀k∈bw,∀tb v,F k tb v→C k tb v) :
  F (.str "f") .gone (.int 5)∧¬F (.str "g") .gone (.int 6)∧¬F (.str "g") .gone (.int 7)∧F (.str "h") .gone (.int 8):=by
 have kf:V.str "f"∈bw:=by simp [bw]
 have kg:V.str "g"∈bw:=by simp [bw]
 have kh:V.str "h"∈bw:=by simp [bw]
 have eg:smallC (.str "g")=Cg:=by simp [smallC]
 refine ⟨?_,fun h=>?_,fun h=>?_,?_⟩
 ·have h2:F (.str "f") (.held (.int 2)) (tS (.int 5)):=(hc _ kf).2 _ _ (.inl ⟨.new (.int 2) (.int 5),ai,.inr ⟨rfl,rfl⟩⟩);exact (hc _ kf).2 _ _ (.inr (.inl (.inr ⟨tS (.int 5),⟨_,⟨.inl ⟨_,rfl,h2⟩,_,rfl⟩,.refl⟩,.inl ⟨rfl,rfl⟩⟩)))
 ·have:=hl _ mS _ kg _ _ h;rw [eg] at this;exact this
 ·have:=hl _ mS _ kg _ _ h;rw [eg] at this;exact this
 ·have h2:F (.str "h") (.held (.int 2)) (tS (.int 8)):=(hc _ kh).2 _ _ (.inl ⟨.new (.int 2) (.int 8),ai,.inr ⟨rfl,rfl⟩⟩);have h0:F (.str "h") (.held (.int 0)) (tO (.int 0)):=(hc _ kh).1 _ _ (.inl ⟨rfl,rfl⟩);exact (hc _ kh).2 _ _ (.inl ⟨.store (oI 0) (oI 2),aj _ ai,tO (.int 0),.inl ⟨_,rfl,h0⟩,.inr (.inl ⟨_,rfl,tS (.int 8),⟨_,.inl ⟨_,rfl,h2⟩,.refl⟩,.inl ⟨⟨_,rfl⟩,tS (.int 8),⟨_,rfl,.refl⟩,.inl ⟨rfl,rfl⟩⟩⟩)⟩)
noncomputable def uY:List (V×V):=[(.int 5,.str "heap"),(.int 6,.str "frame"),(.int 7,.str "frame"),(.int 8,.str "heap")]
theorem kI{l:List (V×V)}{r:List V}(h:l.map (·.1)=a::r):∃x t,l=(a,x)::t∧t.map (·.1)=r:=by
 cases l with
 | nil=>cases h
 | cons p t=>exact ⟨p.2,t,congrArg (·::t) (Prod.ext (List.cons.inj h).1 rfl),(List.cons.inj h).2⟩
theorem Ge(e:fl.map (·.1)=[.int 5,.int 6,.int 7,.int 8])(m5:getD fl (.int 5)=some (.str "heap"))(m6:getD fl (.int 6)=some (.str "frame"))(m7:getD fl (.int 7)=some (.str "frame"))(m8:getD fl (.int 8)=some (.str "heap")):fl=uY:=by
 refine cY (kI e) fun x5 f1 q e1=>?_;subst q;refine cY (kI e1) fun x6 f2 w e2=>?_;subst w;refine cY (kI e2) fun x7 f3 x e3=>?_;subst x;refine cY (kI e3) fun x8 f4 y e4=>?_;subst y;cases List.map_eq_nil_iff.mp e4;cases m5;cases m6;cases m7;cases m8;rfl
theorem zZ{cA:V→Nat}{F:V→Facts}(hc:cv (eZ cA) F)(hl:∀C,cv (eZ cA) C→∀k∈bw,∀tb v,F k tb v→C k tb v)
  (hk:fl.map (·.1)=bQ [] ((eZ cA).full (cz (eZ cA).ks))) (hm:∀k∈bw,∀s∈(eZ cA).news k,getD fl s=some (mark (F k) s)):fl=uY:=by
 have kf:V.str "f"∈bw:=by simp [bw]
 have kg:V.str "g"∈bw:=by simp [bw]
 have kh:V.str "h"∈bw:=by simp [bw]
 refine nU (u9 hc hl) fun g5 g6 g7 g8=>?_;have m5:getD fl (.int 5)=some (.str "heap"):=by rw [hm _ kf (.int 5) ai,mark,if_pos g5]
 have m6:getD fl (.int 6)=some (.str "frame"):=by rw [hm _ kg (.int 6) ai,mark,if_neg g6]
 have m7:getD fl (.int 7)=some (.str "frame"):=by rw [hm _ kg (.int 7) (aj _ ai),mark,if_neg g7]
 have m8:getD fl (.int 8)=some (.str "heap"):=by rw [hm _ kh (.int 8) ai,mark,if_pos g8]
 have e:fl.map (·.1)=[.int 5,.int 6,.int 7,.int 8]:=by
  rw [hk];show bQ [] ((eZ cA).full (cz [.str "f",.str "g",.str "h"]))=_;rw [vc];simp [cU.full,cU.news,eZ,gL,hL,Ln.news,bQ,dE]
 exact Ge e m5 m6 m7 m8
theorem Ck{a b:Nat}{e e':Nat}(h1:σ[a]?=some (.dict uY e))(h2:σ[b]?=some (.dict uY e')):FE σ (.obj a) (.obj b)=some true:=by
 refine (eO h1).trans ((eO h2).trans ?_);have f:mt uY=true:=rfl;have s:qi uY uY=true:=by
  simp [qi,uY,pF,dP,V.deq_self]
 rw [f,s];rfl
theorem xb(hQ:∀σ',Q (.bool true) σ'):aY ba (n+11) ("","_law_small_right") [] σ Q:=by
 refine bs (d:=gY) rfl ae ae ?_;refine j7 (v:=(Ln.new (.int 2) (.int 5)).vl) (fun q=>q) ?_;refine tP (px (n:=n+9) (xs:=[(Ln.new (.int 2) (.int 5)).vl]) (en:=.tup [.str "return",.tup [oI 2,oI 0]]) (fun z_ q=>q) (fun q=>q)) ?_;have cx:iL (·=(σ++hM σ (.str "f") [(Ln.new (.int 2) (.int 5)).vl] (.tup [.str "return",.tup [oI 2,oI 0]])).length) (σ++hM σ (.str "f") [(Ln.new (.int 2) (.int 5)).vl] (.tup [.str "return",.tup [oI 2,oI 0]])) (σ.length+5) [.new (.int 2) (.int 5)] (oI 2) (oI 0):=jo (ls:=[.new (.int 2) (.int 5)]) fun n z_ h2=>by rw [dg];exact aN h2
 generalize σ++hM σ (.str "f") [(Ln.new (.int 2) (.int 5)).vl] (.tup [.str "return",.tup [oI 2,oI 0]])=σ1 at cx ⊢;have s1:=(CD.one (k:=.str "f") cx)
 have l1:σ1.length<(σ1++[Ob.dict [(V.str "f",V.obj (σ.length+5))] 1]).length:=a0 aI;generalize σ1++[Ob.dict [(V.str "f",V.obj (σ.length+5))] 1]=σ2 at s1 l1 ⊢;refine j7 (v:=.obj σ2.length) (σ₁:=σ2++[Ob.list (gL.map Ln.vl)]) (fun q=>q) ?_;refine qk (n:=n+9) (a:=oI 0) (b:=oI 1) rfl rfl (fun q=>q) (s1.ext aD) aI (aU (aN l1)) rfl ae fun σ4 c4 s4 p4=>?_;have l4:=a0 s4.d;refine j7 (v:=.obj σ4.length) (σ₁:=σ4++[Ob.list (hL.map Ln.vl)]) (fun q=>q) ?_;refine qk (n:=n+9) (a:=oI 0) (b:=oI 1) rfl rfl (fun q=>q) (s4.ext aD) aI (aU (aN l4)) rfl ae fun σ6 c6 s6 p6=>?_;have cs:fw σ6.length σ6 σ1.length (eZ fun k=>match k with | .str "f"=>σ.length+5 | .str "g"=>c4 | _=>c6) :=
  ⟨a0 s6.d,⟨3,s6.d⟩,vK (s6.c _ ai).at (s6.c _ (aj _ ai)).at (s6.c _ (aj _ (aj _ ai))).at⟩
 refine mq (n:=n) Cl cs fun fo σ7 fl fe F hz k1 hfo hfd hkeys hcl hlst hmk=>?_;have:=zZ hcl hlst hkeys hmk;subst this;have ki:∀i:Int,(V.int i).key=true∧(V.int i).dep≤6:=fun i=>⟨rfl,aS _⟩
 refine ⟨bW.mpr ⟨ki _,vK (ki _) (ki _) (ki _)⟩,ae,?_⟩;refine aw (show ml .eq _ _ _=_ from Ck (e':=4) (aT hfd) aI) ?_;exact hQ _
end
section
variable{so:Nat}{X:Nat→Prop}
theorem Bq{l:List Int}(hl:l.length≤63):aY ba 30 ("","law") [.ints l] σ fun v z_=>v=.bool true:=by
 refine bs (d:=EG) rfl ae ae ?_;refine xb (n:=18) fun σ1=>?_;refine BE (n:=14) fun σ2=>?_;refine zL (n:=28) hl fun a b=>?_;refine vX (n:=23) ⟨a,b,aI⟩ fun fo σ3 P good cd src le sf=>?_;have lso:σ2.length<σ3.length:=let ⟨a,b,h⟩:=src;a0 h
 refine mL (n:=27) (src.ext aD) aI (aU (aN lso)) (List.cons_ne_nil _ _) (by decide) fun x σ4 hx sf4=>?_;have sfA:SF σ2.length σ3 σ4:=SF.trans (SF.pre src aD) sf4;refine jw (N:=15) good (cd σ4 sfA) hx fun σ5 le5 fr5=>?_;have sfB:SF σ2.length σ4 σ5:=⟨le5,fun n hn z_=>fr5 n hn,let ⟨a,b,h⟩:=sf4.src;⟨a,b,(fr5 _ (a0 h)).trans h⟩⟩
 exact jw (N:=15) good (cd σ5 (sfA.trans sfB)) ai fun σ6 z_ z_=>rfl
end
end Mine
namespace Mine
noncomputable def A1(d:Data):Option FuncData:=match d with
 | .func fd=>some fd
 | _=>none
theorem uh{d:Data}{fd:FuncData}(h:A1 d=some fd):d=.func fd:=by
 rcases d with _ | _<;>first | exact ca h | exact congrArg Data.func (aX h)
noncomputable def GS(K:Frag)(a:Addr):Option FuncData:=(K.lookup a).bind fun o=>A1 o.data
noncomputable def AG(b:FuncBody):Option (List Stmt):=match b with
 | .stmts body=>some body
 | _=>none
theorem tU{b:FuncBody}{l:List Stmt}(h:AG b=some l):b=.stmts l:=by
 rcases b with _ | _<;>first | exact ca h | exact congrArg FuncBody.stmts (aX h)
noncomputable def AZ(K:Frag)(P:gB)(a:Addr)(d:eS):Bool :=
 (GS K a).any fun fd=>(AG fd.body).any fun body=>fd.globals==mainGlobals&&fd.builtins==builtinsNs&&fd.closure.isEmpty&&decide (fd.scope.kind=.function)&&!fd.scope.isCoroutine&&!fd.scope.isGenerator&&codeIn K fd.code fd.qualname&&d.params.all (fun x=>iZ fd.scope.names (Str.ofString x))&&decide d.params.Nodup&&k8 P fd.scope.names d.body body
noncomputable def vN(K:Frag)(S:Setting)(a:Addr)(vals:List Value):Option (List (Str×Value)):=(GS K a).bind fun fd=>peek K S (bindArgs fd ⟨vals,[]⟩)
set_option tactic.hygienic true in
theorem Dp{W:Wd}{K:Frag}{P:gB}{a:Addr}{d:eS}{dv:List Value}(hK:W.K=K)(c:AZ K P a d=true)(hdv:∀p:Addr→Prop,aZ (W.at p) W.h₀ [] d.dflts dv)
  (hb:∀vals:List Value,vals.length≤d.params.length→d.params.length≤vals.length+dv.length→∀S,vN K S a vals=some (f8 d.params (vals++dv.drop (vals.length+dv.length-d.params.length)))):Fh W P a d:=by
 subst hK;refine bG ((Option.any_eq_true ..).1 c) fun fd hf c=>?_;refine bG ((Option.any_eq_true ..).1 c) fun body hbody c=>?_;refine bG (Option.bind_eq_some_iff.1 hf) fun o ho hfd=>?_;have c9:=aG c;have c8:=aG c9.1;have c7:=aG c8.1;have c6:=aG c7.1;have c5:=aG c6.1;have c4:=aG c5.1;have c3:=aG c4.1;have c2:=aG c3.1;have c1:=aG c2.1;refine ⟨o,fd,body,dv,ho,uh hfd,tU hbody,eq_of_beq c1.1,eq_of_beq c1.2,List.isEmpty_iff.1 c2.2,aF c3.2,lL c4.2,lL c5.2,c6.2,fun vals h1 h2 S=>?_,hdv,cB.1 c7.2,aF c8.2,c9.2⟩;have:=hb vals h1 h2 S;unfold vN at this;rw [hf] at this;exact this
noncomputable def E0(x:Value)(g:Int→Bool):Bool:=match x with | .int i _=>g i | _=>false
noncomputable def E2(x:Value)(g:Str→Bool):Bool:=match x with | .str i _=>g i | _=>false
noncomputable def E1(x:Value)(g:Addr→Bool):Bool:=match x with | .ref a=>g a | _=>false
noncomputable def EZ(x:Data)(g:Array Value→Bool):Bool:=match x with | .seq i _=>g i | _=>false
theorem zD{M:Value→Prop}{x:Value}{g:Int→Bool}(h:E0 x g=true)(k:∀i t,g i=true→M (.int i t)):M x:=by rcases x with _ | _<;>first | exact k _ _ h | exact absurd h ft
theorem zF{M:Value→Prop}{x:Value}{g:Str→Bool}(h:E2 x g=true)(k:∀i t,g i=true→M (.str i t)):M x:=by rcases x with _ | _<;>first | exact k _ _ h | exact absurd h ft
theorem zE{M:Value→Prop}{x:Value}{g:Addr→Bool}(h:E1 x g=true)(k:∀i,g i=true→M (.ref i)):M x:=by rcases x with _ | _<;>first | exact k _ h | exact absurd h ft
theorem zB{P:Prop}{x:Data}{g:Array Value→Bool}(h:EZ x g=true)(k:∀i t,x=.seq i t→g i=true→P):P:=by rcases x with _ | _<;>first | exact k _ _ rfl h | exact absurd h ft
mutual
noncomputable def wX(K:Frag):V→Value→Bool
 | .int i,x=>E0 x fun j=>i==j
 | .str s,x=>E2 x fun y=>y==Str.ofString s
 | .tup l,x=>E1 x fun a=>(K.lookup a).any fun o=>EZ o.data fun items=>decide (o.cls=.type "tuple")&&o.dict.isNone&&o.slots.isEmpty&&sX K l items.toList
 | .none,_ | .bool _,_ | .obj _,_ | .ints _,_=>false
noncomputable def sX(K:Frag):List V→List Value→Bool
 | [],x=>dD false x true
 | v::l,x=>c0 false x fun x xs=>wX K v x&&sX K l xs
end
section
variable{W:Wd}{K:Frag}(hK:K.In W.h₀)(hp:∀a,¬W.priv a)
include hK hp
set_option tactic.hygienic true in
mutual
theorem qg:∀{v:V} {x:Value},wX K v x=true→aK W W.h₀ [] v x
 | .int i,_,h=>zD (M:=fun x=>aK W W.h₀ [] (.int i) x) h fun z_ z_ h=>eq_of_beq h▸.int _ _
 | .str s,_,h=>zF (M:=fun x=>aK W W.h₀ [] (.str s) x) h fun z_ z_ h=>.str _ (eq_of_beq h)
 | .tup l,_,h=>zE (M:=fun x=>aK W W.h₀ [] (.tup l) x) h fun a h=>by
  refine bG ((Option.any_eq_true ..).1 h) fun o ho h=>?_;refine zB h fun items ep hd h=>?_;have h4:=aG h;have h3:=aG h4.1;have h2:=aG h3.1;exact .tup (hK _ _ ho) (aF h2.1) hd ⟨Option.isNone_iff_eq_none.1 h2.2,Array.isEmpty_iff.1 h3.2,hp a⟩ (oo h4.2)
 | .none,_,h | .bool _,_,h | .obj _,_,h | .ints _,_,h=>absurd h ft
theorem oo:∀{l:List V} {xs:List Value},sX K l xs=true→aZ W W.h₀ [] l xs
 | [],_,h=>bE (M:=fun x=>aZ W W.h₀ [] [] x) h ft fun z_=>.nil
 | v::l,_,h=>bI (M:=fun x=>aZ W W.h₀ [] (v::l) x) h ft fun x xs h=>have h:=aG h;.cons (qg h.1) (oo h.2)
end
end
theorem jB{β:Type}{x:String}{v:β}:∀{l:List (String×β)},l.lookup x=some v→(x,v)∈l
 | (y,w)::r,h=>by
  rw [List.lookup_cons] at h;by_cases e:(x==y)=true
  ·rw [e] at h;cases h;rw [eq_of_beq e];exact ai
  ·rw [Bool.eq_false_iff.2 e] at h;exact aj _ (jB h)
noncomputable def pd:List String:=AE.map (·.1)
theorem C9{x:String}{v:Value}(h:nu x=some v):x∈pd:=List.mem_map.2 ⟨_,jB h,rfl⟩
noncomputable def BT(K:Frag)(P:gB)(fa:String×String→Option Addr)(cls:String→Option Addr):Bool :=
 (P.gl.all fun p=>(nsIn K mainGlobals (Str.ofString p.1)).any fun o=>o.any fun u=>wX K p.2 u) &&
 (P.fns.all fun f=>(fa ("",f)).any fun a=>decide (nsIn K mainGlobals (Str.ofString f)=some (some (.ref a)))&&keepIn K (.ref a)) &&
 (P.has.all fun p=>(cls p.1).any fun C=>(fa p).any fun a=>decide (findIn K (.ref C) (Str.ofString p.2)=some (some (.ref a)))&&isFn K (.ref a)&&keepIn K (.ref a)&&plainGet K C (Str.ofString p.2)) &&
 (P.clss.all fun c=>(cls c).any fun C=>(fa (c,"__init__")).any fun a=>decide (nsIn K mainGlobals (Str.ofString c)=some (some (.ref C)))&&makesIn K C&&keepIn K (.ref C)&&decide (findIn K (.ref C) "__init__"=some (some (.ref a)))&&decide (typeIn K (.ref a)=some (.type "function"))) &&
 (pd.all fun x=>decide (nsIn K mainGlobals (Str.ofString x)=some none))
noncomputable def r6(K:Frag)(C:Addr)(attrs:List String):Bool :=
 (attrs.all fun a=>plainGet K C (Str.ofString a)&&decide (findIn K (.ref C) (Str.ofString a)=some none))&&hasDictIn K C&&decide (findIn K (.ref C) "__setattr__"=some (some (.builtin "object.__setattr__")))&&plainOver K C
theorem pi{K:Frag}{C:Addr}{attrs:List String}(h:r6 K C attrs=true):tH K C attrs:=by
 have h3:=aG h;have h2:=aG h3.1;have h1:=aG h2.1;exact ⟨fun a ha=>have q:=aG (cB.1 h1.1 a ha);⟨q.1,aF q.2⟩,h1.2,aF h2.2,h3.2⟩
noncomputable def AD:Bool:=pd.all fun x=>decide (bootBuiltins (Str.ofString x)=nu x)&&decide (Str.ofString x≠"__name__")
set_option tactic.hygienic true in
theorem BU{W:Wd}{K:Frag}{P:gB}{fa:String×String→Option Addr}{mg mb:Str→Option Value}(hK:W.K=K)(hp:∀a,¬W.priv a)(wok:Fp W P.attrs)(g:W.h₀.Ns mainGlobals mg)(b:W.h₀.Ns builtinsNs mb)(hb:∀x:Str,x≠"__name__"→mb x=bootBuiltins x)
  (h1:BT K P fa W.cls=true) (h2:AD=true):kW W P fa mg mb:=by
 subst hK;have KX:=wok.frag;have a5:=aG h1;have a4:=aG a5.1;have a3:=aG a4.1;have a1:=aG a3.1;refine ⟨wok,g,b,fun x v hx=>?_,fun x v hx=>?_,fun f hf=>?_,fun c m hm=>?_,fun c hc=>?_⟩
 ·have hm:=C9 hx;have q:=aG (List.all_eq_true.mp h2 x hm);exact ⟨mg_none_of KX g (aF (cB.1 a5.2 x hm)),(hb _ (aF q.2)).trans ((aF q.1).trans hx)⟩
 ·have ⟨o,ho,q⟩:=(Option.any_eq_true ..).1 (cB.1 a1.1 _ (jB hx));refine bG ((Option.any_eq_true ..).1 q) fun u hu q=>?_;exact ⟨u,mg_of KX g (ho.trans (congrArg some hu)),qg KX hp q⟩
 ·have ⟨a,ha,q⟩:=(Option.any_eq_true ..).1 (cB.1 a1.2 f hf);have q:=aG q;exact ⟨a,mg_of KX g (aF q.1),q.2,ha⟩
 ·have ⟨C,hC,q⟩:=(Option.any_eq_true ..).1 (cB.1 a3.2 _ hm);refine bG ((Option.any_eq_true ..).1 q) fun a ha q=>?_;have q3:=aG q;have q2:=aG q3.1;have q1:=aG q2.1;exact ⟨C,a,hC,ha,aF q1.1,q1.2,q2.2,q3.2⟩
 ·have ⟨C,hC,q⟩:=(Option.any_eq_true ..).1 (cB.1 a4.2 c hc);refine bG ((Option.any_eq_true ..).1 q) fun a ha q=>?_;have q4:=aG q;have q3:=aG q4.1;have q2:=aG q3.1;have q1:=aG q2.1;exact ⟨C,a,hC,mg_of KX g (aF q1.1),q1.2,q2.2,ha,aF q3.2,aF q4.2⟩
noncomputable def As(c:String):Option Addr:=[("Summary",47),("EscapeFlow",195),("Code",246)].lookup c
theorem GE:AD=true:=by kernel_rfl
noncomputable def Ij(d:eS):Bool:=(V.deqs d.dflts [] ||V.deqs d.dflts [.int 0,.int 0,.none])&&Nat.ble d.params.length 8
noncomputable def yJ(d:eS):List Value:=match d.dflts with | []=>[] | _=>[.int 0 504,.int 0 505,.none]
theorem FA{d:eS}(h:Ij d=true):(yJ d).length=d.dflts.length∧∀{W:Wd} (p:Addr→Prop),aZ (W.at p) W.h₀ [] d.dflts (yJ d):=by
 delta yJ;refine Or.elim (cf.1 (aG h).1) (fun h=>?_) (fun h=>?_)
 ·rw [V.deqs_eq _ _ h];exact ⟨rfl,fun p=>.nil⟩
 ·rw [V.deqs_eq _ _ h];exact ⟨rfl,fun p=>.cons (.int _ _) (.cons (.int _ _) (.cons .none .nil))⟩
noncomputable def Fy(d:eS):List Nat:=(List.range (d.dflts.length+1)).map fun i=>d.params.length-d.dflts.length+i
noncomputable abbrev Bd:=Setting→Value→Value→Value→Value→Value→Value→Value→Value→List (List (Option (List (Str×Value))))
noncomputable abbrev Dd(xs:List Value)(d:eS):List (Option (List (Str×Value))):=(Fy d).map fun j=>some (f8 d.params (xs.take j++(yJ d).drop (j+(yJ d).length-d.params.length)))
noncomputable def HL(xs:List Value):List ((String×String)×Nat×eS)→List (List (Option (List (Str×Value))))
 | []=>[]
 | r::t=>Dd xs r.2.2::HL xs t
theorem De{xs:List Value}{l:List ((String×String)×Nat×eS)}:HL xs l=l.map fun r=>Dd xs r.2.2:=by
 induction l with
 | nil=>rfl
 | cons r t ih=>exact congrArg (Dd xs r.2.2::·) ih
noncomputable def C1(K:Frag):Bd:=fun S x0 x1 x2 x3 x4 x5 x6 x7=>jk.map fun r=>(Fy r.2.2).map fun j=>vN K S r.2.1 ([x0,x1,x2,x3,x4,x5,x6,x7].take j)
noncomputable def Fq:Bd:=fun S x0 x1 x2 x3 x4 x5 x6 x7=>HL [x0,x1,x2,x3,x4,x5,x6,x7] jk
noncomputable def Ar(K:Frag):Bool:=(jk.all fun r=>AZ K jS r.2.1 r.2.2)&&BT K jS At As&&r6 K 47 jS.attrs&&r6 K 195 jS.attrs&&r6 K 246 jS.attrs&&(K.lookup 359).isSome
theorem AK{d:eS}{j:Nat}(h1:j≤d.params.length)(h2:d.params.length≤j+d.dflts.length):j∈Fy d :=
 bH.mpr ⟨j-(d.params.length-d.dflts.length),List.mem_range.mpr (Nat.lt_succ_of_le (Nat.sub_le_iff_le_add'.mpr (am h1 (Nat.sub_le_iff_le_add.mp (ax _))))),Nat.add_sub_cancel' (Nat.sub_le_of_le_add h2)⟩
theorem D4:(jk.all fun r=>Ij r.2.2)=true:=by kernel_rfl
noncomputable def E3:Nat→List Value→List Value
 | 0,_=>[]
 | n+1,l=>l.headD .none::E3 n l.tail
theorem vo:∀(n:Nat) (l:List Value),l.length≤n→(E3 n l).take l.length=l
 | 0,[],_=>rfl
 | n+1,[],_=>rfl
 | n+1,x::l,h=>congrArg (x::·) (vo n l (Nat.le_of_succ_le_succ h))
 | 0,_::_,h=>nomatch h
theorem Hm{l:List Value}(h:l.length≤8):∃x0 x1 x2 x3 x4 x5 x6 x7,[x0,x1,x2,x3,x4,x5,x6,x7].take l.length=l:=⟨_,_,_,_,_,_,_,_,vo 8 l h⟩
theorem GF{W:Wd}(hC:(jk.all fun r=>AZ W.K jS r.2.1 r.2.2)=true)(hB:C1 W.K=Fq):∀key d,ba key=some d→∃a,At key=some a∧Fh W jS a d:=fun key d h=>by
 refine bG (yQ h) fun a ha hr=>?_;refine ⟨a,ha,?_⟩;have ok:=List.all_eq_true.mp D4 _ hr;have p8:d.params.length≤8:=Nat.le_of_ble_eq_true (Bool.and_eq_true_iff.mp ok).2;have dv:=FA ok;refine Dp (dv:=yJ d) rfl (List.all_eq_true.mp hC _ hr) dv.2 fun vals h1 h2 S=>?_;refine Am (Hm (am h1 p8)) fun x0 x1 x2 x3 x4 x5 x6 x7 e=>?_;have q:C1 W.K S x0 x1 x2 x3 x4 x5 x6 x7=jk.map fun r=>Dd [x0,x1,x2,x3,x4,x5,x6,x7] r.2.2:=hB▸De;have q:=List.map_inj_left.mp (List.map_inj_left.mp q _ hr) vals.length (AK h1 (dv.1▸h2));rw [e] at q;exact q
theorem C2{p:Program}{w:World}{K:Frag}{s₁:Shared}{mg mb:Str→Option Value}{q:Program}{loose:List Str}{mean:ExcName→Option Value}(hC:Ar K=true)(KX:K.In s₁.heap)(T:Top q loose mean mg mb s₁.heap) :
  kW ⟨p,w,K,s₁.heap,As,fun z_=>False⟩ jS At mg mb:=by
 have c5:=aG hC;have c4:=aG c5.1;have c3:=aG c4.1;have c2:=aG c3.1;have c1:=aG c2.1;refine BU rfl (fun a h=>h) ⟨?_,KX,T.nolimit,fun c C h=>?_⟩ T.g T.b T.builtins c1.2 GE
 ·have ⟨o,ho⟩:=Option.isSome_iff_exists.mp c5.2;exact bf (by decide) (bo (KX _ _ ho))
 ·have step:∀{c:String} {C:Addr} {l:List (String×Addr)},tH K C jS.attrs→(∀p∈l,tH K p.2 jS.attrs)→∀p∈(c,C)::l,tH K p.2 jS.attrs:=fun h1 h2 p hp=>(List.mem_cons.1 hp).elim (fun e=>e▸h1) (h2 p);exact step (pi c2.2) (step (pi c3.2) (step (pi c4.2) fun z_ h=>(an h).elim)) _ (jB h)
noncomputable def r9(as:List Addr)(h:Heap):Frag:=as.filterMap fun a=>(h.get? a).map fun o=>(a,o)
theorem nA{h:Heap}:∀{as:List Addr},(r9 as h).In h
 | [],a,o,e=>nomatch e
 | b::as,a,o,e=>by
  unfold r9 at e;rw [List.filterMap_cons] at e;refine Or.elim (Option.eq_none_or_eq_some (h.get? b)) (fun hb=>?_) (fun w=>xe w fun ob hb=>?_)
  ·rw [hb] at e;exact nA (as:=as) a o e
  ·rw [hb] at e;dsimp only [Option.map_some,List.lookup_cons] at e;by_cases q:(a==b)=true
   ·rw [q] at e;cases e;rw [eq_of_beq q];exact hb
   ·rw [Bool.eq_false_iff.2 q] at e;exact nA (as:=as) a o e
noncomputable def GH(as:List Addr)(chk:Frag→Bool)(bd:Frag→Bd)(bx:Bd):Hook :=
 ⟨Bool×Bd,fun s=>(chk (r9 as s.heap),bd (r9 as s.heap)),fun z_=>(true,bx),fun z_ h=>∃K:Frag,K.In h∧chk K=true∧bd K=bx,
  fun w s e=>⟨_,nA,(Prod.mk.inj e).1,(Prod.mk.inj e).2⟩,fun w h h' q hk=>bG q fun K k1 k2=>⟨K,fun a o e=>hk a o (k1 a o e),k2⟩⟩
noncomputable def HA:List Addr:=[2,3,15,16,18,19,21,22,23,31,33,34,36,37,38,40,41,43,44,45,46,47,48,49,59,61,62,64,65,66,68,69,71,72,73,75,76,78,79,80,82,83,85,86,87,89,90,92,93,94,96,97,99,100,101,103,104,106,107,108,110,111,113,114,115,117,118,120,121,122,124,125,127,128,129,131,132,134,135,136,138,139,141,142,143,146,147,148,150,151,153,154,155,157,158,160,161,162,164,165,167,168,169,172,173,174,176,177,179,180,181,183,184,186,187,188,191,192,193,194,195,196,197,200,203,204,205,208,209,217,218,220,221,223,224,225,227,228,230,231,232,234,235,237,238,239,242,243,244,245,246,247,248,251,253,254,256,257,258,260,261,263,264,265,267,268,270,271,272,273,274,276,277,279,280,281,284,285,286,288,289,291,292,293,296,297,298,300,301,303,304,305,307,308,310,311,312,315,316,317,319,320,322,323,324,327,328,329,332,333,334,336,337,339,340,341,343,344,346,347,348,351,352,353,355,356,358,359]
noncomputable abbrev Au:Hook:=GH HA Ar C1 Fq
theorem Ih{p:Program}{w:World}{s₁:Shared}{K:Frag}{mg mb:Str→Option Value}{q:Program}{loose:List Str}{mean:ExcName→Option Value}{fa L:Addr}{vs:List Value}{l:List Int}(KX:K.In s₁.heap)(hC:Ar K=true)(hB:C1 K=Fq)(T:Top q loose mean mg mb s₁.heap)
  (hmg:mg (Str.ofString "law")=some (.ref fa)) (hL:s₁.heap.IsList L vs.toArray) (hI:IntsAre vs l) (hl:l.length≤63) :
  codeAny (model p w) callerA (.call (.ref fa) ⟨[.ref L],[]⟩) (fun r s'=>r=.ok (.ret (.bool true))∧(∀b o,s₁.heap.get? b=some o→s'.heap.get? b=some o)∧s'.os=s₁.os∧s'.gens=s₁.gens) s₁:=by
 have hp:=C2 (p:=p) (w:=w) hC KX T;refine f7 (hp.fn "law" (by decide)) fun a h1 h2 h3=>?_;rw [hmg] at h1;cases h1;have hC':=(aG (aG (aG (aG (aG hC).1).1).1).1).1;refine bG (Dg (W:=⟨p,w,K,s₁.heap,As,fun z_=>False⟩) (P:=jS) (fa:=At) (mg:=mg) (mb:=mb) (F:=ba) (GF hC' hB) T.nolimit 30 (fun z_=>False) hp ("","law") [.ints l] [] (fun v z_=>v=.bool true) (Bq hl)) fun a' ha f=>?_;rw [h3] at ha;cases ha;refine yr hL fun o g1 g2 ep g3=>?_;refine codeAny_mono (f callerA s₁ [] [.ref L] rfl (by decide) (by decide) ?_ (.cons (.ints g1 g2 g3 (by simpa using hI)) .nil)) fun r s' x=>bG x fun v e y=>cK y fun ρ' σ' b st rp rv hb=>?_
 ·exact ⟨rfl,fun n o p h=>by simp at h,fun m n p q z_ h=>by simp at h,fun n p h=>by simp at h,ax _,fun a o h=>h,fun a h=>h.elim⟩
 ·subst e hb;cases rv;refine Ak st.same fun h' t' e'=>?_;exact ⟨rfl,fun b o q=>st.keep b o q (fun h=>h) (fun n p h=>by simp at h),by rw [e'],by rw [e']⟩
noncomputable def Fr:List Nat:=[1,2,4,5,6,7,8,9,10,11,13,15,16,17,18,19,20,21,22,23,24,25,26,27,28,29,30,31,32]
noncomputable def Av:Program:=view PySem.Challenge.pw_on0033_01 Fr
noncomputable abbrev a_row:=PySem.Challenge.rw_on0033_01.row
theorem HD:LeftO PySem.Challenge.pw_on0033_01 Av [] (fun s=>xlAt Av [] s&&recOk (RowW.records a_row.toRowW) s) (Hook.obs Au) (Hook.val Au) 4414:=by
 intro w;unfold openEnds fencedOpening topFrom;rw [Fast.te10274390034422433532,Fast.te14289696077712309145,Fast.te14082659384304107361,Fast.te4187177175401517315,Fast.te1435165496053646825,Fast.te14364793385576792824];kernel_rfl
theorem HF:PySem.Challenge.rw_on0033_01.wellSaid=true:=by
 rw [Fast.te9446332074065402090];kernel_rfl
end Mine
set_option tactic.hygienic true
theorem PySem.Challenge.cw_on0033_01_holds : PySem.Challenge.rw_on0033_01.Holds := by
  refine holds_law Mine.HF fun said => ?_
  refine holds_open (q := Mine.Av) (loose := []) (Xt := fun s => xlAt Mine.Av [] s && recOk (RowW.records Mine.a_row.toRowW) s) (XP := XL Mine.Av []) (Yf := Hook.obs Mine.Au) (Ya := Hook.val Mine.Au) (YP := Hook.says Mine.Au) (N := 4414) Mine.HD (Hook.of Mine.Au) (Hook.keeps Mine.Au) (fun s e => xl_of s (Bool.and_eq_true_iff.mp e).1) XL.keeps (by rfl) (by rfl) (by rfl) (fun s e => recFacts_of (Bool.and_eq_true_iff.mp e).2) (by rfl) (by assumption) (by decide +kernel) ⟨rfl, rfl, rfl, rfl, rfl, by decide +kernel⟩ ?hw ?hc
  case hw => w_witness2
  case hc =>
    intro w s₀ s₁ mg mb G Y fa o pm cd doc dV kV ho hd hcd hD hmg hg args vals as hpre hlay hrd hwl hlo
    obtain ⟨K, KX, hC, hB⟩ := Y
    refine Ground.open G ?_
    intro T B D TE TW
    wrow_args hpre hlay hrd hwl hlo
    all_goals (
      first | refine callC_kw (enter_call ?_) | refine enter_call ?_ | refine callC_kw (enter_callW ?_) | refine enter_callW ?_ | w_how
      w_top on
      try refine codeAny_mono ?_ (fun _ _ g => GoodW.toG g)
      clear hcd hD
      rename_i l _ _ _ _ _ _ _ L vs _ hL _ _ _ hI _ hc _
      refine codeAny_mono (Mine.Ih KX hC hB T hmg hL hI (by omega)) fun r s' ⟨h1, h2, h3, h4⟩ => ?_
      subst h1
      refine ⟨.inl ⟨.bool true, .bool true, [], rfl, fun _ => rfl, .bool _, ?_, fun _ => ⟨List.nodup_nil, fun _ h => nomatch h⟩⟩, h2, h3, by rw [h4, hg]⟩
      first | kernel_rfl | with_unfolding_all rfl)

