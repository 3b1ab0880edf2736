import PyProof.Rows.All
import KE.KDictSum
import KE.KSortTup
import Wide.FinOn
import PySem.Challenge.RW_on0033_02
open PySem PySem.W PyProof.Rows
set_option Elab.async false
set_option linter.all false
set_option maxHeartbeats 8000000
set_option maxRecDepth 100000
set_option tactic.hygienic false
set_option backward.match.sparseCases false
namespace Mine
theorem ae{m n:Nat}(h:Nat.ble m n=true:=by rfl):m<=n:=Nat.le_of_ble_eq_true h
theorem af:type_of%@wpAny_bind:=@wpAny_bind
theorem ai:type_of%@List.mem_cons_self:=@List.mem_cons_self
theorem aj:type_of%@List.mem_cons_of_mem:=@List.mem_cons_of_mem
theorem ak:type_of%@Nat.lt_of_lt_of_le:=@Nat.lt_of_lt_of_le
theorem al:type_of%@wpAny_pure:=@wpAny_pure
theorem am:type_of%@Nat.le_trans:=@Nat.le_trans
theorem an:type_of%@List.mem_singleton:=@List.mem_singleton
theorem aq:type_of%@List.not_mem_nil:=@List.not_mem_nil
theorem au:type_of%@List.getElem?_append_left:=@List.getElem?_append_left
theorem ax:type_of%@Nat.lt_of_le_of_lt:=@Nat.lt_of_le_of_lt
theorem ay:type_of%@Nat.le_refl:=@Nat.le_refl
theorem aA:type_of%@List.getElem?_eq_getElem:=@List.getElem?_eq_getElem
theorem aB:type_of%@of_decide_eq_true:=@of_decide_eq_true
theorem aC:type_of%@Nat.zero_le:=@Nat.zero_le
theorem aD:type_of%@List.prefix_refl:=@List.prefix_refl
theorem aE:type_of%@List.getElem?_eq_some_iff:=@List.getElem?_eq_some_iff
theorem aH:type_of%@List.length_append:=@List.length_append
theorem aI:type_of%@wpAny_mono:=@wpAny_mono
theorem aJ:type_of%@Heap.get?_push_of_some:=@Heap.get?_push_of_some
theorem aL:type_of%@List.getElem?_append_right:=@List.getElem?_append_right
theorem aM:type_of%@List.length_map:=@List.length_map
theorem aN:type_of%@Nat.le_add_right:=@Nat.le_add_right
theorem aO:type_of%@List.mem_cons:=@List.mem_cons
theorem aP:type_of%@List.forall_mem_cons:=@List.forall_mem_cons
theorem aQ:type_of%@Nat.lt_trans:=@Nat.lt_trans
theorem aT:type_of%@wpAny_holding:=@wpAny_holding
theorem aW:type_of%@Nat.ne_of_lt:=@Nat.ne_of_lt
theorem aX:type_of%@List.mem_map:=@List.mem_map
theorem a9:type_of%@Option.some.inj:=@Option.some.inj
theorem bf:type_of%@Array.length_toList:=@Array.length_toList
theorem bg:type_of%@Ne.symm:=@Ne.symm
theorem bh:type_of%@Nat.lt_irrefl:=@Nat.lt_irrefl
theorem bi:type_of%@List.append_assoc:=@List.append_assoc
theorem bj:type_of%@Bool.and_eq_true_iff:=@Bool.and_eq_true_iff
theorem bn:type_of%@List.append_nil:=@List.append_nil
theorem bp:type_of%@decide_eq_true:=@decide_eq_true
theorem br:type_of%@Heap.get?_push_size:=@Heap.get?_push_size
theorem bs:type_of%@List.mem_append:=@List.mem_append
theorem bt:type_of%@List.mem_append:=@List.mem_append
theorem bu:type_of%@Heap.SameBut.update:=@Heap.SameBut.update
theorem bC:type_of%@Nat.ne_of_gt:=@Nat.ne_of_gt
theorem bE:type_of%@List.length_set:=@List.length_set
theorem bN:type_of%@Heap.size_push:=@Heap.size_push
theorem bQ:type_of%@Nat.add_le_add_right:=@Nat.add_le_add_right
theorem bT:type_of%@Nat.le_succ_of_le:=@Nat.le_succ_of_le
theorem bW:type_of%@Heap.lt_size:=@Heap.lt_size
theorem bX:type_of%@Nat.lt_succ_self:=@Nat.lt_succ_self
theorem b0:type_of%@Option.map_eq_some_iff:=@Option.map_eq_some_iff
theorem ca:type_of%@Bool.false_ne_true:=@Bool.false_ne_true
theorem ci:type_of%@Nat.not_lt:=@Nat.not_lt
theorem cn:type_of%@Nat.add_le_add_left:=@Nat.add_le_add_left
theorem cw:type_of%@List.prefix_append:=@List.prefix_append
theorem cz:type_of%@Bool.or_eq_true_iff:=@Bool.or_eq_true_iff
theorem cB:type_of%@Nat.le_of_lt:=@Nat.le_of_lt
theorem cI:type_of%@List.nodup_append:=@List.nodup_append
theorem cK:type_of%@List.all_eq_true:=@List.all_eq_true
theorem cL:type_of%@List.mem_filter:=@List.mem_filter
theorem cS:type_of%@Nat.lt_or_ge:=@Nat.lt_or_ge
variable{p:Addr×Addr}{X:Addr->Prop}{A:Around}{items:Array Value}{env:Env}{x:Expr}{M:Expr->Prop}{h:Heap}{o:Int}{es:List DictEntry}{os:List Int}{vs:List Value}{B c i n:Nat}{pos:Pos}{P:Prop}{s s':Shared}{fa:String×String->Option Addr}{mb mg:Str->Option Value}{α:Type}{y z:Value}{Er:Value->Shared->Prop}
theorem xa{p q:Prop}(h:p/\q)(k:p->q->P):P:=k h.1 h.2
theorem xe{A:Type}{p:A->Prop}(h:∃x,p x)(k:∀x,p x->P):P:=h.elim λx h=>k x h
theorem o9{p q r:Prop}(h:p/\q/\r)(k:p->q->r->P):P:=k h.1 h.2.1 h.2.2
theorem y6{A:Type}{p:Prop}{q:A->Prop}(h:p/\∃x,q x)(k:p->∀x,q x->P):P:=h.2.elim λx f1=>k h.1 x f1
theorem bO{A:Type}{p q:A->Prop}(h:∃x,p x/\q x)(k:∀x,p x->q x->P):P:=h.elim λx h=>k x h.1 h.2
theorem ER{A B:Type}{p:A->B->Prop}(h:∃x y,p x y)(k:∀x y,p x y->P):P:=h.elim λx h=>h.elim λy h=>k x y h
theorem mV{p q r s:Prop}(h:p/\q/\r/\s)(k:p->q->r->s->P):P:=o9 h.2 (k h.1)
theorem B3{A:Type}{p:Prop}{q r:A->Prop}(h:p/\∃x,q x/\r x)(k:p->∀x,q x->r x->P):P:=bO h.2 (k h.1)
theorem cG{A:Type}{p q r:A->Prop}(h:∃x,p x/\q x/\r x)(k:∀x,p x->q x->r x->P):P:=h.elim λx h=>o9 h (k x)
theorem dE{A B:Type}{p q:A->B->Prop}(h:∃x y,p x y/\q x y)(k:∀x y,p x y->q x y->P):P:=h.elim λx h=>bO h (k x)
theorem JR{A B C:Type}{p:A->B->C->Prop}(h:∃x y z,p x y z)(k:∀x y z,p x y z->P):P:=h.elim λx h=>ER h (k x)
theorem tz{p q r s t:Prop}(h:p/\q/\r/\s/\t)(k:p->q->r->s->t->P):P:=mV h.2 (k h.1)
theorem EQ{A B:Type}{p:Prop}{q r:A->B->Prop}(h:p/\∃x y,q x y/\r x y)(k:p->∀x y,q x y->r x y->P):P:=dE h.2 (k h.1)
theorem oz{A:Type}{p q r s:A->Prop}(h:∃x,p x/\q x/\r x/\s x)(k:∀x,p x->q x->r x->s x->P):P:=h.elim λx h=>mV h (k x)
theorem z4{A B:Type}{p q:A->Prop}{r:A->B->Prop}(h:∃x,p x/\q x/\∃y,r x y)(k:∀x,p x->q x->∀y,r x y->P):P:=h.elim λx h=>h.2.2.elim λy f1=>k x h.1 h.2.1 y f1
theorem cU{A B:Type}{p q r:A->B->Prop}(h:∃x y,p x y/\q x y/\r x y)(k:∀x y,p x y->q x y->r x y->P):P:=h.elim λx h=>cG h (k x)
theorem JS{A B C D:Type}{p:A->B->C->D->Prop}(h:∃x y z a,p x y z a)(k:∀x y z a,p x y z a->P):P:=h.elim λx h=>JR h (k x)
theorem EP{p q r s t u:Prop}(h:p/\q/\r/\s/\t/\u)(k:p->q->r->s->t->u->P):P:=tz h.2 (k h.1)
theorem ib{A B:Type}{p q r s:A->B->Prop}(h:∃x y,p x y/\q x y/\r x y/\s x y)(k:∀x y,p x y->q x y->r x y->s x y->P):P:=h.elim λx h=>oz h (k x)
theorem y8{A B C:Type}{p:A->B->Prop}{q r:A->B->C->Prop}(h:∃x y,p x y/\∃z,q x y z/\r x y z)(k:∀x y,p x y->∀z,q x y z->r x y z->P):P:=h.elim λx h=>h.elim λy h=>h.2.elim λz f1=>k x y h.1 z f1.1 f1.2
theorem rT{A B C:Type}{p q r:A->B->C->Prop}(h:∃x y z,p x y z/\q x y z/\r x y z)(k:∀x y z,p x y z->q x y z->r x y z->P):P:=h.elim λx h=>cU h (k x)
theorem IU{A B C D:Type}{p q:A->B->C->D->Prop}(h:∃x y z a,p x y z a/\q x y z a)(k:∀x y z a,p x y z a->q x y z a->P):P:=h.elim λx h=>h.elim λy h=>h.elim λz h=>h.elim λa h=>k x y z a h.1 h.2
theorem GR{A B C D E:Type}{p:A->Prop}{q:A->B->C->D->E->Prop}(h:∃x,p x/\∃y z a b,q x y z a b)(k:∀x,p x->∀y z a b,q x y z a b->P):P:=h.elim λx h=>h.2.elim λy f1=>f1.elim λz f1=>f1.elim λa f1=>f1.elim λb f1=>k x h.1 y z a b f1
theorem dR{A B:Type}{p q r s t:A->B->Prop}(h:∃x y,p x y/\q x y/\r x y/\s x y/\t x y)(k:∀x y,p x y->q x y->r x y->s x y->t x y->P):P:=h.elim λx h=>h.elim λy h=>k x y h.1 h.2.1 h.2.2.1 h.2.2.2.1 h.2.2.2.2
theorem cR{A B C:Type}{p q r s:A->B->C->Prop}(h:∃x y z,p x y z/\q x y z/\r x y z/\s x y z)(k:∀x y z,p x y z->q x y z->r x y z->s x y z->P):P:=h.elim λx h=>ib h (k x)
theorem oA{A B C D:Type}{p q r:A->B->C->D->Prop}(h:∃x y z a,p x y z a/\q x y z a/\r x y z a)(k:∀x y z a,p x y z a->q x y z a->r x y z a->P):P:=h.elim λx h=>rT h (k x)
theorem gu{A B:Type}{p q r s t u:A->B->Prop}(h:∃x y,p x y/\q x y/\r x y/\s x y/\t x y/\u x y)(k:∀x y,p x y->q x y->r x y->s x y->t x y->u x y->P):P:=h.elim λx h=>h.elim λy h=>k x y h.1 h.2.1 h.2.2.1 h.2.2.2.1 h.2.2.2.2.1 h.2.2.2.2.2
theorem fE{A B C:Type}{p q r s t:A->B->C->Prop}(h:∃x y z,p x y z/\q x y z/\r x y z/\s x y z/\t x y z)(k:∀x y z,p x y z->q x y z->r x y z->s x y z->t x y z->P):P:=h.elim λx h=>dR h (k x)
theorem rV{A B C D:Type}{p q r s:A->B->C->D->Prop}(h:∃x y z a,p x y z a/\q x y z a/\r x y z a/\s x y z a)(k:∀x y z a,p x y z a->q x y z a->r x y z a->s x y z a->P):P:=h.elim λx h=>cR h (k x)
theorem tC{A B:Type}{p q r s t u v:A->B->Prop}(h:∃x y,p x y/\q x y/\r x y/\s x y/\t x y/\u x y/\v x y)(k:∀x y,p x y->q x y->r x y->s x y->t x y->u x y->v x y->P):P:=h.elim λx h=>h.elim λy h=>k x y h.1 h.2.1 h.2.2.1 h.2.2.2.1 h.2.2.2.2.1 h.2.2.2.2.2.1 h.2.2.2.2.2.2
theorem j6{A B C:Type}{p q r s t u:A->B->C->Prop}(h:∃x y z,p x y z/\q x y z/\r x y z/\s x y z/\t x y z/\u x y z)(k:∀x y z,p x y z->q x y z->r x y z->s x y z->t x y z->u x y z->P):P:=h.elim λx h=>gu h (k x)
theorem eE{A B C D:Type}{p q r s t:A->B->C->D->Prop}(h:∃x y z a,p x y z a/\q x y z a/\r x y z a/\s x y z a/\t x y z a)(k:∀x y z a,p x y z a->q x y z a->r x y z a->s x y z a->t x y z a->P):P:=h.elim λx h=>fE h (k x)
theorem B4{A B C D E F G H:Type}{p:A->B->C->D->E->F->G->H->Prop}(h:∃x y z a b c d e,p x y z a b c d e)(k:∀x y z a b c d e,p x y z a b c d e->P):P:=h.elim λx h=>h.elim λy h=>h.elim λz h=>h.elim λa h=>h.elim λb h=>h.elim λc h=>h.elim λd h=>h.elim λe h=>k x y z a b c d e h
theorem mW{A B C D:Type}{p q:A->Prop}{r s t u:A->B->C->D->Prop}(h:∃x,p x/\q x/\∃y z a,r x y z a/\s x y z a/\t x y z a/\u x y z a)(k:∀x,p x->q x->∀y z a,r x y z a->s x y z a->t x y z a->u x y z a->P):P:=h.elim λx h=>h.2.2.elim λy f1=>f1.elim λz f1=>f1.elim λa f1=>k x h.1 h.2.1 y z a f1.1 f1.2.1 f1.2.2.1 f1.2.2.2
theorem y7{A B C D:Type}{p q r s:A->B->Prop}{t u:A->B->C->D->Prop}(h:∃x y,p x y/\q x y/\r x y/\s x y/\∃z a,t x y z a/\u x y z a)(k:∀x y,p x y->q x y->r x y->s x y->∀z a,t x y z a->u x y z a->P):P:=h.elim λx h=>h.elim λy h=>h.2.2.2.2.elim λz f1=>f1.elim λa f1=>k x y h.1 h.2.1 h.2.2.1 h.2.2.2.1 z a f1.1 f1.2
theorem kL{A B C:Type}{p q r s t u v:A->B->C->Prop}(h:∃x y z,p x y z/\q x y z/\r x y z/\s x y z/\t x y z/\u x y z/\v x y z)(k:∀x y z,p x y z->q x y z->r x y z->s x y z->t x y z->u x y z->v x y z->P):P:=h.elim λx h=>tC h (k x)
theorem rU{A B C D:Type}{p q r s t:A->B->C->Prop}{u:A->B->C->D->Prop}(h:∃x y z,p x y z/\q x y z/\r x y z/\s x y z/\t x y z/\∃a,u x y z a)(k:∀x y z,p x y z->q x y z->r x y z->s x y z->t x y z->∀a,u x y z a->P):P:=h.elim λx h=>h.elim λy h=>h.elim λz h=>h.2.2.2.2.2.elim λa f1=>k x y z h.1 h.2.1 h.2.2.1 h.2.2.2.1 h.2.2.2.2.1 a f1
theorem cv{A B C D:Type}{p q r s t u:A->B->C->D->Prop}(h:∃x y z a,p x y z a/\q x y z a/\r x y z a/\s x y z a/\t x y z a/\u x y z a)(k:∀x y z a,p x y z a->q x y z a->r x y z a->s x y z a->t x y z a->u x y z a->P):P:=h.elim λx h=>j6 h (k x)
theorem y9{A B C D E:Type}{p q r s t:A->B->C->D->E->Prop}(h:∃x y z a b,p x y z a b/\q x y z a b/\r x y z a b/\s x y z a b/\t x y z a b)(k:∀x y z a b,p x y z a b->q x y z a b->r x y z a b->s x y z a b->t x y z a b->P):P:=h.elim λx h=>eE h (k x)
theorem bz{A B C D:Type}{p q r s:A->B->Prop}{t u v:A->B->C->D->Prop}(h:∃x y,p x y/\q x y/\r x y/\s x y/\∃z a,t x y z a/\u x y z a/\v x y z a)(k:∀x y,p x y->q x y->r x y->s x y->∀z a,t x y z a->u x y z a->v x y z a->P):P:=h.elim λx h=>h.elim λy h=>h.2.2.2.2.elim λz f1=>f1.elim λa f1=>k x y h.1 h.2.1 h.2.2.1 h.2.2.2.1 z a f1.1 f1.2.1 f1.2.2
theorem pB{A B C D:Type}{p q r s t u v:A->B->C->D->Prop}(h:∃x y z a,p x y z a/\q x y z a/\r x y z a/\s x y z a/\t x y z a/\u x y z a/\v x y z a)(k:∀x y z a,p x y z a->q x y z a->r x y z a->s x y z a->t x y z a->u x y z a->v x y z a->P):P:=h.elim λx h=>kL h (k x)
theorem hW{A B C D E:Type}{p q r s t u:A->B->C->D->E->Prop}(h:∃x y z a b,p x y z a b/\q x y z a b/\r x y z a b/\s x y z a b/\t x y z a b/\u x y z a b)(k:∀x y z a b,p x y z a b->q x y z a b->r x y z a b->s x y z a b->t x y z a b->u x y z a b->P):P:=h.elim λx h=>cv h (k x)
theorem bM{A B C D:Type}{p q r s t:A->B->Prop}{u v w i:A->B->C->D->Prop}(h:∃x y,p x y/\q x y/\r x y/\s x y/\t x y/\∃z a,u x y z a/\v x y z a/\w x y z a/\i x y z a)(k:∀x y,p x y->q x y->r x y->s x y->t x y->∀z a,u x y z a->v x y z a->w x y z a->i x y z a->P):P:=h.elim λx h=>h.elim λy h=>h.2.2.2.2.2.elim λz f1=>f1.elim λa f1=>k x y h.1 h.2.1 h.2.2.1 h.2.2.2.1 h.2.2.2.2.1 z a f1.1 f1.2.1 f1.2.2.1 f1.2.2.2
theorem eF{A B C D E:Type}{p q r s t u v w:A->B->C->D->E->Prop}(h:∃x y z a b,p x y z a b/\q x y z a b/\r x y z a b/\s x y z a b/\t x y z a b/\u x y z a b/\v x y z a b/\w x y z a b)(k:∀x y z a b,p x y z a b->q x y z a b->r x y z a b->s x y z a b->t x y z a b->u x y z a b->v x y z a b->w x y z a b->P):P:=h.elim λx h=>h.elim λy h=>h.elim λz h=>h.elim λa h=>h.elim λb h=>k x y z a b h.1 h.2.1 h.2.2.1 h.2.2.2.1 h.2.2.2.2.1 h.2.2.2.2.2.1 h.2.2.2.2.2.2.1 h.2.2.2.2.2.2.2
theorem Dt{a b:Nat}(h:n=a-b)(k:b<a):a-(b+1)<n:=h▸Nat.sub_lt_sub_left k (bX b)
theorem Ds{a e:Nat}(h:e<a):a-e=a-(e+1)+1:=(Nat.succ_pred_eq_of_pos (Nat.sub_pos_of_lt h)).symm
theorem JF{u:Nat}(h:u+20<c):u+1+8<c:=ax (aN (u+9) 11) h
theorem K7{u d:Nat}(h:u+20<c)(q:d<=6):u+1+d<c:=ax (am (cn q _) (aN (u+7) 13)) h
theorem FN{u d e k:Nat}(h:u+n<c)(p:k<=d)(q:d<=n):u+min k e<c:=ax (cn (am (Nat.min_le_left _ _) (am p q)) _) h
theorem Ih{T f w u m:Nat}(h:(T-f)*24+(w+1)<m+1)(q:f+1<=T)(k:u<=23):(T-(f+1))*24+(w+u)<m:=by
 rw [Ds q,Nat.succ_mul] at h;exact ax (am (cn (am (cn k w) (Nat.add_comm 24 w▸Nat.le_succ (w+23))) _) (Nat.le_of_eq (Nat.add_assoc _ _ _).symm)) (Nat.lt_of_succ_lt_succ h)
theorem lz{z z' m:Nat}(hm:2*(1801-z)+1<m+1)(h:z<=z')(b:z'<=1800):2*(1801-z')+(if (z:Int)=z' then 0 else 1)<m:=by
 have k:=Nat.lt_of_succ_lt_succ hm;by_cases e:(z:Int)=z'
 ·rw [if_pos e];exact ax (Nat.mul_le_mul_left 2 (Nat.sub_le_sub_left h 1801)) k
 ·rw [if_neg e];have hl:z<z':=Nat.lt_of_le_of_ne h λq=>e (congrArg Nat.cast q);exact ak (bX (2*(1801-z')+1)) (am (Nat.mul_le_mul_left 2 (Nat.sub_lt_sub_left (ak hl (bT b)) hl)) (cB k))
theorem JG(e:(-1:Int)=n):False:=absurd (e▸Int.natCast_nonneg n:(0:Int)<= -1) (by decide)
theorem Ko{i n:Int}(h:¬0<=i):i+n<n:=by have:=Int.add_lt_add_right (Int.not_le.mp h) n;rwa [Int.zero_add] at this
theorem Kp{a b m:Nat}(h:a=b)(q:m<a)(e:m=b+1):False:=by subst e;subst h;exact bh _ (Nat.lt_of_succ_lt q)
theorem JC{a b m:Nat}(h:a=b)(q:m<a)(e:m=b):False:=by subst e;subst h;exact bh _ q
theorem Ig{n:Int}(hn:0<=n/\n<1000000):((-9223372036854775808<=n/\n<9223372036854775808)/\ -9223372036854775808<=max n 0/\max n 0<9223372036854775808)/\(max n 0=0\/ -9223372036854775808<=n/\n<9223372036854775808):=by
 rw [Int.max_eq_left hn.1];have a: -9223372036854775808<=n/\n<9223372036854775808:=⟨Int.le_trans (by decide) hn.1,Int.lt_trans hn.2 (by decide)⟩
 exact ⟨⟨a,a⟩,.inr a⟩
inductive V where
 | none
 | bool (b:Bool)
 | int (i:Int)
 | str (s:String)
 | tup (l:List V)
 | obj (n:Nat)
 | ints (l:List Int)
 deriving Inhabited
variable{as:List (Nat×List V)}{fl:List (V×V)}{fs l ns ts xs:List V}{a b k v:V}
inductive Ob where
 | list (l:List V)
 | dict (l:List (V×V)) (e:Nat)
 | inst (c:String) (l:List (String×V))
 deriving Inhabited
set_option genSizeOf false
set_option genInjectivity false
noncomputable abbrev Hp:=List Ob
variable{J σ' σ'' σb σa:Hp}{gd:Hp->Prop}
noncomputable abbrev Rho:=List (Addr×Addr)
variable{Mid:Nat->Rho->Heap->Value->Prop}{Z ρ':Rho}
mutual
noncomputable def V.dat:V->Bool
 | .none | .int _ | .str _=>true
 | .bool _ | .obj _ | .ints _=>false
 | .tup l=>V.dats l
noncomputable def V.dats:List V->Bool
 | []=>true
 | v::r=>v.dat&&V.dats r
end
mutual
noncomputable def V.key:V->Bool
 | .int _ | .str _=>true
 | .none | .bool _ | .obj _ | .ints _=>false
 | .tup l=>V.keys l
noncomputable def V.keys:List V->Bool
 | []=>true
 | v::r=>v.key&&V.keys r
end
mutual
noncomputable def V.dep:V->Nat
 | .tup l=>V.deps l+1
 | _=>0
noncomputable def V.deps:List V->Nat
 | []=>0
 | v::r=>max v.dep (V.deps r)
end
mutual
noncomputable def V.py:V->PyData
 | .none=>.none
 | .bool b=>.bool b
 | .int i=>.int i
 | .str s=>.str (Str.ofString s)
 | .tup l=>.tuple (V.pys l)
 | .obj _ | .ints _=>.none
noncomputable def V.pys:List V->List PyData
 | []=>[]
 | v::r=>v.py::V.pys r
end
theorem bF(h:false=true):P:=absurd h ca
theorem cr{p:α}(h:(none:Option α)=some p):P:=absurd h (Option.some_ne_none p).symm
theorem V.no(e:a=b)(h:Nat.beq a.ctorIdx b.ctorIdx=false):P:=absurd (congrArg V.ctorIdx e) (Nat.ne_of_beq_eq_false h)
theorem V.ff{x y:V}{b:Bool}(h:b=false)(k:Nat.beq x.ctorIdx y.ctorIdx=false):b=true↔x=y:=⟨λe=>bF (h▸e),λe=>V.no e k⟩
theorem V.ind{P:V->Prop}(h0:P .none)(h1:∀b,P (.bool b))(h2:∀i,P (.int i))(h3:∀s,P (.str s))(h4:∀n,P (.obj n))(h5:∀l,P (.ints l))(ht:∀l,(∀v∈l,P v)->P (.tup l))(v:V):P v :=
 V.rec (motive_1:=P) (motive_2:=λl=>∀v∈l,P v) h0 h1 h2 h3 ht h4 h5 (λz_ h=>absurd h aq) (λx r hx hr v h=>(aO.mp h).elim (λe=>e▸hx) (hr v)) v
theorem V.dats_iff:∀{l:List V},V.dats l=true↔∀v∈l,v.dat=true
 | []=>⟨λz_ z_ h=>absurd h aq,λz_=>rfl⟩
 | v::r=>Bool.and_eq_true_iff.trans ((and_congr_right λz_=>V.dats_iff).trans (List.forall_mem_cons (p:=λv:V=>v.dat=true)).symm)
theorem V.keys_iff:∀{l:List V},V.keys l=true↔∀v∈l,v.key=true
 | []=>⟨λz_ z_ h=>absurd h aq,λz_=>rfl⟩
 | v::r=>Bool.and_eq_true_iff.trans ((and_congr_right λz_=>V.keys_iff).trans (List.forall_mem_cons (p:=λv:V=>v.key=true)).symm)
theorem V.dat_of_key:v.key=true->v.dat=true :=
 V.rec (motive_1:=λv=>v.key=true->v.dat=true) (motive_2:=λl=>V.keys l=true->V.dats l=true) (λh=>bF h) (λz_ h=>bF h) (λz_ z_=>rfl) (λz_ z_=>rfl) (λz_ m=>m) (λz_ h=>bF h) (λz_ h=>bF h) (λz_=>rfl)
  (λz_ z_ a b h=>have h:=bj.1 h;Bool.and_eq_true_iff.2 ⟨a h.1,b h.2⟩) v
structure Wd where
 prog:Program
 w:World
 K:Frag
 h₀:Heap
 cls:String->Option Addr
 /-- tuples that the machine writes into -/
 priv:Addr->Prop
variable{W:Wd}
mutual
inductive aK(W:Wd)(h:Heap)(Z:Rho):V->Value->Prop
 | none:aK W h Z .none .none
 | bool (b:Bool):aK W h Z (.bool b) (.bool b)
 | int (i:Int) (t:Tok):aK W h Z (.int i) (.int i t)
 | str {s:String} {x:Str} (t:Tok):x=Str.ofString s->aK W h Z (.str s) (.str x t)
 | tup {l:List V} {a:Addr} {o:Obj} {items:Array Value} {ep:Nat}:h.get? a=some o->o.cls=.type "tuple"->o.data=.seq items ep->(o.dict=none/\o.slots=#[]/\¬W.priv a)->bo W h Z l items.toList->aK W h Z (.tup l) (.ref a)
 | obj {n:Nat} {a d:Addr}:Z[n]?=some (a,d)->aK W h Z (.obj n) (.ref a)
 | ints {l:List Int} {a:Addr} {o:Obj} {items:Array Value} {ep:Nat}:W.h₀.get? a=some o->o.cls=.type "list"->o.data=.seq items ep->IntsAre items.toList l->aK W h Z (.ints l) (.ref a)
inductive bo(W:Wd)(h:Heap)(Z:Rho):List V->List Value->Prop
 | nil:bo W h Z [] []
 | cons {v:V} {a:Value} {l:List V} {as:List Value}:aK W h Z v a->bo W h Z l as->bo W h Z (v::l) (a::as)
end
noncomputable def sP(o:Obj):Prop:=o.cls=.type "tuple"/\∃items ep,o.data=.seq items ep
noncomputable def bv(W:Wd)(h h':Heap):Prop:=∀a o,h.get? a=some o->sP o->¬W.priv a->h'.get? a=some o
theorem bv.refl(W:Wd)(h:Heap):bv W h h:=λz_ z_ e z_ z_=>e
theorem bv.trans{h' h'':Heap}(x:bv W h h')(y:bv W h' h''):bv W h h'':=λa o e c p=>y a o (x a o e c p) c p
theorem iA{l l':List α}(h:l <+:l'){x:α}(e:l[n]?=some x):l'[n]?=some x:=by
 refine xe h λt q=>?_;subst q;have:n<l.length:=(aE.mp e).1;rw [au this];exact e
section
variable{h':Heap}{a:Value}{as:List Value}
theorem aK.mono(k:bv W h h')(p:Z <+:ρ')(r:aK W h Z v a):aK W h' ρ' v a :=
 aK.rec (motive_1:=λv a z_=>aK W h' ρ' v a) (motive_2:=λl as z_=>bo W h' ρ' l as) .none .bool .int (λt e=>.str t e) (λho hc hd hx z_ r=>.tup (k _ _ ho ⟨hc,_,_,hd⟩ hx.2.2) hc hd hx r) (λe=>.obj (iA p e)) .ints .nil (λz_ z_ a b=>.cons a b) r
theorem bo.ind{M:List V->List Value->Prop}(r:bo W h Z l as)(n:M [] [])(c:∀{v a l as},aK W h Z v a->bo W h Z l as->M l as->M (v::l) (a::as)):M l as :=
 bo.rec (motive_1:=λz_ z_ z_=>True) (motive_2:=λl as z_=>M l as) trivial (λz_=>trivial) (λz_ z_=>trivial) (λz_ z_=>trivial) (λz_ z_ z_ z_ z_ z_=>trivial) (λz_=>trivial) (λz_ z_ z_ z_=>trivial) n (λx r z_ m=>c x r m) r
theorem bo.mono(k:bv W h h')(p:Z <+:ρ')(r:bo W h Z l as):bo W h' ρ' l as:=r.ind .nil λx z_ m=>.cons (x.mono k p) m
theorem bo.length(r:bo W h Z l as):as.length=l.length:=r.ind (M:=λl as=>as.length=l.length) rfl λz_ z_ m=>congrArg Nat.succ m
theorem bo.get(r:bo W h Z l as)(e:l[n]?=some v):∃a,as[n]?=some a/\aK W h Z v a :=
 r.ind (M:=λl as=>∀n:Nat,l[n]?=some v->∃a,as[n]?=some a/\aK W h Z v a) (λz_ e=>cr e) (λx z_ m n e=>by
  cases n with
  | zero=>cases e;exact ⟨_,rfl,x⟩
  | succ n=>exact m n e) n e
theorem bo.append{l':List V}{as':List Value}(r:bo W h Z l as)(y:bo W h Z l' as'):bo W h Z (l++l') (as++as') :=
 r.ind (M:=λl as=>bo W h Z (l++l') (as++as')) y λx z_ m=>.cons x m
theorem bo.take(n:Nat)(r:bo W h Z l as):bo W h Z (l.take n) (as.take n) :=
 r.ind (M:=λl as=>∀n:Nat,bo W h Z (l.take n) (as.take n)) (λn=>by rw [List.take_nil,List.take_nil];exact .nil) (λx z_ m n=>by
  cases n with
  | zero=>exact .nil
  | succ n=>exact .cons x (m n)) n
theorem bo.drop(n:Nat)(r:bo W h Z l as):bo W h Z (l.drop n) (as.drop n) :=
 r.ind (M:=λl as=>∀n:Nat,bo W h Z (l.drop n) (as.drop n)) (λn=>by rw [List.drop_nil,List.drop_nil];exact .nil) (λx r m n=>by
  cases n with
  | zero=>exact .cons x r
  | succ n=>exact m n) n
theorem bo.set(n:Nat)(r:bo W h Z l as)(y:aK W h Z v a):bo W h Z (l.set n v) (as.set n a) :=
 r.ind (M:=λl as=>∀n:Nat,bo W h Z (l.set n v) (as.set n a)) (λn=>.nil) (λx r m n=>by
  cases n with
  | zero=>exact .cons y r
  | succ n=>exact .cons x (m n)) n
theorem aK.reads(r:aK W h Z v a):v.dat=true->Reads h a v.py [] :=
 aK.rec (motive_1:=λv a z_=>v.dat=true->Reads h a v.py []) (motive_2:=λl as z_=>V.dats l=true->ReadsAll h as (V.pys l) []) (λz_=>.none) (λz_ d=>bF d) (λi t z_=>.int i t) (λt e z_=>e▸.str _ t) (λho hc hd z_ z_ m d=>.tuple ho hc hd (m d)) (λz_ d=>bF d) (λz_ z_ z_ z_ d=>bF d) (λz_=>.nil)
  (λz_ z_ a b d=>have d:=bj.1 d;.cons (a d.1) (b d.2)) r
theorem bo.reads(r:bo W h Z l as):V.dats l=true->ReadsAll h as (V.pys l) [] :=
 r.ind (M:=λl as=>V.dats l=true->ReadsAll h as (V.pys l) []) (λz_=>.nil) λx z_ m d=>have d:=bj.1 d;.cons (x.reads d.1) (m d.2)
theorem aK.ind{M:V->Value->Prop}(r:aK W h Z v a)(n:M .none .none)(b:∀b,M (.bool b) (.bool b))(i:∀i t,M (.int i) (.int i t))(s:∀s t,M (.str s) (.str (Str.ofString s) t))
  (t:∀{l a o items ep},h.get? a=some o->o.cls=.type "tuple"->o.data=.seq items ep->(o.dict=Option.none/\o.slots=#[]/\¬W.priv a)->bo W h Z l items.toList->M (.tup l) (.ref a)) (ob:∀{n a d},Z[n]?=some (a,d)->M (.obj n) (.ref a))
  (is:∀{l a o items ep},W.h₀.get? a=some o->o.cls=.type "list"->o.data=.seq items ep->IntsAre items.toList l->M (.ints l) (.ref a)):M v a :=
 aK.rec (motive_1:=λv a z_=>M v a) (motive_2:=λz_ z_ z_=>True) n b i (λk e=>by rw [e];exact s _ k) (λp q r s l z_=>t p q r s l) (λe=>ob e) (λa b c d=>is a b c d) trivial (λz_ z_ z_ z_=>trivial) r
noncomputable def bo.shape(W:Wd)(h:Heap)(Z:Rho)(l:List V)(as:List Value):Prop:=match l with
 | []=>as=[]
 | v::l=>∃a as',as=a::as'/\aK W h Z v a/\bo W h Z l as'
theorem bo.E(r:bo W h Z l as):bo.shape W h Z l as:=r.ind rfl λx r z_=>⟨_,_,rfl,x,r⟩
noncomputable def aK.shape(W:Wd)(h:Heap)(Z:Rho)(v:V)(x:Value):Prop:=match v with
 | .none=>x=.none
 | .bool b=>x=.bool b
 | .int i=>∃t,x=.int i t
 | .str s=>∃t,x=.str (Str.ofString s) t
 | .tup l=>∃a o items ep,x=.ref a/\h.get? a=some o/\o.cls=.type "tuple"/\o.data=.seq items ep/\(o.dict=Option.none/\o.slots=#[]/\¬W.priv a)/\bo W h Z l items.toList
 | .obj n=>∃a d,x=.ref a/\Z[n]?=some (a,d)
 | .ints l=>∃a o items ep,x=.ref a/\W.h₀.get? a=some o/\o.cls=.type "list"/\o.data=.seq items ep/\IntsAre items.toList l
theorem aK.E(r:aK W h Z v a):aK.shape W h Z v a:=r.ind rfl (λz_=>rfl) (λz_ t=>⟨t,rfl⟩) (λz_ t=>⟨t,rfl⟩) (λp q r s t=>⟨_,_,_,_,rfl,p,q,r,s,t⟩) (λp=>⟨_,_,rfl,p⟩) (λp q r s=>⟨_,_,_,_,rfl,p,q,r,s⟩)
theorem bo.nilU{M:List Value->Prop}(r:bo W h Z [] as)(k:M []):M as:=(show as=[] from r.E)▸k
theorem bo.consU{M:List Value->Prop}(r:bo W h Z (v::l) as)(k:∀a as,aK W h Z v a->bo W h Z l as->M (a::as)):M as:=by
 refine cU r.E λa as' q x y=>?_;subst q;exact k a as' x y
theorem aK.noneU{M:Value->Prop}(r:aK W h Z .none a)(k:M .none):M a:=(show a=.none from r.E)▸k
theorem aK.intU{i:Int}{M:Value->Prop}(r:aK W h Z (.int i) a)(k:∀t,M (.int i t)):M a:=by
 refine xe r.E λt q=>?_;subst q;exact k t
theorem aK.boolU{i:Bool}{M:Value->Prop}(r:aK W h Z (.bool i) a)(k:M (.bool i)):M a:=(show a=.bool i from r.E)▸k
theorem aK.strU{i:String}{M:Value->Prop}(r:aK W h Z (.str i) a)(k:∀t,M (.str (Str.ofString i) t)):M a:=by
 refine xe r.E λt q=>?_;subst q;exact k t
theorem aK.tupU{M:Value->Prop}(r:aK W h Z (.tup l) a)(k:∀a o items ep,h.get? a=some o->o.cls=.type "tuple"->o.data=.seq items ep->(o.dict=Option.none/\o.slots=#[]/\¬W.priv a)->bo W h Z l items.toList->M (.ref a)):M a:=by
 obtain ⟨a,o,items,ep,rfl,p,q,r,s,t⟩:=r.E;exact k a o items ep p q r s t
end
theorem Eo(s:String):PyData.strOk (Str.ofString s)=true:=by
 rw [Str.ofString_eq_toList];unfold PyData.strOk;rw [Array.all_eq_true'];intro x hx;simp only [List.mem_toArray,List.mem_map] at hx;refine bO hx λc z_ q=>?_;subst q;have:=c.valid;simp only [decide_eq_true_eq];rcases this with h | h
 ·exact aQ h (by decide)
 ·exact h.2
theorem V.py_lay(v:V):v.dat=true->v.py.canLay0=true :=
 V.rec (motive_1:=λv=>v.dat=true->v.py.canLay0=true) (motive_2:=λl=>V.dats l=true->PyData.canLayAll0 (V.pys l)=true) (λz_=>rfl) (λz_ h=>bF h) (λz_ z_=>rfl) (λs z_=>Eo s) (λz_ m=>m) (λz_ h=>bF h) (λz_ h=>bF h) (λz_=>rfl)
  (λz_ z_ a b h=>have h:=bj.1 h;Bool.and_eq_true_iff.2 ⟨a h.1,b h.2⟩) v
theorem V.pys_lay(l:List V)(h:V.dats l=true):PyData.canLayAll0 (V.pys l)=true:=V.py_lay (.tup l) h
theorem V.py_dep(v:V):v.py.depth<=v.dep :=
 V.rec (motive_1:=λv=>v.py.depth<=v.dep) (motive_2:=λl=>PyData.depthAll (V.pys l)<=V.deps l) (ay 0) (λz_=>ay 0) (λz_=>ay 0) (λz_=>ay 0) (λz_ m=>Nat.succ_le_succ m) (λz_=>ay 0) (λz_=>ay 0) (ay 0)
  (λz_ z_ a b=>Nat.max_le.mpr ⟨am a (Nat.le_max_left ..),am b (Nat.le_max_right ..)⟩) v
theorem V.pys_dep(l:List V):PyData.depthAll (V.pys l)<=V.deps l:=Nat.le_of_succ_le_succ (V.py_dep (.tup l))
theorem dc{a b:String}(h:Str.ofString a=Str.ofString b):a=b:=by
 rw [Str.ofString_eq_toList,Str.ofString_eq_toList] at h;have e:=congrArg (λx=>x.cps.toList) h;simp only at e;apply String.toList_inj.mp;exact (List.map_inj_right (λx y h=>by
  apply Char.ext;exact UInt32.toNat_inj.mp h)).mp e
theorem V.eqv_iff(x:V):∀y:V,x.dat=true->y.dat=true->(PyData.eqv x.py y.py=true↔x=y) :=
 V.rec (motive_1:=λx=>∀y:V,x.dat=true->y.dat=true->(PyData.eqv x.py y.py=true↔x=y)) (motive_2:=λl=>∀m:List V,V.dats l=true->V.dats m=true->(PyData.eqvAll (V.pys l) (V.pys m)=true↔l=m))
  (λy z_ d=>by
   induction y using V.ind with
   | h0=>exact ⟨λz_=>rfl,λz_=>rfl⟩
   | _=>first | exact bF d | exact V.ff rfl rfl) (λz_ z_ h=>bF h)
  (λi y z_ d=>by
   induction y using V.ind with
   | h2 j=>exact ⟨λq=>congrArg V.int (eq_of_beq q),λq=>by rw [V.int.inj q];exact beq_self_eq_true j⟩
   | _=>first | exact bF d | exact V.ff rfl rfl)
  (λi y z_ d=>by
   induction y using V.ind with
   | h3 j=>exact ⟨λq=>congrArg V.str (dc (eq_of_beq q)),λq=>by rw [V.str.inj q];exact beq_self_eq_true (Str.ofString j)⟩
   | _=>first | exact bF d | exact V.ff rfl rfl)
  (λl m y h d=>by
   induction y using V.ind with
   | ht l'=>exact (m l' h d).trans ⟨congrArg V.tup,V.tup.inj⟩
   | _=>first | exact bF d | exact V.ff rfl rfl)
  (λz_ z_ h=>bF h) (λz_ z_ h=>bF h)
  (λm z_ z_=>by
   cases m with
   | nil=>exact ⟨λz_=>rfl,λz_=>rfl⟩
   | cons=>exact ⟨λq=>bF q,λq=>absurd q.symm (List.cons_ne_nil _ _)⟩)
  (λx l a b m h d=>by
   cases m with
   | nil=>exact ⟨λq=>bF q,λq=>absurd q (List.cons_ne_nil _ _)⟩
   | cons y m =>
    have h:=bj.1 h;have d:=bj.1 d;exact Bool.and_eq_true_iff.trans ((and_congr (a y h.1 d.1) (b m h.2 d.2)).trans ⟨λq=>by rw [q.1,q.2],List.cons.inj⟩)) x
theorem V.eqvs_iff(l m:List V)(h:V.dats l=true)(d:V.dats m=true):PyData.eqvAll (V.pys l) (V.pys m)=true↔l=m :=
 (V.eqv_iff (.tup l) (.tup m) h d).trans ⟨V.tup.inj,congrArg V.tup⟩
mutual
noncomputable def fu(w:World):V->Int
 | .int i=>hashInt i
 | .str s=>hashStr w (Str.ofString s)
 | .tup l=>reduceHash (Builtin.Tuple.tupleHashOf (oO w l))
 | _=>0
noncomputable def oO(w:World):List V->List Int
 | []=>[]
 | v::r=>fu w v::oO w r
end
theorem qJ(w:World):∀l:List V,oO w l=l.map (fu w)
 | []=>rfl
 | v::r=>congrArg _ (qJ w r)
theorem V.dep_le_deps:∀{l:List V} {v:V},v∈l->v.dep<=V.deps l
 | x::r,v,h=>(aO.mp h).elim (λe=>e▸Nat.le_max_left _ _) λh=>am (V.dep_le_deps h) (Nat.le_max_right _ _)
theorem oy{p:Program}{w:World}{E:Value->Shared->Prop}{items:List Value}{β:Type}(r:bo W h Z l items)(f:Value->β->Sem (ForInStep β))(I:List V->β->Shared->Prop)(Q:β->Shared->Prop)
  (turn:∀v a l' b s,v∈l->aK W h Z v a->I (v::l') b s->wpAny (model p w) A (f a b) (λr s'=>match r with | .yield b'=>I l' b' s' | .done b'=>Q b' s') E s) (fin:∀b s,I [] b s->Q b s) (b:β) (s:Shared) (h0:I l b s):wpAny (model p w) A (forIn items b f) Q E s:=by
 refine r.ind (M:=λl' items=>(∀v∈l',v∈l)->∀b s,I l' b s->wpAny (model p w) A (forIn items b f) Q E s) (λz_ b s h0=>?_) (λ{v a l' as} rv _ ih hl b s h0=>?_) (λz_ q=>q) b s h0
 ·rw [List.forIn_nil];exact al (fin b s h0)
 ·rw [List.forIn_cons];refine af (aI (turn v a l' b s (hl v ai) rv h0) (λr s' hr=>?_) λz_ z_ h'=>h')
  cases r with
  | done b'=>exact al hr
  | yield b'=>exact ih (λu q=>hl u (aj _ q)) b' s' hr
theorem IS{u:Nat}(h:u+V.dep (.tup l)<n)(hv:v∈l):u+1+v.dep<n:=ax (by rw [Nat.add_right_comm];exact cn (Nat.succ_le_succ (V.dep_le_deps hv)) u) h
theorem nE(v:V):v.key=true->∀{A:Around} {E:Value->Shared->Prop} {s:Shared} {a:Value} {Q:Int->Shared->Prop},A.units+v.dep<cLine->aK W s.heap Z v a->
  (∀t,Q (fu W.w v) {s with toks:=t})->wpAny (model W.prog W.w) A (pyHash a) Q E s:=by
 induction v using V.ind with
 | h2 i=>exact λ_ {A E s a Q} hu r h=>r.intU (M:=λa=>wpAny _ _ (pyHash a) _ _ _) λt=>wpAny_pyHash_int (h _)
 | h3 x=>exact λ_ {A E s a Q} hu r h=>r.strU (M:=λa=>wpAny _ _ (pyHash a) _ _ _) λt=>wpAny_pyHash_str (h _)
 | ht l ih =>
  intro hk A E s a Q hu r h;refine r.tupU (M:=λa=>wpAny _ _ (pyHash a) _ _ _) λa o items ep ho hc hd hx rs=>?_;have hT:s.TypeIs (.ref a) "tuple":=⟨o,ho,hc⟩
  delta pyHash;refine af (wpAny_cRoomFor_or (.inr (ax (aN _ _) hu)) ?_);refine af (wpAny_specialOf hT F.slot_tuple_hash.lookup ?_);rw [if_neg (by rw [beq_builtin_none];exact ca)];refine af (wpAny_specialOf hT F.slot_tuple_hash.lookup ?_);refine af (wpAny_callSpecialIfBoundUnlessNone?_slot hT F.slot_tuple_hash (wpAny_call_entry F.slot_tuple_hash hT F.entry_tuple_hash ?_ (F.args_tuple_hash_1 _)));show wpAny _ _ (Builtin.Tuple.tupleItemsOf (.ref a) >>=_) _ _ s;refine af (wpAny_tupleItemsOf ho hd (af ?_));rw [<-Array.forIn_toList];refine oy rs _ (λrem (b:Array Int) s'=>b.toList++rem.map (fu W.w)=oO W.w l/\∃t,s'={s with toks:=t}) _ ?_ ?_ _ _ ⟨(qJ W.w l).symm,_,rfl⟩
  ·intro v x l' b s' hv rv hI;refine xe hI.2 λt e=>?_;subst e;exact af (ih v hv (V.keys_iff.mp hk v hv) (s:={s with toks:=t}) (IS hu hv) rv λt'=>al ⟨by rw [Array.toList_push,bi];exact hI.1,t',rfl⟩)
  ·intro b s' hI;refine xe hI.2 λt e=>?_;subst e;have hb:=hI.1;rw [List.map_nil,bn] at hb;show wpAny _ _ (retInt (Builtin.Tuple.tupleHashOf b.toList)) _ _ _;rw [hb];refine wpAny_ret_mkInt ?_;have h:∀t,Q (reduceHash (Builtin.Tuple.tupleHashOf (oO W.w l))) {s with toks:=t}:=h;generalize Builtin.Tuple.tupleHashOf (oO W.w l)=z at h;show wpAny _ _ (if (decide (-(2:Int)^63<=z)&&decide (z<2^63))=true then _ else _) Q E _;unfold reduceHash at h;rcases Classical.em ((decide (-(2:Int)^63<=z)&&decide (z<2^63))=true) with hr | hr
   ·rw [if_pos hr];rw [if_pos hr] at h;exact al (h _)
   ·rw [if_neg hr];rw [if_neg hr] at h;exact af (wpAny_rule (al (h _)))
 | _=>exact bF
open Classical in
theorem qE{x y:V}{E:Value->Shared->Prop}{a b:Value}{Q:Bool->Shared->Prop}(dx:x.dat=true)(dy:y.dat=true)(hu:A.units+x.dep<cLine)
  (rx:aK W s.heap Z x a) (ry:aK W s.heap Z y b) (h:Q (decide (x=y)) s):wpAny (model W.prog W.w) A (eqBool a b) Q E s:=by
 refine SeqAt.eqBoolOverData W.prog W.w A E s a b x.py y.py [] [] Q (rx.reads dx) (ry.reads dy) (V.py_lay x dx) (V.py_lay y dy) ?_ ?_
 ·exact FN hu (V.py_dep x) (ay _)
 ·have:PyData.eqv x.py y.py=decide (x=y):=by
   rw [Bool.eq_iff_iff,decide_eq_true_eq];exact V.eqv_iff x y dx dy
  rw [this];exact h
theorem s7(v:V):v.key=true->∀{n:Nat} {A:Around} {E:Value->Shared->Prop} {s:Shared} {a:Value} {Q:Bool->Shared->Prop},v.dep<=n->aK W s.heap Z v a->Q true s->
  wpAny (model W.prog W.w) A (eqIsQuiet n a) Q E s:=by
 induction v using V.ind with
 | h2 i=>exact λ_ {n A E s a Q} hu r h=>r.intU (M:=λa=>wpAny _ _ (eqIsQuiet _ a) _ _ _) λt=>by rw [eqIsQuiet_byValue _ rfl];exact al h
 | h3 x=>exact λ_ {n A E s a Q} hu r h=>r.strU (M:=λa=>wpAny _ _ (eqIsQuiet _ a) _ _ _) λt=>by rw [eqIsQuiet_byValue _ rfl];exact al h
 | ht l ih =>
  intro hk n A E s a Q hn r h
  cases n with
  | zero=>cases hn
  | succ n =>
  refine r.tupU (M:=λa=>wpAny _ _ (eqIsQuiet _ a) _ _ _) λa o items ep ho hc hd hx rs=>?_;have hT:s.TypeIs (.ref a) "tuple":=⟨o,ho,hc⟩
  unfold eqIsQuiet;refine af (wpAny_specialOf hT F.slot_tuple_eq.lookup ?_);refine af (wpAny_isInstance hT isSubtype_tuple_tuple ?_);dsimp only [Bool.not_true,Bool.false_eq_true,if_false];refine af (wpAny_seqItems ho hd (af ?_));rw [<-Array.forIn_toList];refine oy rs _ (λz_ r s'=>r.1=none/\s'=s) _ ?_ ?_ _ _ ⟨rfl,rfl⟩
  ·intro v x l' b s' hv rv hI;cases hI.2;refine af (ih v hv (V.keys_iff.mp hk v hv) (am (V.dep_le_deps hv) (Nat.le_of_succ_le_succ hn)) rv ?_);skip;exact al ⟨rfl,rfl⟩
  ·intro b s' hI;obtain ⟨r1,r2⟩:=b;cases hI.2;cases hI.1;exact al h
 | _=>exact bF
inductive cX(W:Wd)(h:Heap)(Z:Rho):List (V×V)->List DictEntry->Prop
 | nil:cX W h Z [] []
 | cons {k v:V} {a b:Value} {l:List (V×V)} {es:List DictEntry}:k.key=true->k.dep<=6->aK W h Z k a->aK W h Z v b->cX W h Z l es->cX W h Z ((k,v)::l) (⟨fu W.w k,a,b⟩::es)
inductive ic(W:Wd)(h:Heap)(Z:Rho):List (String×V)->List DictEntry->Prop
 | nil:ic W h Z [] []
 | cons {x:String} {t:Tok} {i:Int} {v:V} {b:Value} {l:List (String×V)} {es:List DictEntry}:aK W h Z v b->ic W h Z l es->ic W h Z ((x,v)::l) (⟨i,.str (Str.ofString x) t,b⟩::es)
noncomputable def ml(W:Wd)(h:Heap)(Z:Rho)(p:Addr×Addr):Ob->Prop
 | .list l=>p.2=p.1/\∃items ep,h.get? p.1=some ⟨.type "list",none,.seq items ep,#[]⟩/\bo W h Z l items.toList
 | .dict l ep=>p.2=p.1/\(∃es,h.get? p.1=some ⟨.type "dict",none,.dict es ep,#[]⟩/\cX W h Z l es.toList)/\(l.map (·.1)).Nodup
 | .inst c l=>∃C es n,W.cls c=some C/\h.get? p.1=some (instObj C p.2)/\h.get? p.2=some (dictOf es n)/\ic W h Z l es/\(l.map (·.1)).Nodup
theorem cX.mono{W:Wd}{h h':Heap}{Z ρ':Rho}(k:bv W h h')(p:Z <+:ρ'){l:List (V×V)}{es:List DictEntry}(r:cX W h Z l es):cX W h' ρ' l es:=by
 induction r with
 | nil=>exact .nil
 | cons a b c d _ ih=>exact .cons a b (c.mono k p) (d.mono k p) ih
theorem ic.mono{W:Wd}{h h':Heap}{Z ρ':Rho}(k:bv W h h')(p:Z <+:ρ'){l:List (String×V)}{es:List DictEntry}(r:ic W h Z l es):ic W h' ρ' l es:=by
 induction r with
 | nil=>exact .nil
 | cons a _ ih=>exact .cons (a.mono k p) ih
theorem ml.mono{W:Wd}{h h':Heap}{Z ρ':Rho}{p:Addr×Addr}{o:Ob}(k:bv W h h')(hp:Z <+:ρ')(h1:∀ob,h.get? p.1=some ob->h'.get? p.1=some ob)(h2:∀ob,h.get? p.2=some ob->h'.get? p.2=some ob)
  (r:ml W h Z p o):ml W h' ρ' p o:=by
 cases o with
 | list l=>refine EQ r λe items ep a b=>?_;exact ⟨e,items,ep,h1 _ a,b.mono k hp⟩
 | dict l ep=>refine o9 r λe q c=>?_;refine bO q λes a b=>?_;exact ⟨e,⟨es,h1 _ a,b.mono k hp⟩,c⟩
 | inst c l=>refine fE r λC es n e a b d f=>?_;exact ⟨C,es,n,e,h1 _ a,h2 _ b,d.mono k hp,f⟩
structure bU(W:Wd)(h:Heap)(Z:Rho)(J:Hp):Prop where
 len:Z.length=J.length
 ob:∀(n:Nat) (o:Ob) (p:Addr×Addr),J[n]?=some o->Z[n]?=some p->ml W h Z p o
 apart:∀(m n:Nat) (p q:Addr×Addr),m≠n->Z[m]?=some p->Z[n]?=some q->p.1≠q.1/\p.1≠q.2/\p.2≠q.1/\p.2≠q.2
 new:∀(n:Nat) (p:Addr×Addr),Z[n]?=some p->W.h₀.objs.size<=p.1/\W.h₀.objs.size<=p.2
 size:W.h₀.objs.size<=h.objs.size
 top:∀a o,W.h₀.get? a=some o->h.get? a=some o
 priv:∀a,W.priv a->∃o,h.get? a=some o/\sP o
theorem bU.at(R:bU W h Z J){o:Ob}(e:J[n]?=some o):∃p,Z[n]?=some p/\ml W h Z p o:=by
 have:n<Z.length:=by rw [R.len];exact (aE.mp e).1
 exact ⟨Z[n],aA this,R.ob n o _ e (aA this)⟩
theorem bU.alive(R:bU W h Z J)(e:Z[n]?=some p):∃o,J[n]?=some o/\ml W h Z p o:=by
 have:n<J.length:=by rw [<-R.len];exact (aE.mp e).1
 exact ⟨J[n],aA this,R.ob n _ p (aA this) e⟩
theorem ml.live{o:Ob}(r:ml W h Z p o):(∃ob,h.get? p.1=some ob/\ob.cls≠.type "tuple")/\(∃ob,h.get? p.2=some ob/\ob.cls≠.type "tuple"):=by
 cases o with
 | list l=>refine EQ r λe items ep a b=>?_;rw [e];exact ⟨⟨_,a,by simp⟩,⟨_,a,by simp⟩⟩
 | dict l ep=>refine o9 r λe q c=>?_;refine bO q λes a b=>?_;rw [e];exact ⟨⟨_,a,by simp⟩,⟨_,a,by simp⟩⟩
 | inst c l=>refine cR r λC es n e a b d=>?_;exact ⟨⟨_,a,by simp⟩,⟨_,b,by simp⟩⟩
structure bA(X:Addr->Prop)(Z:Rho)(s:Shared)(ρ':Rho)(s':Shared):Prop where
 pre:Z <+:ρ'
 fresh:∀(n:Nat) (p:Addr×Addr),Z.length<=n->ρ'[n]?=some p->s.heap.objs.size<=p.1/\s.heap.objs.size<=p.2
 keep:∀a o,s.heap.get? a=some o->¬X a->(∀(n:Nat) (p:Addr×Addr),Z[n]?=some p->p.1≠a/\p.2≠a)->s'.heap.get? a=some o
 same:∃h t,s'={s with heap:=h,toks:=t}
 size:s.heap.objs.size<=s'.heap.objs.size
noncomputable abbrev gZ:Addr->Prop:=λz_=>False
theorem bA.refl(X:Addr->Prop)(Z:Rho)(s:Shared):bA X Z s Z s:=⟨aD _,λn p h e=>by rw [List.getElem?_eq_none h] at e;simp at e,λz_ z_ e z_ z_=>e,⟨_,_,rfl⟩,ay _⟩
theorem bA.toks(X:Addr->Prop)(Z:Rho)(s:Shared)(t:Nat):bA X Z s Z {s with toks:=t}:=⟨aD _,λn p h e=>by rw [List.getElem?_eq_none h] at e;simp at e,λz_ z_ e z_ z_=>e,⟨_,_,rfl⟩,ay _⟩
theorem bA.trans{X:Addr->Prop}{Z ρ' ρ'':Rho}{s s' s'':Shared}(x:bA X Z s ρ' s')(y:bA X ρ' s' ρ'' s''):bA X Z s ρ'' s'' where
 pre:=x.pre.trans y.pre
 fresh n p h e:=by
  rcases cS n ρ'.length with hn | hn
  ·have e':ρ'[n]?=some ρ'[n]:=aA hn;have:=iA y.pre e';rw [e] at this;cases this;exact x.fresh n _ h e'
  ·have:=y.fresh n p hn e;have:=x.size;omega
 keep a o e hX hp:=y.keep a o (x.keep a o e hX hp) hX λn p en=>by
  rcases cS n Z.length with hn | hn
  ·have e':Z[n]?=some Z[n]:=aA hn;have:=iA x.pre e';rw [en] at this;cases this;exact hp n _ e'
  ·have:=x.fresh n p hn en;have l:=bW e;exact ⟨bC (ak l this.1),bC (ak l this.2)⟩
 same:=by
  refine ER x.same λh t q=>?_;subst q;refine ER y.same λh' t' w=>?_;subst w;exact ⟨h',t',rfl⟩
 size:=am x.size y.size
theorem bA.weaken{Y:Addr->Prop}(x:bA X Z s ρ' s')(h:∀a,X a->Y a):bA Y Z s ρ' s':=⟨x.pre,x.fresh,λa o e hY hp=>x.keep a o e (λq=>hY (h a q)) hp,x.same,x.size⟩
theorem bA.any{Y:Addr->Prop}(x:bA gZ Z s ρ' s'):bA Y Z s ρ' s':=x.weaken λz_ h=>h.elim
theorem bA.drop{Y:Addr->Prop}(x:bA X Z s ρ' s')(h:∀a,X a->Y a\/s.heap.objs.size<=a):bA Y Z s ρ' s':=⟨x.pre,x.fresh,λa o e hY hp=>x.keep a o e (λq=>by
  rcases h a q with q | q
  ·exact hY q
  ·exact absurd (bW e) (ci.mpr q)) hp,x.same,x.size⟩
theorem bA.priv{h':Heap}{t:Nat}(k:∀b o,¬X b->s.heap.get? b=some o->h'.get? b=some o)(hz:s.heap.objs.size<=h'.objs.size):bA X Z s Z {s with heap:=h',toks:=t} :=
 ⟨aD _,λn p h e=>by rw [List.getElem?_eq_none h] at e;simp at e,λa o e hX z_=>k a o hX e,⟨_,_,rfl⟩,hz⟩
theorem bA.tup(x:bA X Z s ρ' s')(R:bU W s.heap Z J)(hX:∀a o,X a->s.heap.get? a=some o->¬sP o):bv W s.heap s'.heap:=λa o e c z_ =>
 x.keep a o e (λq=>hX a o q e c) λn p en=>by
 refine bO (R.alive en) λob z_ r=>B3 r.live λw o2 h2 c2=>bO w λo1 h1 c1=>?_;constructor
 ·rintro rfl;rw [e] at h1;cases h1;exact c1 c.1
 ·rintro rfl;rw [e] at h2;cases h2;exact c2 c.1
theorem bA.tup0(x:bA gZ Z s ρ' s')(R:bU W s.heap Z J):bv W s.heap s'.heap:=x.tup R λz_ z_ h=>h.elim
noncomputable def cu(W:Wd)(Z:Rho)(s:Shared)(Q:V->Hp->Prop)(v:Value)(s':Shared):Prop :=
 ∃ρ' σ' a,bA gZ Z s ρ' s'/\bU W s'.heap ρ' σ'/\aK W s'.heap ρ' a v/\Q a σ'
theorem cu.trans{W:Wd}{Z ρa:Rho}{s s₁:Shared}{Q:V->Hp->Prop}{v:Value}{s':Shared}(x:bA gZ Z s ρa s₁)(y:cu W ρa s₁ Q v s'):cu W Z s Q v s':=by
 exact cR y λρ' σ' a b c d e=>⟨ρ',σ',a,x.trans b,c,d,e⟩
section
variable{h':Heap}
theorem DB{a:Addr}{o:Obj}(e:h.get? a=some o)(l:h.objs.size<=n):a≠n:=aW (ak (bW e) l)
theorem bU.keep(R:bU W h Z J)(k:∀a o,h.get? a=some o->h'.get? a=some o)(hz:h.objs.size<=h'.objs.size):bU W h' Z J where
 len:=R.len
 priv a p:=let ⟨o,h1,h2⟩:=R.priv a p;⟨o,k _ _ h1,h2⟩
 ob n o p e ep:=(R.ob n o p e ep).mono (λa o e z_ z_=>k a o e) (aD _) (λz_=>k _ _) (λz_=>k _ _)
 apart:=R.apart
 new:=R.new
 size:=am R.size hz
 top a o e:=k a o (R.top a o e)
theorem bU.notup(R:bU W h Z J){a:Addr}(ep:Z[n]?=some p)(ha:a=p.1\/a=p.2){o:Obj}(e:h.get? a=some o):o.cls≠.type "tuple":=by
 refine bO (R.alive ep) λob z_ r=>B3 r.live λq o2 h2 c2=>bO q λo1 h1 c1=>?_;rcases ha with rfl | rfl
 ·rw [h1] at e;cases e;exact c1
 ·rw [h2] at e;cases e;exact c2
theorem bU.tupkeep(R:bU W h Z J){a:Addr}(ep:Z[n]?=some p)(ha:a=p.1\/a=p.2)(hs:Heap.SameBut a h h'):bv W h h':=λb o e c z_=>by
 have:b≠a:=λq=>R.notup ep ha (q▸e) c.1;rw [hs.2 b this];exact e
theorem bU.upd(R:bU W h Z J){o':Ob}{a:Addr}(ep:Z[n]?=some p)(ha:a=p.1\/a=p.2)(hs:Heap.SameBut a h h')
  (r:ml W h' Z p o'):bU W h' Z (J.set n o') where
 len:=by rw [bE];exact R.len
 ob m o q e eq:=by
  refine Or.elim (Classical.em (m=n)) (λhm=>?_) (λhm=>?_)
  ·subst hm;rw [ep] at eq;cases eq;have:m<J.length:=by rw [<-R.len];exact (aE.mp ep).1
   rw [List.getElem?_set_self this] at e;cases e;exact r
  ·rw [List.getElem?_set_ne (bg hm)] at e;have:=R.apart m n q p hm eq ep;refine (R.ob m o q e eq).mono (R.tupkeep ep ha hs) (aD _) (λob h1=>?_) (λob h1=>?_)
   ·rw [hs.2 _ (by rcases ha with rfl | rfl;exact this.1;exact this.2.1)];exact h1
   ·rw [hs.2 _ (by rcases ha with rfl | rfl;exact this.2.2.1;exact this.2.2.2)];exact h1
 apart:=R.apart
 new:=R.new
 size:=by rw [hs.1];exact R.size
 priv b p:=by
  refine bO (R.priv b p) λo h1 h2=>?_;have:b≠a:=λq=>R.notup ep ha (q▸h1) h2.1;exact ⟨o,(hs.2 b this).trans h1,h2⟩
 top b o e:=by
  have:=R.new n p ep;rw [hs.2 b (by rcases ha with rfl | rfl;exact DB e this.1;exact DB e this.2)];exact R.top b o e
theorem lO{t:Nat}{a:Addr}(ep:Z[n]?=some p)(ha:a=p.1\/a=p.2)(hs:Heap.SameBut a s.heap h'):bA gZ Z s Z {s with heap:=h',toks:=t} where
 pre:=aD _
 fresh m q hm e:=by rw [List.getElem?_eq_none hm] at e;exact cr e
 keep b o e _ hb:=by
  have:=hb n p ep;rw [hs.2 b (by rintro rfl;rcases ha with rfl | rfl;exact this.1 rfl;exact this.2 rfl)];exact e
 same:=⟨_,_,rfl⟩
 size:=by show _<=h'.objs.size;rw [hs.1];exact ay _
theorem bU.push(R:bU W h Z J){o:Ob}{ob:Obj}(r:ml W (h.push ob) (Z++[(h.objs.size,h.objs.size)]) (h.objs.size,h.objs.size) o) :
  bU W (h.push ob) (Z++[(h.objs.size,h.objs.size)]) (J++[o]) where
 len:=by simp [R.len]
 ob n o' p e ep:=by
  refine Or.elim (cS n J.length) (λhn=>?_) (λhn=>?_)
  ·rw [au hn] at e;rw [au (by rw [R.len];exact hn)] at ep;exact (R.ob n o' p e ep).mono (λa o e z_ z_=>aJ _ e) (cw ..) (λz_ e=>aJ _ e) (λz_ e=>aJ _ e)
  ·have:n=J.length:=by
    have:=(aE.mp e).1;simp at this;omega
   subst this;rw [aL (ay _)] at e;rw [aL (by rw [R.len];exact ay _),R.len] at ep;simp at e ep;subst e ep;exact r
 apart m n p q hmn ep eq:=by
  have old:∀(m:Nat) (p:Addr×Addr),m<Z.length->(Z++[(h.objs.size,h.objs.size)])[m]?=some p->p.1<h.objs.size/\p.2<h.objs.size:=λm p hm e=>by
   rw [au hm] at e;exact bO (R.alive e) λob z_ r=>B3 r.live λw o2 h2 z_=>bO w λo1 h1 z_=>⟨bW h1,bW h2⟩
  have newp:∀(m:Nat) (p:Addr×Addr),¬m<Z.length->(Z++[(h.objs.size,h.objs.size)])[m]?=some p->m=Z.length/\p=(h.objs.size,h.objs.size):=λm p hm e=>by
   have l:=(aE.mp e).1;simp at l;have:m=Z.length:=by omega
   subst this;rw [aL (ay _)] at e;simp at e;exact ⟨rfl,e.symm⟩
  by_cases hm:m<Z.length<;>rcases Classical.em (n<Z.length) with hn | hn
  ·rw [au hm] at ep;rw [au hn] at eq;exact R.apart m n p q hmn ep eq
  ·refine xa (newp n q hn eq) λz_ x=>?_;subst x;have:=old m p hm ep;exact ⟨aW this.1,aW this.1,aW this.2,aW this.2⟩
  ·refine xa (newp m p hm ep) λz_ y=>?_;subst y;have:=old n q hn eq;exact ⟨bC this.1,bC this.2,bC this.1,bC this.2⟩
  ·exact absurd ((newp m p hm ep).1.trans (newp n q hn eq).1.symm) hmn
 new n p ep:=by
  refine Or.elim (cS n Z.length) (λhn=>?_) (λhn=>?_)
  ·rw [au hn] at ep;exact R.new n p ep
  ·have l:=(aE.mp ep).1;simp at l;have:n=Z.length:=by omega
   subst this;rw [aL (ay _)] at ep;simp at ep;subst ep;exact ⟨R.size,R.size⟩
 size:=by rw [bN];exact bT R.size
 priv a p:=let ⟨o,h1,h2⟩:=R.priv a p;⟨o,aJ _ h1,h2⟩
 top a o e:=aJ _ (R.top a o e)
theorem BT{t:Nat}{ob:Obj}:bA gZ Z s (Z++[(s.heap.objs.size,s.heap.objs.size)]) {s with heap:=s.heap.push ob,toks:=t} where
 pre:=cw ..
 fresh n p hn e:=by
  rw [aL hn] at e;have:n-Z.length=0:=by
   have:=(aE.mp e).1;simp at this;omega
  rw [this] at e;simp at e;subst e;exact ⟨ay _,ay _⟩
 keep a o e _ _:=aJ _ e
 same:=⟨_,_,rfl⟩
 size:=by show _<=(s.heap.push ob).objs.size;rw [bN];exact Nat.le_succ _
theorem cW{t:Nat}(k:∀a o,s.heap.get? a=some o->h'.get? a=some o)(hz:s.heap.objs.size<=h'.objs.size):bA gZ Z s Z {s with heap:=h',toks:=t} where
 pre:=aD _
 fresh m q hm e:=by rw [List.getElem?_eq_none hm] at e;exact cr e
 keep b o e _ _:=k b o e
 same:=⟨_,_,rfl⟩
 size:=hz
end
mutual
noncomputable def V.deq:V->V->Bool
 | .none,y=>match y with | .none=>true | _=>false
 | .bool a,y=>match y with | .bool b=>a==b | _=>false
 | .int a,y=>match y with | .int b=>decide (a=b) | _=>false
 | .str a,y=>match y with | .str b=>decide (a=b) | _=>false
 | .tup l,y=>match y with | .tup m=>V.deqs l m | _=>false
 | .obj a,y=>match y with | .obj b=>decide (a=b) | _=>false
 | .ints a,y=>match y with | .ints b=>decide (a=b) | _=>false
noncomputable def V.deqs:List V->List V->Bool
 | [],m=>match m with | []=>true | _=>false
 | x::l,m=>match m with | []=>false | y::m=>match V.deq x y with | true=>V.deqs l m | false=>false
end
theorem V.deqs_cons(x y:V)(l m:List V):V.deqs (x::l) (y::m)=(V.deq x y&&V.deqs l m):=by
 show (match V.deq x y with | true=>V.deqs l m | false=>false)=_;cases V.deq x y<;>rfl
theorem V.deq_self(x:V):V.deq x x=true :=
 V.rec (motive_1:=λx=>V.deq x x=true) (motive_2:=λl=>V.deqs l l=true) rfl (λa=>beq_self_eq_true a) (λz_=>bp rfl) (λz_=>bp rfl) (λz_ m=>m) (λz_=>bp rfl) (λz_=>bp rfl) rfl
  (λx l a b=>(V.deqs_cons x x l l).trans (Bool.and_eq_true_iff.2 ⟨a,b⟩)) x
theorem V.deq_eq(x:V):∀y:V,V.deq x y=true->x=y :=
 V.rec (motive_1:=λx=>∀y:V,V.deq x y=true->x=y) (motive_2:=λl=>∀m,V.deqs l m=true->l=m)
  (λy h=>by induction y using V.ind with | h0=>rfl | _=>exact bF h)
  (λa y h=>by induction y using V.ind with | h1=>exact congrArg V.bool (eq_of_beq h) | _=>exact bF h)
  (λa y h=>by induction y using V.ind with | h2=>exact congrArg V.int (aB h) | _=>exact bF h)
  (λa y h=>by induction y using V.ind with | h3=>exact congrArg V.str (aB h) | _=>exact bF h)
  (λa m y h=>by induction y using V.ind with | ht l=>exact congrArg V.tup (m l h) | _=>exact bF h)
  (λa y h=>by induction y using V.ind with | h4=>exact congrArg V.obj (aB h) | _=>exact bF h)
  (λa y h=>by induction y using V.ind with | h5=>exact congrArg V.ints (aB h) | _=>exact bF h)
  (λm h=>by cases m with | nil=>rfl | cons=>exact bF h)
  (λx l a b m h=>by
   cases m with
   | nil=>exact bF h
   | cons y m =>
    have h:=bj.1 ((V.deqs_cons x y l m).symm.trans h);rw [a y h.1,b m h.2]) x
theorem V.deqs_eq(l m:List V)(h:V.deqs l m=true):l=m:=V.tup.inj (V.deq_eq (.tup l) (.tup m) h)
theorem V.deq_iff{x y:V}:V.deq x y=true↔x=y:=⟨V.deq_eq x y,λe=>e▸V.deq_self x⟩
theorem V.deq_ne{x y:V}(h:x≠y):V.deq x y=false:=by
 cases e:V.deq x y with
 | false=>rfl
 | true=>exact absurd (V.deq_iff.mp e) h
noncomputable def gF(l:List (V×V))(k:V):Option Nat:=l.findIdx? λp=>V.deq p.1 k
noncomputable def getD(l:List (V×V))(k:V):Option V:=(l.find? λp=>V.deq p.1 k).map (·.2)
noncomputable def gK(l:List (V×V))(k v:V):List (V×V) :=
 match gF l k with
 | some i=>l.modify i λp=>(p.1,v)
 | none=>l++[(k,v)]
noncomputable def gq(l:List (V×V))(e:Nat)(k v:V):Ob:=.dict (gK l k v) (if (getD l k).isSome then e else e+1)
noncomputable def r5(l:List (V×V))(k:V):List (V×V) :=
 match gF l k with
 | some i=>l.eraseIdx i
 | none=>l
noncomputable def qA(l:List (V×V))(e:Nat)(k:V):Ob:=.dict (r5 l k) (e+1)
theorem gG{l:List (V×V)}(h:gF l k=some i):∃v,l[i]?=some (k,v):=by
 unfold gF at h;obtain ⟨hl,hp,_⟩:=List.findIdx?_eq_some_iff_getElem.mp h;refine ⟨(l[i]).2,?_⟩;rw [aA hl,<-V.deq_iff.mp hp]
theorem l0{l:List (V×V)}(h:gF l k=none):∀p∈l,p.1≠k:=λp hp e=>by
 unfold gF at h;have:=List.findIdx?_eq_none_iff.mp h p hp;rw [e,V.deq_self] at this;cases this
theorem l7{l:List (V×V)}(hn:(l.map (·.1)).Nodup)(h:l[i]?=some (k,v)):gF l k=some i:=by
 obtain ⟨hl,e⟩:=aE.mp h;refine List.findIdx?_eq_some_iff_getElem.mpr ⟨hl,by rw [e];exact V.deq_self _,λj hj q=>?_⟩;have q:=V.deq_iff.mp q;have h1:(l.map (·.1))[j]?=some k:=by rw [List.getElem?_map,aA (by omega),Option.map_some,q]
 have h2:(l.map (·.1))[i]?=some k:=by rw [List.getElem?_map,h];rfl
 have:=(List.getElem?_inj (by simp;omega) hn).mp (h1.trans h2.symm);omega
theorem tX{l:List (V×V)}(h:∀(j:Nat) (v:V),l[j]?≠some (k,v)):gF l k=none:=by
 cases e:gF l k with
 | none=>rfl
 | some i=>refine xe (gG e) λv hv=>?_;exact absurd hv (h i v)
section
variable{E:Value->Shared->Prop}
theorem cX.length{h:Heap}{l:List (V×V)}{es:List DictEntry}(r:cX W h Z l es):es.length=l.length:=by
 induction r with
 | nil=>rfl
 | cons _ _ _ _ _ ih=>exact congrArg Nat.succ ih
theorem cX.get{l:List (V×V)}(r:cX W h Z l es):∀{n:Nat} {e:DictEntry},es[n]?=some e->
  ∃k v,l[n]?=some (k,v)/\k.key=true/\k.dep<=6/\e.hash=fu W.w k/\aK W h Z k e.key/\aK W h Z v e.val:=by
 induction r with
 | nil=>exact λe=>cr e
 | cons a b c d _ ih =>
  intro n e q;rcases n with _ | n
  ·cases q;exact ⟨_,_,rfl,a,b,rfl,c,d⟩
  ·exact ih (n:=n) q
theorem gX{M:Model}{c:Prop} [Decidable c]{a b:Sem α}{Q:α->Shared->Prop}(h1:c->wpAny M A a Q E s)(h2:¬c->wpAny M A b Q E s):wpAny M A (if c then a else b) Q E s:=by
 refine Or.elim (Classical.em (c)) (λh=>?_) (λh=>?_)
 ·rw [if_pos h];exact h1 h
 ·rw [if_neg h];exact h2 h
noncomputable def vk:V->Nat | .none=>Value.none.ctorIdx | .bool b=>(Value.bool b).ctorIdx | .int i=>(Value.int i 0).ctorIdx | .str s=>(Value.str (Str.ofString s) 0).ctorIdx | .tup _ | .obj _ | .ints _=>(Value.ref 0).ctorIdx
theorem J0{a:Value}(r:aK W h Z v a)(k:Nat.beq a.ctorIdx (vk v)=false):P :=
 absurd (r.ind (M:=λv a=>a.ctorIdx=vk v) rfl (λz_=>rfl) (λz_ z_=>rfl) (λz_ z_=>rfl) (λz_ z_ z_ z_ z_=>rfl) (λz_=>rfl) λz_ z_ z_ z_=>rfl) (Nat.ne_of_beq_eq_false k)
theorem DX{x y:V}{a:Value}(hx:x.key=true)(hy:y.key=true)(r:aK W h Z x a)(q:aK W h Z y a):x=y :=
 V.rec (motive_1:=λx=>∀y a,x.key=true->y.key=true->aK W h Z x a->aK W h Z y a->x=y) (motive_2:=λl=>∀m as,V.keys l=true->V.keys m=true->bo W h Z l as->bo W h Z m as->l=m)
  (λz_ z_ e=>bF e) (λz_ z_ z_ e=>bF e)
  (λi y a z_ hy r q=>by
   refine xe r.E λt w=>?_;subst w
   induction y using V.ind with
   | h2 j=>refine xe q.E λu e=>?_;rw [(Value.int.inj e).1]
   | _=>first | exact bF hy | exact J0 q rfl)
  (λi y a z_ hy r q=>by
   refine xe r.E λt z=>?_;subst z
   induction y using V.ind with
   | h3 j=>refine xe q.E λu e=>?_;exact congrArg V.str (dc (Value.str.inj e).1)
   | _=>first | exact bF hy | exact J0 q rfl)
  (λl ih y a hx hy r q=>by
   refine cv r.E λb o items ep s p1 p2 p3 p4 p5=>?_;subst s
   induction y using V.ind with
   | ht m =>
    refine cv q.E λb' o' items' ep' e q1 q2 q3 q4 q5=>?_;cases e;cases p1.symm.trans q1;cases p3.symm.trans q3;exact congrArg V.tup (ih m _ hx hy p5 q5)
   | _=>first | exact bF hy | exact J0 q rfl)
  (λz_ z_ z_ e=>bF e) (λz_ z_ z_ e=>bF e)
  (λm as z_ z_ r q=>by
   cases (show as=[] from r.E)
   cases m with
   | nil=>rfl
   | cons=>refine dE q.E λz_ z_ e z_=>?_;cases e)
  (λv l a b m as hk hm r q=>by
   refine cU r.E λx as p r1 r2=>?_;subst p
   cases m with
   | nil=>exact absurd (show x::as=[] from q.E) (List.cons_ne_nil _ _)
   | cons y m =>
    refine cU q.E λx' as' e q1 q2=>?_;cases e;have hk:=bj.1 hk;have hm:=bj.1 hm;rw [a y x hk.1 hm.1 r1 q1,b m as hk.2 hm.2 r2 q2]) x y a hx hy r q
theorem Ey{key:Value}{stored:List Value}{Q:Bool->Shared->Prop}(hk:k.key=true)(hdep:k.dep<=8)(hr:aK W s.heap Z k key)
  (hst:∀v∈stored,∃k',k'.key=true/\k'.dep<=6/\aK W s.heap Z k' v) (h:Q false s):wpAny (model W.prog W.w) A (tableMayTell key stored) Q E s:=by
 delta tableMayTell
 split
 ·exact al h
 ·refine af (s7 k hk hdep hr ?_);dsimp only [Bool.not_true,Bool.false_eq_true,if_false];refine af (wpAny_forIn_list _ (λrest r s'=>s'=s/\r=(none,())/\∀v∈rest,∃k',k'.key=true/\k'.dep<=6/\aK W s.heap Z k' v) _ ?_ ?_ _ _ ⟨rfl,rfl,hst⟩)
  ·intro x rest r s' q;refine o9 q λy z hr=>?_;clear q;subst y;subst z;refine cG (hr x ai) λk' a b c=>af (s7 k' a (by omega) c ?_);skip;exact al ⟨rfl,rfl,λv hv=>hr v (aj _ hv)⟩
  ·intro r s' u;refine o9 u λt p z_=>?_;clear u;subst t;subst p;exact al h
noncomputable def B6(l:List (V×V))(k:V)(rest:List Nat)(hit:Option Nat):Prop:=match hit with
 | none=>∀j v,l[j]?=some (k,v)->j∈rest
 | some j=>j∉rest/\∃v,l[j]?=some (k,v)
noncomputable def GT(es:Array DictEntry)(l:List (V×V))(k:V)(h:Int)(s:Shared)(rest:List Nat)(b:Option (Option Nat)×Option Nat)(s':Shared):Prop :=
 s'=s/\b.1=none/\rest.Nodup/\(∀x∈rest,x<es.size/\(es[x]?.map (·.hash))=some h)/\B6 l k rest b.2
section
variable{d:Addr}{o:Obj}{es:Array DictEntry}{ep:Nat}{key:Value}{l:List (V×V)}{Q:Option Nat->Shared->Prop}
theorem cX.at'(he:cX W h Z l es.toList){e:DictEntry}(q:es[i]?=some e):∃k v,l[i]?=some (k,v)/\k.key=true/\k.dep<=6/\e.hash=fu W.w k/\aK W h Z k e.key/\aK W h Z v e.val :=
 he.get (by rw [Array.getElem?_toList];exact q)
theorem zm(he:cX W h Z l es.toList):es.size=l.length:=by rw [<-bf,he.length]
theorem sN(he:cX W h Z l es.toList){j:Nat}(q:l[j]?=some (k,v)):j∈(placesWithHash es.size (λi=>es[i]?.map (·.hash)) (fu W.w k)):=by
 have hj:j<es.size:=by rw [zm he];exact (aE.mp q).1
 have ge:=Array.getElem?_eq_getElem hj;refine dR (he.at' ge) λk' v' e1 z_ z_ e2 z_=>List.mem_filter.mpr ⟨List.mem_range.mpr hj,?_⟩;show (es[j]?.map (·.hash)==some (fu W.w k))=true;cases q.symm.trans e1;rw [ge,Option.map_some,e2];exact beq_self_eq_true _
theorem wy{H:Int}{j:Nat}(q:j∈placesWithHash es.size (λi=>es[i]?.map (·.hash)) H):j<es.size/\(es[j]?.map (·.hash))=some H :=
 ⟨List.mem_range.mp (cL.mp q).1,eq_of_beq (cL.mp q).2⟩
theorem JQ(hn:(l.map (·.1)).Nodup){j:Nat}{v':V}(a:l[i]?=some (k,v))(b:l[j]?=some (k,v')):i=j:=a9 ((l7 hn a).symm.trans (l7 hn b))
theorem mJ(he:cX W s.heap Z l es.toList)(hk:k.key=true)(hr:aK W s.heap Z k key)(hu:A.units+8<cLine){e:DictEntry}{Q':Bool->Shared->Prop}(q:es[i]?=some e)(hQ:∀k' v,l[i]?=some (k',v)->∀b:Bool,(b=true↔k'=k)->Q' b s) :
  wpAny (model W.prog W.w) A (eqBool e.key key) Q' E s:=by
 exact gu (he.at' q) λk' v e1 e2 e3 e4 e5 z_=>qE (V.dat_of_key e2) (V.dat_of_key hk) (ax (cn (am e3 (by decide)) _) hu) e5 hr (hQ k' v e1 _ (@decide_eq_true_iff _ (Classical.propDecidable _)))
theorem Aw(he:cX W s.heap Z l es.toList)(hk:k.key=true)(hr:aK W s.heap Z k key)(hu:A.units+8<cLine)(ho:s.heap.get? d=some o)(hd:o.data=.dict es ep)(hn:(l.map (·.1)).Nodup)(h:Q (gF l k) s) :
  wpAny (model W.prog W.w) A (dictWalkPlain d key (fu W.w k) es (placesWithHash es.size (λi=>es[i]?.map (·.hash)) (fu W.w k))) Q E s:=by
 refine af ?_;refine wpAny_forIn_list _ (λrest b s'=>s'=s/\b=(none,())/\(∀x∈rest,x<es.size/\(es[x]?.map (·.hash))=some (fu W.w k))/\B6 l k rest none) _ ?_ ?_ _ _
  ⟨rfl,rfl,λx hx=>wy hx,λj v q=>sN he q⟩
 ·intro x rest b s' hI;refine mV hI λe1 e2 hall hH=>?_;subst e1;subst e2;have hx:=hall x ai;have ge:=Array.getElem?_eq_getElem hx.1;have hh:(es[x].hash==fu W.w k)=true:=beq_iff_eq.2 (a9 (by have:=hx.2;rw [ge] at this;exact this));rw [ge];refine gX (λz_=>?_) λq=>absurd hh q;refine af (wpAny_dictEpoch ho hd (af (mJ he hk hr hu ge λk' v hkv b hb=>af (wpAny_dictEpoch ho hd ?_))));refine gX (λq=>absurd q (by rw [bne_self_eq_false];decide)) λz_=>gX (λhb'=>?_) λhb'=>?_
  ·cases hb.mp hb';rw [l7 hn hkv] at h;exact af (wpAny_rule (al (al h)))
  ·exact af (wpAny_rule (al ⟨rfl,rfl,λx q=>hall x (aj _ q),λj w q=>(List.mem_cons.1 (hH j w q)).resolve_left λe=>hb' (hb.mpr (Prod.mk.inj (a9 (hkv.symm.trans (e▸q)))).1)⟩))
 ·intro b s' hI;refine mV hI λe1 e2 z_ hH=>?_;subst e1;subst e2;rw [tX λj v q=>nomatch hH j v q] at h;exact al h
theorem CO{x:Str}{t:Tok}(he:cX W s.heap Z l es.toList)(hk:k.key=true)(hr:aK W s.heap Z k (.str x t))(hu:A.units+8<cLine)(ho:s.heap.get? d=some o)(hd:o.data=.dict es ep)(hn:(l.map (·.1)).Nodup)(h:Q (gF l k) s) :
  wpAny (model W.prog W.w) A (foundByValue d (.str x t) es x) Q E s:=by
 have hkx:∃z,k=.str z/\x=Str.ofString z:=by
  induction k using V.ind with
  | h3 z=>refine xe hr.E λu e=>?_;exact ⟨z,rfl,(Value.str.inj e).1⟩
  | _=>exact J0 hr rfl
 refine bO hkx λz hkz hxz=>?_;subst hkz hxz;have isk:∀{i:Nat} {e:DictEntry},es[i]?=some e->(e.key.isStr (Str.ofString z)=true↔∃v,l[i]?=some (.str z,v)):=λ{i e} q=>by
  have ⟨k',v,e1,e2,e3,e4,e5,_⟩:=he.at' q;have hz:e.key.isStr (Str.ofString z)=true↔k'=.str z:=by
   clear q e1 e3 e4
   induction k' using V.ind with
   | h2 i=>refine xe e5.E λu e=>?_;rw [e];exact V.ff rfl rfl
   | h3 y=>refine xe e5.E λu e=>?_;rw [e];exact ⟨λq=>congrArg V.str (dc (eq_of_beq q)),λq=>by cases q;exact beq_self_eq_true _⟩
   | ht l=>refine IU e5.E λb o items ep e z_=>?_;rw [e];exact V.ff rfl rfl
   | _=>exact bF e2
  exact hz.trans ⟨λq=>⟨v,q▸e1⟩,λp=>xe p λv' q=>(Prod.mk.inj (a9 (e1.symm.trans q))).1⟩
 delta foundByValue;generalize hf:es.findIdx? (·.key.isStr (Str.ofString z))=r;rcases r with _ | i
 ·rw [tX λj v q=>?_] at h
  ·exact al h
  ·have hj:j<es.size:=by rw [zm he];exact (aE.mp q).1
   have:=Array.findIdx?_eq_none_iff.mp hf es[j] (Array.getElem_mem hj);rw [(isk (Array.getElem?_eq_getElem hj)).mpr ⟨v,q⟩] at this;cases this
 ·have ⟨hi,hp,_⟩:=Array.findIdx?_eq_some_iff_getElem.mp hf;have ge:=Array.getElem?_eq_getElem hi;refine xe ((isk ge).mp hp) λv hv=>?_;rw [l7 hn hv] at h;dsimp only;rw [ge];refine af (wpAny_dictEpoch ho hd (af (mJ he hk hr hu ge λk' v' hkv b hb=>af (wpAny_dictEpoch ho hd ?_))));refine gX (λq=>absurd q (by rw [bne_self_eq_false];decide)) λz_=>?_;have hb':b=true:=hb.mpr (Prod.mk.inj (a9 (hkv.symm.trans hv))).1;subst hb';exact af (wpAny_rule (al h))
theorem CN(he:cX W s.heap Z l es.toList)(hk:k.key=true)(hr:aK W s.heap Z k key):¬(es.any λe=>e.key==key&&e.hash !=fu W.w k)=true:=by
 rw [<-Array.any_toList,List.any_eq_true];intro q;refine bO q λe hin hc=>?_;clear q;refine xe (List.mem_iff_getElem?.mp hin) λi hi=>?_;refine gu (he.at' (i:=i) (e:=e) (by rw [<-Array.getElem?_toList];exact hi)) λk' v e1 e2 e3 e4 e5 z_=>?_;have hc:=bj.1 hc;rw [eq_of_beq hc.1] at e5;exact bne_iff_ne.1 hc.2 (DX e2 hk e5 hr▸e4)
theorem jN(hu:A.units+8<cLine)(hk:k.key=true)(hdep:k.dep<=6)(hr:aK W s.heap Z k key)(ho:s.heap.get? d=some o)(hd:o.data=.dict es ep)(he:cX W s.heap Z l es.toList)(hn:(l.map (·.1)).Nodup)
  (h:Q (gF l k) s):wpAny (model W.prog W.w) A (dictFind d key (fu W.w k)) Q E s:=by
 have hst:∀v∈(placesWithHash es.size (λi=>es[i]?.map (·.hash)) (fu W.w k)).filterMap (λi=>es[i]?.map (·.key)),∃k',k'.key=true/\k'.dep<=6/\aK W s.heap Z k' v:=λv hv=>by
  exact bO (List.mem_filterMap.mp hv) λi z_ hi=>bO (Option.map_eq_some_iff.1 hi) λe he' hi=>gu (he.at' he') λk' v' z_ a b z_ c z_=>⟨k',a,b,hi▸c⟩
 delta dictFind
 try with_reducible refine aT ?_
 refine af (wpAny_dictEntries ho hd ?_);extract_lets -underBinder jp;have hjp:∀r,wpAny (model W.prog W.w) A (jp r) Q E s:=λr=>by
  skip;dsimp -zeta only [jp];extract_lets -underBinder places stored jp2;refine gX (λz_=>Aw he hk hr hu ho hd hn h) λz_=>?_;have hjp2:∀r,wpAny (model W.prog W.w) A (jp2 r) Q E s:=λr=>by
   skip;dsimp -zeta only [jp2];extract_lets -underBinder jp3;have hjp3:wpAny (model W.prog W.w) A (jp3 false) Q E s:=by
    dsimp -zeta only [jp3];extract_lets -underBinder jp4;refine gX (λq=>absurd q (by rw [Bool.false_and];decide)) λz_=>?_;dsimp -zeta only [jp4];refine af (wpAny_forIn_list _ (GT es l k (fu W.w k) s) _ ?_ ?_ _ _ ⟨rfl,rfl,List.Pairwise.filter _ List.nodup_range,λx hx=>wy hx,λj v q=>sN he q⟩)
    ·intro x rest b s' hI;obtain ⟨b1,hit⟩:=b;refine tz hI λe1 e2 hnd hall hH=>?_;cases e1;subst e2;have hx:=hall x ai;have nd:=List.nodup_cons.1 hnd;have keep:∀hit':Option Nat,B6 l k rest hit'->GT es l k (fu W.w k) s rest (none,hit') s:=λhit' h=>⟨rfl,rfl,nd.2,λx q=>hall x (aj _ q),h⟩
     have ge:=Array.getElem?_eq_getElem hx.1;dsimp -zeta only;rw [ge];have hh:(es[x].hash==fu W.w k)=true:=beq_iff_eq.2 (a9 (by have:=hx.2;rw [ge] at this;exact this));refine gX (λz_=>?_) λq=>absurd hh q;refine af (wpAny_dictEpoch ho hd (af (mJ he hk hr hu ge λk' v hkv b hb=>af (wpAny_dictEpoch ho hd ?_))));extract_lets -underBinder jp5;refine gX (λq=>absurd q (by rw [bne_self_eq_false];decide)) λz_=>?_;dsimp -zeta only [jp5];clear jp5;refine gX (λhb'=>?_) λhb'=>?_
     ·cases hb.mp hb';rcases hit with _ | j
      ·refine gX (λq=>absurd q (by decide)) λz_=>af (wpAny_rule (gX (λz_=>?_) λz_=>al (keep (some x) ⟨nd.1,v,hkv⟩)));rw [l7 hn hkv] at h;exact al (al h)
      ·exact hH.2.elim λv' q=>absurd (JQ hn q hkv▸ai) hH.1
     ·refine af (wpAny_rule (gX (λq=>absurd q (by rw [Bool.false_and];decide)) λz_=>al (keep hit ?_)));rcases hit with _ | j
      ·exact λj w q=>(List.mem_cons.1 (hH j w q)).resolve_left λe=>hb' (hb.mpr (Prod.mk.inj (a9 (hkv.symm.trans (e▸q)))).1)
      ·exact ⟨λm=>hH.1 (aj _ m),hH.2⟩
    ·intro b s' hI;obtain ⟨b1,hit⟩:=b;refine tz hI λe1 e2 z_ z_ hH=>?_;subst e1;subst e2;rcases hit with _ | j
     ·rw [tX λj v q=>nomatch hH j v q] at h;exact al h
     ·have ⟨v,q⟩:=hH.2;rw [l7 hn q] at h;exact al h
   clear_value jp3;exact gX (λz_=>af (al hjp3)) λz_=>af (Ey hk (am hdep (by decide)) hr hst hjp3)
  clear_value jp2;rcases key with _ | _ | _ | _ | _ | _ | _<;>first | exact hjp2 _ | exact gX (λhh=>absurd hh (CN he hk hr)) λz_=>hjp2 _
 clear_value jp;rcases key with _ | _ | _ | _ | _ | _ | _<;>first | exact hjp _ | exact gX (λhstrs=>CO he hk hr hu ho hd hn h) λz_=>hjp _
end
theorem fc{l:List (V×V)}(h:getD l k=some v):∃i,gF l k=some i/\l[i]?=some (k,v):=by
 unfold getD at h;refine bO (b0.mp h) λp hp q=>?_;subst q
 cases e:gF l k with
 | none =>
  have:=l0 e p (List.mem_of_find?_eq_some hp);exact absurd (V.deq_iff.mp (List.find?_some (p:=λp:V×V=>V.deq p.1 k) hp)) this
 | some i =>
  refine ⟨i,rfl,?_⟩;unfold gF at e;rw [List.find?_eq_bind_findIdx?_getElem?,e] at hp;have hk:p.1=k:=by
   obtain ⟨hl,hp',_⟩:=List.findIdx?_eq_some_iff_getElem.mp e;have:l[i]?=some p:=hp;rw [aA hl] at this;cases this;exact V.deq_iff.mp hp'
  have:l[i]?=some p:=hp;rw [this,<-hk]
theorem oM{l:List (V×V)}(h:getD l k=none):gF l k=none:=by
 unfold getD at h
 cases e:gF l k with
 | none=>rfl
 | some i =>
  refine xe (gG e) λv hv=>?_;have:=List.find?_eq_none.mp (Option.map_eq_none_iff.mp h) _ (List.mem_of_getElem? hv);rw [V.deq_self] at this;exact absurd rfl this
theorem jm{l:List (V×V)}(e:gF l k=some i)(h:l[i]?=some (k,v)):getD l k=some v:=by
 cases g:getD l k with
 | none=>rw [oM g] at e;exact cr e
 | some w =>
  refine bO (fc g) λj hj hw=>?_;rw [e] at hj;cases hj;rw [h] at hw;cases hw;rfl
end
section
variable{E:Value->Shared->Prop}
theorem cX.at{h:Heap}{l:List (V×V)}{es:List DictEntry}(r:cX W h Z l es){n:Nat}{k v:V}(e:l[n]?=some (k,v)):∃a b,es[n]?=some ⟨fu W.w k,a,b⟩/\k.key=true/\k.dep<=6/\aK W h Z k a/\aK W h Z v b:=by
 have hn:n<es.length:=by rw [r.length];exact (aE.mp e).1
 refine gu (r.get (aA hn)) λk' v' h1 h2 h3 h4 h5 h6=>?_;rw [e] at h1;cases h1;refine ⟨es[n].key,es[n].val,?_,h2,h3,h5,h6⟩;rw [aA hn,<-h4]
theorem cX.push{a b:Value}(hk:k.key=true)(hd:k.dep<=6)(ra:aK W h Z k a)(rb:aK W h Z v b){l:List (V×V)}(r:cX W h Z l es):cX W h Z (l++[(k,v)]) (es++[⟨fu W.w k,a,b⟩]):=by
 induction r with
 | nil=>exact .cons hk hd ra rb .nil
 | cons x y z u _ ih=>exact .cons x y z u ih
theorem cX.modify{h:Heap}{v:V}{b:Value}(rb:aK W h Z v b){l:List (V×V)}{es:List DictEntry}(i:Nat)(r:cX W h Z l es):cX W h Z (l.modify i λp=>(p.1,v)) (es.modify i λe=>{e with val:=b}):=by
 induction r generalizing i with
 | nil=>cases i<;>exact .nil
 | cons x y z u r ih =>
  cases i with
  | zero=>exact .cons x y z rb r
  | succ i=>exact .cons x y z u (ih i)
theorem cX.erase{l:List (V×V)}(i:Nat)(r:cX W h Z l es):cX W h Z (l.eraseIdx i) (es.eraseIdx i):=by
 induction r generalizing i with
 | nil=>cases i<;>exact .nil
 | cons x y z u r ih =>
  cases i with
  | zero=>exact r
  | succ i=>exact .cons x y z u (ih i)
theorem v4{l:List (V×V)}(k v:V)(hn:(l.map (·.1)).Nodup):((gK l k v).map (·.1)).Nodup:=by
 unfold gK
 cases e:gF l k with
 | some i =>
  have:(l.modify i λp=>(p.1,v)).map (·.1)=l.map (·.1):=by
   clear e hn
   induction l generalizing i with
   | nil=>cases i<;>rfl
   | cons p r ih=>cases i with
    | zero=>simp
    | succ i=>simp [ih]
  rw [this];exact hn
 | none =>
  rw [List.map_append,List.map_cons,List.map_nil];rw [List.nodup_append];refine ⟨hn,by simp,λa ha b hb=>?_⟩;simp at hb;subst hb;refine bO (List.mem_map.mp ha) λp hp q=>?_;subst q;exact l0 e p hp
theorem Dg{l:List (V×V)}(k:V)(hn:(l.map (·.1)).Nodup):((r5 l k).map (·.1)).Nodup:=by
 unfold r5
 cases e:gF l k with
 | some i =>
  exact ((List.eraseIdx_sublist l i).map _).nodup hn
 | none=>exact hn
theorem km{l:List (V×V)}{epo:Nat}{key:Value}{Q:Option Value->Shared->Prop}(hu:A.units+8<cLine)(R:bU W s.heap Z J)(ep:Z[n]?=some p)(e:J[n]?=some (.dict l epo))
  (hk:k.key=true) (hd:k.dep<=6) (rk:aK W s.heap Z k key)
  (h1:∀v b t,getD l k=some v->aK W s.heap Z v b->Q (some b) {s with toks:=t}) (h2:∀t,getD l k=none->Q none {s with toks:=t}) :
  wpAny (model W.prog W.w) A (dictGet p.1 key) Q E s:=by
 refine o9 (R.ob n _ p e ep) λz_ q hn=>bO q λes ho he=>?_;unfold dictGet
 try with_reducible refine aT ?_
 refine af (nE k hk (by omega) rk λt=>af (jN (s:={s with toks:=t}) hu hk hd rk ho rfl he hn ?_))
 cases hi:gF l k with
 | none =>
  refine al (h2 _ ?_)
  cases g:getD l k with
  | none=>rfl
  | some v=>refine bO (fc g) λi h z_=>?_;rw [hi] at h;exact cr h
 | some i =>
  refine xe (gG hi) λv hv=>dR (he.at hv) λa b hb z_ z_ z_ rb=>af (wpAny_dictEntries (s:={s with toks:=t}) ho rfl ?_);rw [<-Array.getElem?_toList,hb];exact al (h1 v b _ (jm hi hv) rb)
theorem qz{l:List (V×V)}{epo:Nat}{key val:Value}{Q:Unit->Shared->Prop}(hu:A.units+8<cLine)(R:bU W s.heap Z J)(ep:Z[n]?=some p)(e:J[n]?=some (.dict l epo))
  (hk:k.key=true) (hd:k.dep<=6) (rk:aK W s.heap Z k key) (rv:aK W s.heap Z v val) (hz:l.length<2^20)
  (h:∀h' t,bU W h' Z (J.set n (gq l epo k v))->bA gZ Z s Z {s with heap:=h',toks:=t}->Q () {s with heap:=h',toks:=t}) :
  wpAny (model W.prog W.w) A (dictSet p.1 key val) Q E s:=by
 refine o9 (R.ob n _ p e ep) λe12 q hn=>bO q λes ho he=>?_;have hlen:es.size=l.length:=by rw [<-bf,he.length]
 have gE:es.size<=sizeLine:=by rw [hlen,sizeLine_eq];omega
 unfold dictSet
 try with_reducible refine aT ?_
 refine af (nE k hk (by omega) rk λt=>?_);unfold dictSetHashed
 try with_reducible refine aT ?_
 refine af (jN (s:={s with toks:=t}) hu hk hd rk ho rfl he hn ?_);have fin:∀(h':Heap) (es':Array DictEntry),Heap.SameBut p.1 s.heap h'->h'.get? p.1=some ⟨.type "dict",none,.dict es' (if (getD l k).isSome then epo else epo+1),#[]⟩->
   (bv W s.heap h'->cX W h' Z (gK l k v) es'.toList)->Q () {s with heap:=h',toks:=t}:=λh' es' hs hg hr =>
  h h' t (R.upd (o':=gq l epo k v) ep (.inl rfl) hs ⟨e12,⟨es',hg,hr (R.tupkeep ep (.inl rfl) hs)⟩,v4 k v hn⟩) (lO ep (.inl rfl) hs)
 cases hi:gF l k with
 | none =>
  have hg:getD l k=none:=by
   cases g:getD l k with
   | none=>rfl
   | some v=>refine bO (fc g) λi h z_=>?_;rw [hi] at h;exact cr h
  rw [hg] at fin;refine af (wpAny_rule (wpAny_updateDictKeys (hz:=gE) (s:={s with toks:=t}) ho rfl ?_));refine fin _ _ (bu ..) (Heap.get?_update_self _ ho rfl) λk'=>?_;unfold gK;rw [hi,Array.toList_push];exact (he.mono k' (aD _)).push hk hd (rk.mono k' (aD _)) (rv.mono k' (aD _))
 | some i =>
  refine xe (gG hi) λv' hv'=>?_;rw [jm hi hv'] at fin;refine af (wpAny_rule (af (wpAny_updateDict (s:={s with toks:=t}) ho rfl (wpAny_point ?_))));refine fin _ _ (bu ..) (Heap.get?_update_self _ ho rfl) λk'=>?_;unfold gK;rw [hi,Array.toList_modify];exact (he.mono k' (aD _)).modify (rv.mono k' (aD _)) i
theorem nu{l:List (V×V)}{epo:Nat}{key val:Value}{Q:Value->Shared->Prop}(hu:A.units+8<cLine)(R:bU W s.heap Z J)(ep:Z[n]?=some p)(e:J[n]?=some (.dict l epo))
  (hk:k.key=true) (hd:k.dep<=6) (rk:aK W s.heap Z k key) (rv:aK W s.heap Z v val) (hz:l.length<2^20)
  (h1:∀u b t,getD l k=some u->aK W s.heap Z u b->Q b {s with toks:=t})
  (h2:getD l k=none->∀h' t,bU W h' Z (J.set n (gq l epo k v))->bA gZ Z s Z {s with heap:=h',toks:=t}->aK W h' Z v val->Q val {s with heap:=h',toks:=t}) :
  wpAny (model W.prog W.w) A (dictSetDefault p.1 key val) Q E s:=by
 refine o9 (R.ob n _ p e ep) λe12 q hn=>bO q λes ho he=>?_;have hlen:es.size=l.length:=by rw [<-bf,he.length]
 have gE:es.size<=sizeLine:=by rw [hlen,sizeLine_eq];omega
 unfold dictSetDefault
 try with_reducible refine aT ?_
 refine af (nE k hk (by omega) rk λt=>?_);refine af (jN (s:={s with toks:=t}) hu hk hd rk ho rfl he hn ?_)
 cases hi:gF l k with
 | none =>
  refine af (wpAny_rule (af (wpAny_updateDictKeys (hz:=gE) (s:={s with toks:=t}) ho rfl (al ?_))));have hg:getD l k=none:=by
   cases g:getD l k with
   | none=>rfl
   | some v=>refine bO (fc g) λi h z_=>?_;rw [hi] at h;exact cr h
  have k':bv W s.heap (s.heap.update p.1 (Obj.mapDictKeys λes=>es.push ⟨fu W.w k,key,val⟩)):=R.tupkeep ep (.inl rfl) (bu ..);refine h2 hg _ t (R.upd (o':=gq l epo k v) ep (.inl rfl) (bu ..) ⟨e12,⟨_,by rw [hg];exact Heap.get?_update_self _ ho rfl,?_⟩,v4 k v hn⟩) (lO ep (.inl rfl) (bu ..)) (rv.mono k' (aD _));unfold gK;rw [hi,Array.toList_push];exact (he.mono k' (aD _)).push hk hd (rk.mono k' (aD _)) (rv.mono k' (aD _))
 | some i =>
  refine xe (gG hi) λv hv=>dR (he.at hv) λa b hb z_ z_ z_ rb=>af (wpAny_dictEntries (s:={s with toks:=t}) ho rfl ?_);rw [<-Array.getElem?_toList,hb];exact af (wpAny_rule (al (h1 v b _ (jm hi hv) rb)))
theorem yV{l:List (V×V)}{epo:Nat}{key:Value}{Q:Option DictEntry->Shared->Prop}(hu:A.units+8<cLine)(R:bU W s.heap Z J)(ep:Z[n]?=some p)(e:J[n]?=some (.dict l epo))
  (hk:k.key=true) (hd:k.dep<=6) (rk:aK W s.heap Z k key) (hz:l.length<2^20) (hg:getD l k=some v)
  (h:∀en h' t,aK W h' Z v en.val->bU W h' Z (J.set n (qA l epo k))->bA gZ Z s Z {s with heap:=h',toks:=t}->Q (some en) {s with heap:=h',toks:=t}) :
  wpAny (model W.prog W.w) A (Builtin.Dict.takeOut p.1 key) Q E s:=by
 refine o9 (R.ob n _ p e ep) λe12 q hn=>bO q λes ho he=>?_;have hlen:es.size=l.length:=by rw [<-bf,he.length]
 have gE:es.size<=sizeLine:=by rw [hlen,sizeLine_eq];omega
 refine bO (fc hg) λi hi hv=>dR (he.at hv) λa b hb z_ z_ z_ rb=>?_;unfold Builtin.Dict.takeOut
 try with_reducible refine aT ?_
 refine af (nE k hk (by omega) rk λt=>?_);refine af (jN (s:={s with toks:=t}) hu hk hd rk ho rfl he hn ?_);rw [hi];refine af (wpAny_dictEntries (s:={s with toks:=t}) ho rfl ?_);rw [<-Array.getElem?_toList,hb];have hlt:i<es.size:=by rw [hlen];exact (aE.mp hv).1
 have k':bv W s.heap (s.heap.update p.1 (Obj.mapDictKeys λes=>es.eraseIdxIfInBounds i)):=R.tupkeep ep (.inl rfl) (bu ..);refine af (wpAny_updateDictKeys (hz:=gE) (hf:=?_) (s:={s with toks:=t}) ho rfl (al (h _ _ t ?_ (R.upd (o':=qA l epo k) ep (.inl rfl) (bu ..) ⟨e12,⟨_,Heap.get?_update_self _ ho rfl,?_⟩,Dg k hn⟩) (lO ep (.inl rfl) (bu ..)))))
 ·exact rb.mono k' (aD _)
 ·unfold r5;rw [hi];have:(es.eraseIdxIfInBounds i).toList=es.toList.eraseIdx i:=by simp [Array.eraseIdxIfInBounds,hlt]
  rw [this];exact (he.mono k' (aD _)).erase i
 ·simp [Array.eraseIdxIfInBounds,hlt];omega
end
inductive GS where | add | sub | mul | div | mod
 deriving DecidableEq
inductive ES where | eq | ne | lt | le | gt | ge | isIn | notIn | isNone | notNone
 deriving DecidableEq
inductive jC where | len | list | tuple | sorted | max | int | isTuple | sum
 deriving DecidableEq
inductive BM where | append | extend | lpop | get | setdefault | dpop
 deriving DecidableEq
inductive oB where | over | enum | range | values
 deriving DecidableEq
inductive Tn where
 | name (x:String)
 | pair (x y:String)
set_option genCtorIdx false
inductive E where
 | const (v:V)
 | var (x:String)
 | glob (x:String) (v:V)
 | attr (e:E) (a:String)
 | sub (e i:E)
 | cut (e:E) (lo hi:Option Int)
 | bin (op:GS) (a b:E)
 | not (e:E)
 | and (l:List E)
 | or (l:List E)
 | cmp (op:ES) (a b:E)
 | chain (a b c:E)
 | ite (c a b:E)
 | tup (l:List E)
 | list (l:List E)
 | dict (l:List (E×E))
 | call (f:String) (l:List E)
 | new (c:String) (l:List E)
 | meth (c:String) (e:E) (m:String) (l:List E)
 | prim (p:jC) (l:List E)
 | bm (b:BM) (e:E) (l:List E)
 | comp (elt:E) (t:Tn) (k:oB) (l:List E) (ifs:List E)
 | comp2 (elt:E) (t:Tn) (k:oB) (l:List E) (t':Tn) (k':oB) (l':List E) (ifs:List E)
variable{e:Mine.E}
inductive T where
 | name (x:String)
 | attr (e:E) (a:String)
 | sub (e i:E)
 | cut (e:E) (hi:Int)
 | names (l:List String)
 | subs (e i e' i':E)
inductive S where
 | expr (e:E)
 | assign (t:T) (e:E)
 | ite (c:E) (a b:List S)
 | whil (c:E) (b:List S)
 | forr (t:Tn) (k:oB) (l:List E) (b:List S)
 | ret (e:E)
 | cont
 | stuck
inductive Fl where
 | next
 | cont
 | ret (v:V)
noncomputable abbrev Loc:=String->Option V
variable{QQ:Fl->Loc->Hp->Prop}{loc loc':Loc}
noncomputable abbrev K1:=V->Hp->Prop
variable{Q:K1}
noncomputable abbrev Hd:=(String×String)->List V->Hp->K1->Prop
variable{C:Hd}
noncomputable def setL(loc:Loc)(x:String)(v:V):Loc:=λy=>if y=x then some v else loc y
noncomputable def big:Nat:=2^20
noncomputable def FK(o:Option Ob)(f:List V->Prop)(g:List (V×V)->Nat->Prop):Prop:=match o with
 | some (.list l)=>f l
 | some (.dict l e)=>g l e
 | _=>False
noncomputable def qN{α:Type}(o:Option Ob)(f:List V->Option α)(g:List (V×V)->Nat->Option α):Option α:=match o with
 | some (.list l)=>f l
 | some (.dict l e)=>g l e
 | _=>none
section
variable{o:Option Ob}{r:α}{m:List (V×V)}{e:Nat}
theorem pN{f:List V->Prop}{g:List (V×V)->Nat->Prop}(h:FK o f g)(k1:∀l,o=some (.list l)->f l->P)(k2:∀l e,o=some (.dict l e)->g l e->P):P:=by
 rcases o with _ | ⟨l | ⟨l,e⟩ | ⟨c,l⟩⟩<;>first | exact k1 l rfl h | exact k2 l e rfl h | exact h.elim
theorem dG{f:List V->Option α}{g:List (V×V)->Nat->Option α}(h:qN o f g=some r)(k1:∀l,o=some (.list l)->f l=some r->P)(k2:∀l e,o=some (.dict l e)->g l e=some r->P):P:=by
 rcases o with _ | ⟨l | ⟨l,e⟩ | ⟨c,l⟩⟩<;>first | exact k1 l rfl h | exact k2 l e rfl h | exact cr h
theorem dZ{f:List V->Prop}{g:List (V×V)->Nat->Prop}(h:o=some (.list l))(q:f l):FK o f g:=h▸q
theorem jU{f:List V->Prop}{g:List (V×V)->Nat->Prop}(h:o=some (.dict m e))(q:g m e):FK o f g:=h▸q
theorem cF{f:List V->Option α}{g:List (V×V)->Nat->Option α}(h:o=some (.list l)):qN o f g=f l:=h▸rfl
theorem fz{f:List V->Option α}{g:List (V×V)->Nat->Option α}(h:o=some (.dict m e)):qN o f g=g m e:=h▸rfl
end
noncomputable def xf(J:Hp):V->Option Bool
 | .none=>some false
 | .bool b=>some b
 | .obj n=>qN J[n]? (λl=>if l.length<big then some (!l.isEmpty) else none) λz_ z_=>none
 | _=>none
noncomputable def V.isObj:V->Bool
 | .obj _=>true
 | _=>false
noncomputable def V.isNone:V->Bool
 | .none=>true
 | _=>false
noncomputable def r6(m:List (V×V))(p:V×V):Bool:=match getD m p.1 with
 | some v=>V.deq p.2 v
 | none=>false
noncomputable def tc(l m:List (V×V)):Bool:=l.length==m.length&&l.all (r6 m)
noncomputable def nA(l:List (V×V)):Bool:=l.all λp=>p.1.key&&p.2.dat&&decide (p.1.dep<=6)&&decide (p.2.dep<=6)
noncomputable def JY(J:Hp)(a b:V):Option Bool:=match a with
 | .obj m=>(match b with
  | .obj n=>qN J[m]? (λx=>qN J[n]? (λy=>if V.dats x&&V.dats y&&decide (V.deps x<=6) then some (V.deq (.tup x) (.tup y)) else none) λz_ z_=>none)
   λx z_=>qN J[n]? (λz_=>none) λy z_=>if nA x&&nA y then some (tc x y) else none
  | _=>none)
 | _=>none
noncomputable def Jl(J:Hp)(a b:V):Option Bool:=if a.dat&&b.dat&&decide (a.dep<=6) then some (V.deq a b) else JY J a b
noncomputable def IZ(J:Hp)(a b:V):Option Bool:=match a with
 | .obj m=>(match b with
  | .obj n=>qN J[m]? (λx=>qN J[n]? (λy=>if V.dats x&&V.dats y&&decide (V.deps x<=6) then some (V.deq (.tup x) (.tup y)) else none) λz_ z_=>none) λz_ z_=>none
  | _=>none)
 | _=>none
noncomputable def Im(J:Hp)(a b:V):Option Bool:=if a.dat&&b.dat&&decide (a.dep<=6) then some (V.deq a b) else IZ J a b
noncomputable def gJ(J:Hp)(y:V):Bool:=match y with
 | .none=>true
 | .obj m=>(qN J[m]? (λz_=>some ()) λz_ z_=>none).isSome
 | _=>false
noncomputable def C2(J:Hp)(x c:V):Option Bool :=
 match c with
 | .tup l=>if x.dat&&V.dats l&&decide (x.dep<=6)&&decide (V.deps l<=6) then some (l.any λy=>V.deq y x) else none
 | .obj n=>qN J[n]? (λl=>if x.dat&&V.dats l&&decide (x.dep<=6)&&decide (V.deps l<=6) then some (l.any λy=>V.deq y x) else if x.isNone&&l.all (gJ J) then some (l.any V.isNone) else none)
   λl z_=>if x.key&&decide (x.dep<=6) then some (getD l x).isSome else none
 | _=>none
noncomputable def Ib(f:Int->Int->Bool)(a b:V):Option Bool:=match a with
 | .int x=>(match b with
  | .int y=>some (f x y)
  | _=>none)
 | _=>none
noncomputable def DA(f:Bool)(b:V):Option Bool:=match b with
 | .none=>some f
 | _=>none
noncomputable def jL(op:ES)(J:Hp)(a b:V):Option Bool :=
 match op with
 | .eq=>Jl J a b
 | .ne=>(Im J a b).map (!·)
 | .isIn=>C2 J a b
 | .notIn=>(C2 J a b).map (!·)
 | .isNone=>DA a.isNone b
 | .notNone=>DA (!a.isNone) b
 | .lt=>match a with
  | .int x=>(match b with
   | .int y=>some (decide (x<y))
   | _=>none)
  | _=>none
 | .le=>match a with
  | .int x=>(match b with
   | .int y=>some (decide (x<=y))
   | _=>none)
  | _=>none
 | .gt=>match a with
  | .int x=>(match b with
   | .int y=>some (decide (y<x))
   | _=>none)
  | _=>none
 | .ge=>match a with
  | .int x=>(match b with
   | .int y=>some (decide (y<=x))
   | _=>none)
  | _=>none
noncomputable def Bc(v:V)(f:Int->Prop):Prop:=match v with | .int i=>f i | _=>False
noncomputable def JL(v:V)(f:Nat->Prop):Prop:=match v with | .obj i=>f i | _=>False
noncomputable def atL(o:Option Ob)(f:List V->Prop):Prop:=FK o f λz_ z_=>False
noncomputable def z9(op:GS)(a b:V)(J:Hp)(Q:K1):Prop :=
 match op with
 | .add=>match a with
  | .int x=>Bc b λy=>Q (.int (x+y)) J
  | .obj m=>JL b λn=>atL J[m]? λx=>atL J[n]? λy=>x.length+y.length<big/\Q (.obj J.length) (J++[.list (x++y)])
  | _=>False
 | .sub=>Bc a λx=>Bc b λy=>Q (.int (x-y)) J
 | .mul=>match a with
  | .int x=>Bc b λy=>(x.natAbs<2^60\/y.natAbs<2^60)/\Q (.int (x*y)) J
  | .obj m=>Bc b λy=>atL J[m]? λx=>0<=y/\y<100/\x.length<100/\Q (.obj J.length) (J++[.list (List.replicate y.toNat x).flatten])
  | _=>False
 | .mod=>Bc a λx=>Bc b λy=>(0<y/\y<2^62)/\Q (.int (x%y)) J
 | .div=>Bc a λx=>Bc b λy=>(0<y/\y<2^30)/\Q (.int (x/y)) J
noncomputable def nC(l:List (String×V))(a:String):Option V:=(l.find? λp=>p.1==a).map (·.2)
noncomputable def kZ:List (String×V)->String->V->List (String×V)
 | [],a,v=>[(a,v)]
 | (x,w)::r,a,v=>if x==a then (x,v)::r else (x,w)::kZ r a v
noncomputable def sw(J:Hp)(v:V)(a:String):Option V :=
 match v with
 | .obj n=>match J[n]? with
  | some (.inst _ l)=>nC l a
  | _=>none
 | _=>none
noncomputable def zE(l:List V)(i:Int):Option V:=if 0<=i then l[i.toNat]? else if 0<=i+l.length then l[(i+l.length).toNat]? else none
noncomputable def DC(v:V)(f:Int->Option V):Option V:=match v with | .int i=>f i | _=>none
noncomputable def jT(J:Hp)(v i:V):Option V :=
 match v with
 | .tup l=>DC i λi=>if l.length<big then zE l i else none
 | .ints l=>DC i λi=>if 0<=i/\i<2^60 then l[i.toNat]?.map .int else none
 | .obj n=>qN J[n]? (λl=>DC i λi=>if l.length<big then zE l i else none) λl z_=>if i.key&&decide (i.dep<=6) then getD l i else none
 | _=>none
noncomputable def xD(l:List V)(lo hi:Option Int):List V :=
 let a:=match lo with | some x=>x.toNat | none=>0
 match hi with
 | some y=>(l.take y.toNat).drop a
 | none=>l.drop a
noncomputable def jl(o:Option Int):Bool:=match o with | some x=>decide (0<=x/\x<100) | none=>true
noncomputable def Jk(v:V)(lo hi:Option Int)(J:Hp)(Q:K1):Prop :=
 jl lo=true/\jl hi=true/\match v with
 | .tup l=>l.length<big/\Q (.tup (xD l lo hi)) J
 | .obj n=>FK J[n]? (λl=>l.length<big/\Q (.obj J.length) (J++[.list (xD l lo hi)])) λz_ z_=>False
 | _=>False
noncomputable def gz(J:Hp)(v:V):Option (List V) :=
 match v with
 | .tup l=>some l
 | .obj n=>qN J[n]? some λz_ z_=>none
 | _=>none
noncomputable def iy(J:Hp)(v:V):Option (List V) :=
 match v with
 | .tup l=>some l
 | .obj n=>qN J[n]? some λl z_=>some (l.map (·.1))
 | _=>none
noncomputable def wj(J:Hp)(v:V):Option (List V) :=
 match v with
 | .obj n=>qN J[n]? some λl z_=>some (l.map (·.1))
 | _=>none
noncomputable def AQ(J:Hp)(v:V):Option Nat :=
 match v with
 | .ints l=>some l.length
 | v=>(iy J v).map List.length
noncomputable def zz:V->V->Bool
 | .int a,.int b=>decide (a<b)
 | .str a,.str b=>decide ((Str.ofString a).cps.toList<(Str.ofString b).cps.toList)
 | .tup [.int a,.int b],.tup [.int c,.int d]=>decide (a<c\/(a=c/\b<d))
 | .tup [.str a,.int b],.tup [.str c,.int d]=>decide ((Str.ofString a).cps.toList<(Str.ofString c).cps.toList\/(a=c/\b<d))
 | _,_=>false
noncomputable def Gj{α:Type}(c:Nat->Nat->Bool):KasT α->α
 | .ret a=>a
 | .ask i j k=>Gj c (k (c i j))
noncomputable def cT(l:List V):List V :=
 if l.length<2 then l else (Gj (λi j=>zz (l.getD i .none) (l.getD j .none)) (kas_sort l.length)).toList.map λi=>l.getD i .none
noncomputable def Js:V->Bool | .int _=>true | _=>false
noncomputable def JZ:V->Bool | .str _=>true | _=>false
noncomputable def xM:V->Bool | .tup [.int _,.int _]=>true | _=>false
noncomputable def AF:V->Bool | .tup [.str _,.int _]=>true | _=>false
noncomputable def cO(l:List V):Bool:=decide (l.length<64)&&(l.all Js ||l.all JZ ||l.all xM ||l.all AF)
noncomputable def V.toInt:V->Int
 | .int i=>i
 | _=>0
noncomputable def pI(l:List V)(f:V->Prop):Prop:=match l with | [w]=>f w | _=>False
noncomputable def KP(l:List V)(p:Prop):Prop:=match l with | []=>p | _=>False
noncomputable def GM(l:List V)(f:V->Prop)(g:V->V->Prop):Prop:=match l with | [v]=>f v | [v,w]=>g v w | _=>False
theorem nY{f:V->Prop}{M:List V->Prop}(h:pI l f)(k:∀w,f w->M [w]):M l:=by
 rcases l with _ | ⟨w,_ | _⟩<;>first | exact k _ h | exact h.elim
theorem FY{p:Prop}{M:List V->Prop}(h:KP l p)(k:p->M []):M l:=by
 rcases l with _ | _<;>first | exact k h | exact h.elim
theorem rQ{f:V->Prop}{g:V->V->Prop}{M:List V->Prop}(h:GM l f g)(k:∀w,f w->M [w])(k2:∀v w,g v w->M [v,w]):M l:=by
 rcases l with _ | ⟨w,_ | ⟨_,_ | _⟩⟩<;>first | exact k _ h | exact k2 _ _ h | exact h.elim
noncomputable def V.isInt(v:V):Bool:=v.ctorIdx==2
noncomputable def dn{α:Type}(o:Option α)(Q:α->Prop):Prop:=match o with
 | some a=>Q a
 | none=>False
noncomputable def jq(p:jC)(l:List V)(J:Hp)(Q:K1):Prop :=
 match p with
 | .len=>pI l λv=>dn (AQ J v) λn=>n<big/\Q (.int n) J
 | .list=>pI l λv=>dn (iy J v) λl=>l.length<big/\Q (.obj J.length) (J++[.list l])
 | .tuple=>pI l λv=>dn (gz J v) λl=>l.length<big/\Q (.tup l) J
 | .sorted=>pI l λv=>dn (wj J v) λl=>cO l=true/\Q (.obj J.length) (J++[.list (cT l)])
 | .max=>GM l (λz_=>False) λv w=>match v with
  | .int a=>(match w with
   | .int b=>Q (.int (max a b)) J
   | _=>False)
  | _=>False
 | .int=>pI l λv=>match v with
  | .int a=>Q (.int a) J
  | .bool b=>Q (.int (if b then 1 else 0)) J
  | _=>False
 | .isTuple=>pI l λv=>match v with
  | .tup _=>Q (.bool true) J
  | .none | .int _ | .str _=>Q (.bool false) J
  | .obj n=>FK J[n]? (λz_=>Q (.bool false) J) λz_ z_=>False
  | _=>False
 | .sum=>pI l λv=>match v with
  | .obj n=>FK J[n]? (λl=>l.length<1000/\(∀v∈l,∃i:Int,v=.int i/\0<=i/\i<2^40)/\Q (.int (l.map V.toInt).sum) J) λz_ z_=>False
  | _=>False
noncomputable def Iu(b:BM)(J:Hp)(v:V):Bool :=
 match v with
 | .obj n=>match b with
  | .append | .extend | .lpop=>(qN J[n]? (λz_=>some ()) λz_ z_=>none).isSome
  | .get | .setdefault | .dpop=>(qN J[n]? (λz_=>none) λz_ z_=>some ()).isSome
 | _=>false
noncomputable def Kb(b:BM)(l:List V)(x:List V)(n:Nat)(J:Hp)(Q:K1):Prop :=
 match b with
 | .append=>pI l λw=>x.length<big/\Q .none (J.set n (.list (x++[w])))
 | .extend=>pI l λw=>dn (gz J w) λy=>x.length+y.length<big/\Q .none (J.set n (.list (x++y)))
 | .lpop=>KP l (x.length<big/\dn x.getLast? λw=>Q w (J.set n (.list x.dropLast)))
 | _=>False
noncomputable def Ka(b:BM)(l:List V)(x:List (V×V))(e n:Nat)(J:Hp)(Q:K1):Prop :=
 match b with
 | .get=>GM l (λk=>(k.key=true/\k.dep<=6)/\Q ((getD x k).getD .none) J) λk w=>(k.key=true/\k.dep<=6)/\Q ((getD x k).getD w) J
 | .setdefault=>GM l (λz_=>False) λk w=>(k.key=true/\k.dep<=6)/\x.length<big/\(match getD x k with
  | some u=>Q u J
  | none=>Q w (J.set n (gq x e k w)))
 | .dpop=>pI l λk=>k.isInt=true/\x.length<big/\dn (getD x k) λu=>Q u (J.set n (qA x e k))
 | _=>False
noncomputable def xp(b:BM)(v:V)(l:List V)(J:Hp)(Q:K1):Prop :=
 match v with
 | .obj n=>FK J[n]? (λx=>Kb b l x n J Q) λx e=>Ka b l x e n J Q
 | _=>False
noncomputable def gc:List (V×V)->List (V×V)->Nat->Ob
 | [],l,e=>.dict l e
 | p::r,l,e=>gc r (gK l p.1 p.2) (if (getD l p.1).isSome then e else e+1)
noncomputable def eA(k:oB)(l:List V)(J:Hp):Option (List V×List Nat) :=
 match k,l with
 | .over,[.tup l]=>some (l,[])
 | .over,[.obj n]=>qN J[n]? (λl=>some (l,[n])) λl z_=>some (l.map (·.1),[n])
 | .enum,[.tup l]=>some (l.zipIdx.map λp=>.tup [.int p.2,p.1],[])
 | .enum,[.obj n]=>qN J[n]? (λl=>some (l.zipIdx.map λp=>.tup [.int p.2,p.1],[n])) λz_ z_=>none
 | .range,[.int n]=>if 0<=n/\n<1000000 then some ((List.range n.toNat).map λ(i:Nat)=>V.int (i:Int),[]) else none
 | .values,[.obj n]=>qN J[n]? (λz_=>none) λl z_=>some (l.map (·.2),[n])
 | _,_=>none
theorem aw{o:Option α}{a:α}{Q:α->Prop}(h:o=some a)(q:Q a):dn o Q:=by rw [h];exact q
theorem vS{o:Option α}{Q:α->Prop}(h:dn o Q):∃a,o=some a/\Q a:=match o,h with
 | some a,h=>⟨a,rfl,h⟩
theorem cf{o:Option α}{Q:α->Prop}{G:Prop}(h:dn o Q)(k:∀a,o=some a->Q a->G):G:=match o,h,k with
 | some a,h,k=>k a rfl h
theorem V.objU{M:V->Prop}{f:V->Prop}(h:f v)(k1:∀n,f (.obj n)->M (.obj n))(n0:¬f .none)(n1:∀b,¬f (.bool b))(n2:∀i,¬f (.int i))(n3:∀i,¬f (.str i))(n4:∀l,¬f (.tup l))(n5:∀l,¬f (.ints l)):M v:=by
 induction v using V.ind with
 | h0=>exact absurd h n0
 | h1 b=>exact absurd h (n1 b)
 | h2 b=>exact absurd h (n2 b)
 | h3 b=>exact absurd h (n3 b)
 | h4 n=>exact k1 n h
 | h5 b=>exact absurd h (n5 b)
 | ht b=>exact absurd h (n4 b)
theorem V.tobU{M:V->Prop}{f:V->Prop}(h:f v)(k0:∀l,f (.tup l)->M (.tup l))(k1:∀n,f (.obj n)->M (.obj n))(n0:¬f .none)(n1:∀b,¬f (.bool b))(n2:∀i,¬f (.int i))(n3:∀i,¬f (.str i))(n5:∀l,¬f (.ints l)):M v:=by
 induction v using V.ind with
 | h0=>exact absurd h n0
 | h1 b=>exact absurd h (n1 b)
 | h2 b=>exact absurd h (n2 b)
 | h3 b=>exact absurd h (n3 b)
 | h4 n=>exact k1 n h
 | h5 b=>exact absurd h (n5 b)
 | ht b=>exact k0 b h
theorem V.intU{M:V->Prop}{f:V->Prop}(h:f v)(k1:∀n,f (.int n)->M (.int n))(n0:¬f .none)(n1:∀b,¬f (.bool b))(n2:∀i,¬f (.obj i))(n3:∀i,¬f (.str i))(n4:∀l,¬f (.tup l))(n5:∀l,¬f (.ints l)):M v:=by
 induction v using V.ind with
 | h0=>exact absurd h n0
 | h1 b=>exact absurd h (n1 b)
 | h2 b=>exact k1 b h
 | h3 b=>exact absurd h (n3 b)
 | h4 n=>exact absurd h (n2 n)
 | h5 b=>exact absurd h (n5 b)
 | ht b=>exact absurd h (n4 b)
theorem V.tupU{M:V->Prop}{f:V->Prop}(h:f v)(k0:∀l,f (.tup l)->M (.tup l))(n0:¬f .none)(n1:∀b,¬f (.bool b))(n2:∀i,¬f (.int i))(n3:∀i,¬f (.str i))(n4:∀n,¬f (.obj n))(n5:∀l,¬f (.ints l)):M v :=
 V.tobU h k0 (λn q=>absurd q (n4 n)) n0 n1 n2 n3 n5
theorem fI{f:Int->Prop}{M:V->Prop}(h:Bc v f)(k:∀i,f i->M (.int i)):M v:=V.intU (f:=λv=>Bc v f) h k id (λz_=>id) (λz_=>id) (λz_=>id) (λz_=>id) (λz_=>id)
theorem pU{f:Nat->Prop}{M:V->Prop}(h:JL v f)(k:∀i,f i->M (.obj i)):M v:=V.objU (f:=λv=>JL v f) h k id (λz_=>id) (λz_=>id) (λz_=>id) (λz_=>id) (λz_=>id)
theorem kj{o:Option Ob}{f:List V->Prop}(h:atL o f)(k:∀l,o=some (.list l)->f l->P):P:=pN h k λz_ z_ z_ h=>h.elim
theorem Cr{op:GS}{M:GS->V->V->Prop}(h:z9 op a b J Q)(k1:∀x y,Q (.int (x+y)) J->M .add (.int x) (.int y))
  (k2:∀m n x y,J[m]?=some (.list x)->J[n]?=some (.list y)->x.length+y.length<big->Q (.obj J.length) (J++[.list (x++y)])->M .add (.obj m) (.obj n))
  (k3:∀x y,Q (.int (x-y)) J->M .sub (.int x) (.int y)) (k4:∀x y:Int,(x.natAbs<2^60\/y.natAbs<2^60)->Q (.int (x*y)) J->M .mul (.int x) (.int y))
  (k5:∀m x (y:Int),J[m]?=some (.list x)->0<=y->y<100->x.length<100->Q (.obj J.length) (J++[.list (List.replicate y.toNat x).flatten])->M .mul (.obj m) (.int y))
  (k6:∀x y:Int,0<y->y<2^62->Q (.int (x%y)) J->M .mod (.int x) (.int y)) (k7:∀x y:Int,0<y->y<2^30->Q (.int (x/y)) J->M .div (.int x) (.int y)):M op a b:=by
 rcases op with _ | _ | _ | _ | _
 ·rcases a with _ | _ | x | _ | _ | m | _<;>first | exact h.elim | skip
  ·exact fI h λy h=>k1 x y h
  ·exact pU h λn h=>kj h λx e h=>kj h λy e' h=>k2 m n x y e e' h.1 h.2
 ·exact fI (M:=λa=>M .sub a b) h λx h=>fI (M:=M .sub (.int x)) h λy h=>k3 x y h
 ·rcases a with _ | _ | x | _ | _ | m | _<;>first | exact h.elim | skip
  ·exact fI h λy h=>k4 x y h.1 h.2
  ·exact fI h λy h=>kj h λx e h=>k5 m x y e h.1 h.2.1 h.2.2.1 h.2.2.2
 ·exact fI (M:=λa=>M .div a b) h λx h=>fI (M:=M .div (.int x)) h λy h=>k7 x y h.1.1 h.1.2 h.2
 ·exact fI (M:=λa=>M .mod a b) h λx h=>fI (M:=M .mod (.int x)) h λy h=>k6 x y h.1.1 h.1.2 h.2
theorem C7{c:Prop} [Decidable c]{r:α}{o:Option α}(h:(if c then o else none)=some r)(k:c->o=some r->P):P:=by
 refine Or.elim (Classical.em (c)) (λq=>?_) (λq=>?_)
 ·rw [if_pos q] at h;exact k q h
 ·rw [if_neg q] at h;exact cr h
theorem IX{c:Bool}{a r:α}{M:α->Prop}(h:(if c=true then some a else none)=some r)(k:c=true->M a):M r:=by
 refine Or.elim (Classical.em (c=true)) (λq=>?_) (λq=>?_)
 ·rw [if_pos q] at h;cases h;exact k q
 ·rw [if_neg q] at h;exact cr h
theorem Ke{c:Bool}{a r:α}{o:Option α}{M:α->Prop}(h:(if c=true then some a else o)=some r)(k:c=true->M a)(k2:o=some r->M r):M r:=by
 refine Or.elim (Classical.em (c=true)) (λq=>?_) (λq=>?_)
 ·rw [if_pos q] at h;cases h;exact k q
 ·rw [if_neg q] at h;exact k2 h
theorem F5{r:α}{M:V->Prop}{f:V->Option α}(h:f v=some r)(k1:∀n,f (.obj n)=some r->M (.obj n))(n0:f .none=none)(n1:∀b,f (.bool b)=none)(n2:∀i,f (.int i)=none)(n3:∀i,f (.str i)=none)(n4:∀l,f (.tup l)=none)(n5:∀l,f (.ints l)=none):M v :=
 V.objU (f:=λv=>f v=some r) h k1 (λq=>cr (n0▸q)) (λb q=>cr (n1 b▸q)) (λb q=>cr (n2 b▸q)) (λb q=>cr (n3 b▸q)) (λb q=>cr (n4 b▸q)) (λb q=>cr (n5 b▸q))
theorem Fp{r:Bool}{M:V->V->Bool->Prop}(h:JY J a b=some r)(k1:∀m n x y,J[m]?=some (.list x)->J[n]?=some (.list y)->(V.dats x&&V.dats y&&decide (V.deps x<=6))=true->M (.obj m) (.obj n) (V.deq (.tup x) (.tup y)))
  (k2:∀m n x e y e',J[m]?=some (.dict x e)->J[n]?=some (.dict y e')->(nA x&&nA y)=true->M (.obj m) (.obj n) (tc x y)):M a b r :=
 F5 (M:=λa=>M a b r) (f:=λa=>JY J a b) h (λm h=>F5 (M:=λb=>M (.obj m) b r) (f:=λb=>JY J (.obj m) b) h (λn h =>
  dG h (λx e h=>dG h (λy e' h=>IX h λc=>k1 m n x y e e' c) λz_ z_ z_ h=>cr h) λx i e h=>dG h (λz_ z_ h=>cr h) λy j e' h=>IX h λc=>k2 m n x i y j e e' c)
  rfl (λz_=>rfl) (λz_=>rfl) (λz_=>rfl) (λz_=>rfl) (λz_=>rfl)) rfl (λz_=>rfl) (λz_=>rfl) (λz_=>rfl) (λz_=>rfl) (λz_=>rfl)
theorem FV{r:Bool}{M:V->V->Bool->Prop}(h:IZ J a b=some r)(k1:∀m n x y,J[m]?=some (.list x)->J[n]?=some (.list y)->(V.dats x&&V.dats y&&decide (V.deps x<=6))=true->M (.obj m) (.obj n) (V.deq (.tup x) (.tup y))):M a b r :=
 F5 (M:=λa=>M a b r) (f:=λa=>IZ J a b) h (λm h=>F5 (M:=λb=>M (.obj m) b r) (f:=λb=>IZ J (.obj m) b) h (λn h =>
  dG h (λx e h=>dG h (λy e' h=>IX h λc=>k1 m n x y e e' c) λz_ z_ z_ h=>cr h) λz_ z_ z_ h=>cr h)
  rfl (λz_=>rfl) (λz_=>rfl) (λz_=>rfl) (λz_=>rfl) (λz_=>rfl)) rfl (λz_=>rfl) (λz_=>rfl) (λz_=>rfl) (λz_=>rfl) (λz_=>rfl)
theorem EC{r:Bool}{M:V->Bool->Prop}(h:xf J a=some r)(k0:M .none false)(k1:∀b,M (.bool b) b)(k2:∀n l,J[n]?=some (.list l)->l.length<big->M (.obj n) (!l.isEmpty)):M a r:=by
 induction a using V.ind with
 | h0=>cases h;exact k0
 | h1 b=>cases h;exact k1 _
 | h4 n=>exact dG h (λl e h=>C7 h λq h=>a9 h▸k2 n l e q) λz_ z_ z_ h=>cr h
 | _=>exact cr h
theorem Fz{c:V}{r:Bool}{M:V->Bool->Prop}(h:C2 J a c=some r)(k0:∀l,(a.dat&&V.dats l&&decide (a.dep<=6)&&decide (V.deps l<=6))=true->M (.tup l) (l.any λy=>V.deq y a))
  (k1:∀n l,J[n]?=some (.list l)->(a.dat&&V.dats l&&decide (a.dep<=6)&&decide (V.deps l<=6))=true->M (.obj n) (l.any λy=>V.deq y a))
  (k2:∀n l,J[n]?=some (.list l)->(a.isNone&&l.all (gJ J))=true->M (.obj n) (l.any V.isNone))
  (k3:∀n l e,J[n]?=some (.dict l e)->(a.key&&decide (a.dep<=6))=true->M (.obj n) (getD l a).isSome):M c r :=
 V.tobU (M:=λc=>M c r) (f:=λc=>C2 J a c=some r) h (λl h=>IX h (k0 l)) (λn h=>dG h (λl e h=>Ke h (k1 n l e) λh=>IX h (k2 n l e)) λl i e h=>IX h (k3 n l i e)) cr (λz_=>cr) (λz_=>cr) (λz_=>cr) (λz_=>cr)
theorem qZ{r:V}{f:Int->Option V}{M:V->Prop}(h:DC v f=some r)(k:∀i,f i=some r->M (.int i)):M v:=V.intU (f:=λv=>DC v f=some r) h k cr (λz_=>cr) (λz_=>cr) (λz_=>cr) (λz_=>cr) (λz_=>cr)
theorem sQ{r:V}{M:V->V->Prop}(h:jT J a b=some r)(k1:∀l i,l.length<big->zE l i=some r->M (.tup l) (.int i))(k2:∀(l:List Int) (i:Int),0<=i/\i<2^60->l[i.toNat]?.map .int=some r->M (.ints l) (.int i))
  (k3:∀n l i,J[n]?=some (.list l)->l.length<big->zE l i=some r->M (.obj n) (.int i)) (k4:∀n l e,J[n]?=some (.dict l e)->(b.key&&decide (b.dep<=6))=true->getD l b=some r->M (.obj n) b):M a b:=by
 induction a using V.ind with
 | ht l _=>exact qZ h λi h=>C7 h (k1 l i)
 | h5 l=>exact qZ h λi h=>C7 h (k2 l i)
 | h4 n=>exact dG h (λl e h=>qZ h λi h=>C7 h (k3 n l i e)) λl i e h=>C7 h (k4 n l i e)
 | _=>exact cr h
theorem xQ{p:List V×List Nat}{M:V->List V×List Nat->Prop}(h:eA .over [a] J=some p)(k0:∀l,M (.tup l) (l,[]))(k1:∀n l,J[n]?=some (.list l)->M (.obj n) (l,[n]))(k2:∀n l e,J[n]?=some (.dict l e)->M (.obj n) (l.map (·.1),[n])):M a p :=
 V.tobU (M:=λa=>M a p) (f:=λa=>eA .over [a] J=some p) h (λl h=>a9 h▸k0 l) (λn h=>dG h (λl e h=>a9 h▸k1 n l e) λl i e h=>a9 h▸k2 n l i e)
  cr (λz_=>cr) (λz_=>cr) (λz_=>cr) (λz_=>cr)
theorem xP{p:List V×List Nat}{M:V->List V×List Nat->Prop}(h:eA .enum [a] J=some p)(k0:∀l,M (.tup l) (l.zipIdx.map λp=>.tup [.int p.2,p.1],[]))(k1:∀n l,J[n]?=some (.list l)->M (.obj n) (l.zipIdx.map λp=>.tup [.int p.2,p.1],[n])):M a p :=
 V.tobU (M:=λa=>M a p) (f:=λa=>eA .enum [a] J=some p) h (λl h=>a9 h▸k0 l) (λn h=>dG h (λl e h=>a9 h▸k1 n l e) λz_ z_ z_ h=>cr h)
  cr (λz_=>cr) (λz_=>cr) (λz_=>cr) (λz_=>cr)
theorem vY{p:List V×List Nat}{M:V->Prop}(h:eA .range [a] J=some p)(k:∀n,eA .range [.int n] J=some p->M (.int n)):M a :=
 V.intU (f:=λa=>eA .range [a] J=some p) h k cr (λz_=>cr) (λz_=>cr) (λz_=>cr) (λz_=>cr) (λz_=>cr)
theorem t8{p:List V×List Nat}{M:V->List V×List Nat->Prop}(h:eA .values [a] J=some p)(k2:∀n l e,J[n]?=some (.dict l e)->M (.obj n) (l.map (·.2),[n])):M a p :=
 V.objU (M:=λa=>M a p) (f:=λa=>eA .values [a] J=some p) h (λn h=>dG h (λz_ z_ h=>cr h) λl i e h=>a9 h▸k2 n l i e)
  cr (λz_=>cr) (λz_=>cr) (λz_=>cr) (λz_=>cr) (λz_=>cr)
theorem pk{M:V->List V->Prop}(h:iy J a=some l)(k0:∀l,M (.tup l) l)(k1:∀n l,J[n]?=some (.list l)->M (.obj n) l)(k2:∀n l e,J[n]?=some (.dict l e)->M (.obj n) (l.map (·.1))):M a l :=
 V.tobU (M:=λa=>M a l) (f:=λa=>iy J a=some l) h (λl h=>a9 h▸k0 l) (λn h=>dG h (λl e h=>a9 h▸k1 n l e) λl i e h=>a9 h▸k2 n l i e)
  cr (λz_=>cr) (λz_=>cr) (λz_=>cr) (λz_=>cr)
theorem Dp{M:V->List V->Prop}(h:wj J a=some l)(k1:∀n l,J[n]?=some (.list l)->M (.obj n) l)(k2:∀n l e,J[n]?=some (.dict l e)->M (.obj n) (l.map (·.1))):M a l :=
 V.objU (M:=λa=>M a l) (f:=λa=>wj J a=some l) h (λn h=>dG h (λl e h=>a9 h▸k1 n l e) λl i e h=>a9 h▸k2 n l i e)
  cr (λz_=>cr) (λz_=>cr) (λz_=>cr) (λz_=>cr) (λz_=>cr)
theorem Dk{M:V->Nat->Prop}(h:AQ J a=some n)(k3:∀l,M (.ints l) l.length)(k0:∀l,M (.tup l) l.length)(k1:∀m l,J[m]?=some (.list l)->M (.obj m) l.length)(k2:∀m l e,J[m]?=some (.dict l e)->M (.obj m) l.length):M a n:=by
 have it:∀{a:V},(iy J a).map List.length=some n->M a n:=λ{a} h=>by
  refine bO (Option.map_eq_some_iff.1 h) λl hl e=>?_;exact pk (M:=λa l=>l.length=n->M a n) hl (λl e=>e▸k0 l) (λm l q e=>e▸k1 m l q) (λm l i q e=>by rw [aM] at e;exact e▸k2 m l i q) e
 induction a using V.ind with
 | h5 l=>cases h;exact k3 l
 | h0=>exact cr h
 | h1=>exact cr h
 | h2=>exact cr h
 | h3=>exact cr h
 | h4 m=>exact it h
 | ht l _=>exact it h
theorem n9{M:V->Prop}(h:gz J a=some l)(k0:M (.tup l))(k1:∀n,J[n]?=some (.list l)->M (.obj n)):M a :=
 V.tobU (M:=M) (f:=λa=>gz J a=some l) h (λl h=>a9 h▸k0) (λn h=>dG h (λl e h=>k1 n (a9 h▸e)) λz_ z_ z_ h=>cr h)
  cr (λz_=>cr) (λz_=>cr) (λz_=>cr) (λz_=>cr)
theorem E9{b:BM}{M:BM->V->List V->Prop}(h:xp b a l J Q)
  (k1:∀n x w,J[n]?=some (.list x)->x.length<big->Q .none (J.set n (.list (x++[w])))->M .append (.obj n) [w])
  (k2:∀n x w y,J[n]?=some (.list x)->gz J w=some y->x.length+y.length<big->Q .none (J.set n (.list (x++y)))->M .extend (.obj n) [w])
  (k3:∀n x w,J[n]?=some (.list x)->x.length<big->x.getLast?=some w->Q w (J.set n (.list x.dropLast))->M .lpop (.obj n) [])
  (k4:∀n x e k,J[n]?=some (.dict x e)->k.key=true->k.dep<=6->Q ((getD x k).getD .none) J->M .get (.obj n) [k])
  (k5:∀n x e k w,J[n]?=some (.dict x e)->k.key=true->k.dep<=6->Q ((getD x k).getD w) J->M .get (.obj n) [k,w])
  (k6:∀n x e k w,J[n]?=some (.dict x e)->k.key=true->k.dep<=6->x.length<big->(match getD x k with | some u=>Q u J | none=>Q w (J.set n (gq x e k w)))->M .setdefault (.obj n) [k,w])
  (k7:∀n x e i u,J[n]?=some (.dict x e)->x.length<big->getD x (.int i)=some u->Q u (J.set n (qA x e (.int i)))->M .dpop (.obj n) [.int i]):M b a l:=by
 refine V.objU (M:=λa=>M b a l) (f:=λa=>xp b a l J Q) h (λn h=>?_) id (λz_=>id) (λz_=>id) (λz_=>id) (λz_=>id) (λz_=>id);refine pN h (λx e h=>?_) λx e q h=>?_
 ·rcases b with _ | _ | _ | _ | _ | _
  ·exact nY h λw h=>k1 n x w e h.1 h.2
  ·exact nY h λw h=>cf h λy hy h=>k2 n x w y e hy h.1 h.2
  ·exact FY h λh=>cf h.2 λy hy q=>k3 n x y e h.1 hy q
  ·exact h.elim
  ·exact h.elim
  ·exact h.elim
 ·rcases b with _ | _ | _ | _ | _ | _
  ·exact h.elim
  ·exact h.elim
  ·exact h.elim
  ·exact rQ h (λw h=>k4 n x e w q h.1.1 h.1.2 h.2) λw w2 h=>k5 n x e w w2 q h.1.1 h.1.2 h.2
  ·exact rQ h (λz_ h=>h.elim) λw w2 h=>k6 n x e w w2 q h.1.1 h.1.2 h.2.1 h.2.2
  ·exact nY h λw h=>V.int.elim (motive_1:=λw=>(x.length<big/\dn (getD x w) λu=>Q u (J.set n (qA x e w)))->M .dpop (.obj n) [w]) w (eq_of_beq h.1) (λi h=>cf h.2 λu hu h'=>k7 n x e i u q h.1 hu h') h.2
noncomputable def b8(ns:List Nat)(σb J:Hp):Prop:=∀n∈ns,J[n]?=σb[n]?
noncomputable def Tn.names:Tn->List String
 | .name x=>[x]
 | .pair x y=>[x,y]
noncomputable def cq(ns:List String)(loc:Loc):Loc:=λy=>if y∈ns\/y=".0" then none else loc y
noncomputable def vo(t:Tn)(v:V)(loc:Loc)(J:Hp):Option Loc :=
 match t with
 | .name x=>some (setL loc x v)
 | .pair x y=>match gz J v with
  | some [a,b]=>some (setL (setL loc x a) y b)
  | _=>none
noncomputable def G9(f:Loc->Hp->(Fl->Loc->Hp->Prop)->Prop)(Q:Fl->Loc->Hp->Prop):Fl->Loc->Hp->Prop:=λfl loc J=>match fl with
 | .ret v=>Q (.ret v) loc J
 | _=>f loc J Q
noncomputable def gh(gd:Hp->Prop)(t:Tn)(body:Loc->Hp->(Fl->Loc->Hp->Prop)->Prop):List V->Loc->Hp->(Fl->Loc->Hp->Prop)->Prop
 | [],loc,J,Q=>gd J/\Q .next loc J
 | x::xs,loc,J,Q=>gd J/\match vo t x loc J with
  | some loc'=>body loc' J (G9 (gh gd t body xs) Q)
  | none=>False
noncomputable def KO(f g:Loc->Hp->(Fl->Loc->Hp->Prop)->Prop)(loc:Loc)(Q:Fl->Loc->Hp->Prop):Bool->Hp->Prop:=λb J=>match b with
 | false=>Q .next loc J
 | true=>f loc J (G9 g Q)
noncomputable def jB(test:Loc->Hp->(Bool->Hp->Prop)->Prop)(body:Loc->Hp->(Fl->Loc->Hp->Prop)->Prop):Nat->Loc->Hp->(Fl->Loc->Hp->Prop)->Prop
 | 0,_,_,_=>False
 | n+1,loc,J,Q=>test loc J (KO body (jB test body n) loc Q)
noncomputable def dH(gd:Hp->Prop)(t:Tn)(loc:Loc)(turn:Nat->Loc->Hp->(List V->Hp->Prop)->Prop)(n:Nat):List V->List V->Hp->(List V->Hp->Prop)->Prop
 | [],acc,J,Q=>gd J/\Q acc J
 | x::xs,acc,J,Q=>gd J/\match vo t x loc J with
  | some loc'=>turn (n+acc.length) loc' J λys J=>n+acc.length+ys.length<big/\dH gd t loc turn n xs (acc++ys) J Q
  | none=>False
noncomputable def wl(J:Hp)(v:V)(c m:String):Option Unit:=match v with
 | .obj n=>match J[n]? with
  | some (.inst c' l)=>match decide (c'=c) with
   | true=>match nC l m with | none=>some () | some _=>none
   | false=>none
  | _=>none
 | _=>none
noncomputable abbrev KB:=Bool->Hp->Prop
noncomputable abbrev KL:=List V->Hp->Prop
noncomputable abbrev KS:=Fl->Loc->Hp->Prop
noncomputable def IY(Q:K1)(J:Hp):V->Prop:=λw=>Q w J
noncomputable def KZ(Q:K1)(J:Hp):Bool->Prop:=λr=>Q (.bool r) J
noncomputable def kB(Q:KB)(J:Hp):Bool->Prop:=λr=>Q r J
noncomputable def k2(f:Hp->K1->Prop)(Za:V->K1):K1:=λv J=>f J (Za v)
noncomputable def G6(a:String)(Q:K1):K1:=λv J=>dn (sw J v a) (IY Q J)
noncomputable def HD(Q:K1):V->K1:=λv j J=>dn (jT J v j) (IY Q J)
noncomputable def Jt(lo hi:Option Int)(Q:K1):K1:=λv J=>Jk v lo hi J Q
noncomputable def JT(op:GS)(Q:K1):V->K1:=λv w J=>z9 op v w J Q
noncomputable def Kk(Q:K1):K1:=λv J=>dn (xf J v) λb=>Q (.bool !b) J
noncomputable def JU(op:ES)(Q:K1):V->K1:=λv w J=>dn (jL op J v w) (KZ Q J)
noncomputable def KQ(f:Hp->K1->Prop)(Q:KB)(Za:V->K1):V->K1:=λu v J=>dn (jL .le J u v) λr=>match r with
 | false=>Q false J
 | true=>f J (Za v)
noncomputable def K3(Q:K1):KB:=λr J=>Q (.bool r) J
noncomputable def FI{X:Type}(f g:Hp->X->Prop)(Q:X):KB:=λr J=>match r with
 | true=>f J Q
 | false=>g J Q
noncomputable def Kn(Q:K1):KL:=λvs J=>Q (.tup vs) J
noncomputable def iV(Q:K1):KL:=λvs J=>Q (.obj J.length) (J++[.list vs])
noncomputable def Ju(Q:K1):List (V×V)->Hp->Prop:=λvs J=>(∀p∈vs,p.1.key=true/\p.1.dep<=6)/\vs.length<big/\Q (.obj J.length) (J++[gc vs [] 0])
noncomputable def G7(C:Hd)(key:String×String)(Q:K1):KL:=λvs J=>C key vs J Q
noncomputable def Jx(Q:K1)(w:V):K1:=λv J=>v=.none/\Q w J
noncomputable def Kj(C:Hd)(c:String)(Q:K1):KL:=λvs J=>C (c,"__init__") (.obj J.length::vs) (J++[.inst c []]) (Jx Q (.obj J.length))
noncomputable def K5(C:Hd)(key:String×String)(v:V)(Q:K1):KL:=λvs J=>C key (v::vs) J Q
noncomputable def Jv(f:Hp->KL->Prop)(C:Hd)(c m:String)(Q:K1):K1:=λv J=>dn (wl J v c m) λz_=>f J (K5 C (c,m) v Q)
noncomputable def Ha(p:jC)(Q:K1):KL:=λvs J=>jq p vs J Q
noncomputable def K4(b:BM)(v:V)(Q:K1):KL:=λvs J=>xp b v vs J Q
noncomputable def K0(f:Hp->KL->Prop)(b:BM)(Q:K1):K1:=λv J=>Iu b J v=true/\f J (K4 b v Q)
noncomputable def Kl(R:KL):K1:=λv J=>R [v] J
noncomputable def JA(f:Hp->K1->Prop)(R:KL):KB:=λb J=>match b with
 | true=>f J (Kl R)
 | false=>R [] J
noncomputable def zu(k:oB)(t:Tn)(loc:Loc)(turn:Nat->Loc->Hp->KL->Prop)(m:Nat)(Q:KL):KL:=λvs J=>dn (eA k vs J) λp=>dH (b8 p.2 J) t loc turn m p.1 [] J Q
noncomputable def dY(g:Loc->Hp->KB->Prop)(f:Loc->Hp->K1->Prop):Nat->Loc->Hp->KL->Prop:=λz_ loc J R=>g loc J (JA (f loc) R)
noncomputable def uf(k:oB)(t:Tn)(h:Loc->Hp->KL->Prop)(turn:Nat->Loc->Hp->KL->Prop):Nat->Loc->Hp->KL->Prop:=λm loc J R=>h loc J (zu k t loc turn m R)
noncomputable def G8(f:Hp->KL->Prop)(Q:KL):K1:=λv J=>f J λvs J=>Q (v::vs) J
noncomputable def Jz(f:Hp->(List (V×V)->Hp->Prop)->Prop)(Q:List (V×V)->Hp->Prop):V->K1:=λa b J=>f J λvs J=>Q ((a,b)::vs) J
noncomputable def Kg(f:Hp->K1->Prop)(Q:K1):K1:=λv J=>dn (xf J v) λb=>match b with
 | true=>f J Q
 | false=>Q v J
noncomputable def K6(f:Hp->K1->Prop)(Q:K1):K1:=λv J=>dn (xf J v) λb=>match b with
 | true=>Q v J
 | false=>f J Q
noncomputable def Dc(Q:KB):K1:=λv J=>dn (xf J v) (kB Q J)
noncomputable def Jy(Q:KB):KB:=λb J=>Q (!b) J
noncomputable def HB(op:ES)(Q:KB):V->K1:=λv w J=>dn (jL op J v w) (kB Q J)
noncomputable def Kf(f:Hp->KB->Prop)(Q:KB):KB:=λb J=>match b with
 | true=>f J Q
 | false=>Q false J
noncomputable def Kh(f:Hp->KB->Prop)(Q:KB):KB:=λb J=>match b with
 | true=>Q true J
 | false=>f J Q
mutual
noncomputable def ev(C:Hd):E->Loc->Hp->K1->Prop
 | .const v,_,J,Q=>Q v J
 | .var x,loc,J,Q=>dn (loc x) (IY Q J)
 | .glob _ v,_,J,Q=>Q v J
 | .attr e a,loc,J,Q=>ev C e loc J (G6 a Q)
 | .sub e i,loc,J,Q=>ev C e loc J (k2 (ev C i loc) (HD Q))
 | .cut e lo hi,loc,J,Q=>ev C e loc J (Jt lo hi Q)
 | .bin op a b,loc,J,Q=>ev C a loc J (k2 (ev C b loc) (JT op Q))
 | .not e,loc,J,Q=>ev C e loc J (Kk Q)
 | .and l,loc,J,Q=>CL C l loc J Q
 | .or l,loc,J,Q=>HW C l loc J Q
 | .cmp op a b,loc,J,Q=>ev C a loc J (k2 (ev C b loc) (JU op Q))
 | .chain a b c,loc,J,Q=>ev C a loc J (k2 (ev C b loc) (KQ (ev C c loc) (K3 Q) (JU .lt Q)))
 | .ite c a b,loc,J,Q=>u3 C c loc J (FI (ev C a loc) (ev C b loc) Q)
 | .tup l,loc,J,Q=>rX C l loc J (Kn Q)
 | .list l,loc,J,Q=>rX C l loc J (iV Q)
 | .dict l,loc,J,Q=>HX C l loc J (Ju Q)
 | .call f l,loc,J,Q=>rX C l loc J (G7 C ("",f) Q)
 | .new c l,loc,J,Q=>rX C l loc J (Kj C c Q)
 | .meth c e m l,loc,J,Q=>ev C e loc J (Jv (rX C l loc) C c m Q)
 | .prim p l,loc,J,Q=>rX C l loc J (Ha p Q)
 | .bm b e l,loc,J,Q=>ev C e loc J (K0 (rX C l loc) b Q)
 | .comp elt t k l ifs,loc,J,Q=>rX C l loc J (zu k t (cq t.names loc) (dY (hO C ifs) (ev C elt)) 0 (iV Q))
 | .comp2 elt t k l t' k' l' ifs,loc,J,Q=>rX C l loc J (zu k t (cq (t.names++t'.names) loc) (uf k' t' (rX C l') (dY (hO C ifs) (ev C elt))) 0 (iV Q))
noncomputable def rX(C:Hd):List E->Loc->Hp->KL->Prop
 | [],_,J,Q=>Q [] J
 | e::r,loc,J,Q=>ev C e loc J (G8 (rX C r loc) Q)
noncomputable def HX(C:Hd):List (E×E)->Loc->Hp->(List (V×V)->Hp->Prop)->Prop
 | [],_,J,Q=>Q [] J
 | (k,e)::r,loc,J,Q=>ev C k loc J (k2 (ev C e loc) (Jz (HX C r loc) Q))
noncomputable def CL(C:Hd):List E->Loc->Hp->K1->Prop
 | [],_,_,_=>False
 | [e],loc,J,Q=>ev C e loc J Q
 | e::e'::r,loc,J,Q=>ev C e loc J (Kg (CL C (e'::r) loc) Q)
noncomputable def HW(C:Hd):List E->Loc->Hp->K1->Prop
 | [],_,_,_=>False
 | [e],loc,J,Q=>ev C e loc J Q
 | e::e'::r,loc,J,Q=>ev C e loc J (K6 (HW C (e'::r) loc) Q)
noncomputable def u3(C:Hd):E->Loc->Hp->KB->Prop
 | .not e,loc,J,Q=>u3 C e loc J (Jy Q)
 | .and l,loc,J,Q=>hO C l loc J Q
 | .or l,loc,J,Q=>ED C l loc J Q
 | .ite c a b,loc,J,Q=>u3 C c loc J (FI (u3 C a loc) (u3 C b loc) Q)
 | .cmp op a b,loc,J,Q=>ev C a loc J (k2 (ev C b loc) (HB op Q))
 | .chain a b c,loc,J,Q=>ev C a loc J (k2 (ev C b loc) (KQ (ev C c loc) Q (HB .lt Q)))
 | .var x,loc,J,Q=>dn (loc x) (IY (Dc Q) J)
 | .attr e a,loc,J,Q=>ev C e loc J (G6 a (Dc Q))
 | .sub e i,loc,J,Q=>ev C e loc J (k2 (ev C i loc) (HD (Dc Q)))
 | .call f l,loc,J,Q=>rX C l loc J (G7 C ("",f) (Dc Q))
 | .prim p l,loc,J,Q=>rX C l loc J (Ha p (Dc Q))
 | _,_,_,_=>False
noncomputable def hO(C:Hd):List E->Loc->Hp->KB->Prop
 | [],_,J,Q=>Q true J
 | e::r,loc,J,Q=>u3 C e loc J (Kf (hO C r loc) Q)
noncomputable def ED(C:Hd):List E->Loc->Hp->KB->Prop
 | [],_,J,Q=>Q false J
 | e::r,loc,J,Q=>u3 C e loc J (Kh (ED C r loc) Q)
end
noncomputable def hJ:List String->List V->Loc->Option Loc
 | [],[],loc=>some loc
 | x::xs,v::vs,loc=>hJ xs vs (setL loc x v)
 | _,_,_=>none
noncomputable def ds(v i w:V)(J:Hp)(Q:Hp->Prop):Prop :=
 match v with
 | .obj n=>FK J[n]? (λl=>Bc i λi=>0<=i/\i<l.length/\l.length<big/\Q (J.set n (.list (l.set i.toNat w)))) λl e=>(i.key=true/\i.dep<=6)/\l.length<big/\Q (J.set n (gq l e i w))
 | _=>False
theorem wU{i w:V}{Q:Hp->Prop}{M:V->V->Prop}(h:ds v i w J Q)(k1:∀n l (i:Int),J[n]?=some (.list l)->0<=i/\i<l.length/\l.length<big/\Q (J.set n (.list (l.set i.toNat w)))->M (.obj n) (.int i))
  (k2:∀n l e,J[n]?=some (.dict l e)->(i.key=true/\i.dep<=6)/\l.length<big/\Q (J.set n (gq l e i w))->M (.obj n) i):M v i :=
 V.objU (M:=λv=>M v i) (f:=λv=>ds v i w J Q) h (λn h=>pN h (λl e h=>fI h λj h=>k1 n l j e h) λl d e h=>k2 n l d e h) id (λz_=>id) (λz_=>id) (λz_=>id) (λz_=>id) (λz_=>id)
noncomputable def IG(a:String)(v:V)(n:Nat)(J:Hp)(Q:Hp->Prop):Option Ob->Prop
 | some (.inst c l)=>l.length<100/\Q (J.set n (.inst c (kZ l a v)))
 | _=>False
noncomputable def Hb(a:String)(v:V)(loc:Loc)(Q:Loc->Hp->Prop):K1:=λu J=>match u with
 | .obj n=>IG a v n J (Q loc) J[n]?
 | _=>False
theorem AM{a:String}{u:V}{Q:Loc->Hp->Prop}{G:Prop}(h:Hb a v loc Q u J)(k:∀n c l,u=.obj n->J[n]?=some (.inst c l)->l.length<100->Q loc (J.set n (.inst c (kZ l a v)))->G):G:=by
 cases u with
 | obj n =>
  have h:IG a v n J (Q loc) J[n]?:=h;generalize e:J[n]?=o at h
  cases o with
  | none=>exact h.elim
  | some o=>cases o with
   | inst c l=>exact k n c l rfl e h.1 h.2
   | _=>exact h.elim
 | _=>exact h.elim
noncomputable def KG(w:V)(loc:Loc)(Q:Loc->Hp->Prop):V->K1:=λu j J=>ds u j w J (Q loc)
noncomputable def Da(v:V)(hi:Int)(loc:Loc)(Q:Loc->Hp->Prop):K1:=λu J=>JL u λn=>JL v λm=>atL J[n]? λl=>atL J[m]? λk=>n≠m/\0<=hi/\hi<100/\l.length+k.length<big/\Q loc (J.set n (.list (k++l.drop hi.toNat)))
noncomputable def JM(v:V)(f:V->V->Prop):Prop:=match v with
 | .tup [a,b]=>f a b
 | _=>False
noncomputable def HP(C:Hd)(t:T)(v:V)(loc:Loc)(J:Hp)(Q:Loc->Hp->Prop):Prop :=
 match t with
 | .name x=>Q (setL loc x v) J
 | .attr e a=>ev C e loc J (Hb a v loc Q)
 | .sub e i=>ev C e loc J (k2 (ev C i loc) (KG v loc Q))
 | .cut e hi=>ev C e loc J (Da v hi loc Q)
 | .names xs=>dn (gz J v) λl=>dn (hJ xs l loc) λloc'=>Q loc' J
 | .subs e i e' i'=>JM v λa b=>ev C e loc J λu J=>ev C i loc J λj J=>ds u j a J λJ =>
   ev C e' loc J λu J=>ev C i' loc J λj J=>ds u j b J λJ=>Q loc J
noncomputable def Jw(Q:KS)(loc:Loc):K1:=λz_ J=>Q .next loc J
noncomputable def t9(C:Hd)(t:T)(Q:KS)(loc:Loc):K1:=λv J=>HP C t v loc J (Q .next)
noncomputable def Km(Q:KS)(loc:Loc):K1:=λv J=>Q (.ret v) loc J
noncomputable def ud(f:Loc->Hp->KS->Prop)(Q:KS):KS:=λfl loc J=>match fl with
 | .next=>f loc J Q
 | fl=>Q fl loc J
noncomputable def Ki(k:oB)(t:Tn)(f:Loc->Hp->KS->Prop)(loc:Loc)(Q:KS):KL:=λvs J=>dn (eA k vs J) λp=>gh (b8 p.2 J) t f p.1 loc J Q
mutual
noncomputable def ex(C:Hd):S->Loc->Hp->KS->Prop
 | .expr e,loc,J,Q=>ev C e loc J (Jw Q loc)
 | .assign t e,loc,J,Q=>ev C e loc J (t9 C t Q loc)
 | .ite c a b,loc,J,Q=>u3 C c loc J (FI (ez C a loc) (ez C b loc) Q)
 | .whil c b,loc,J,Q=>∃n,jB (u3 C c) (ez C b) n loc J Q
 | .forr t k l b,loc,J,Q=>rX C l loc J (Ki k t (ez C b) loc Q)
 | .ret e,loc,J,Q=>ev C e loc J (Km Q loc)
 | .cont,loc,J,Q=>Q .cont loc J
 | .stuck,_,_,_=>False
noncomputable def ez(C:Hd):List S->Loc->Hp->KS->Prop
 | [],loc,J,Q=>Q .next loc J
 | s::r,loc,J,Q=>ex C s loc J (ud (ez C r) Q)
end
structure fK where
 params:List String
 dflts:List V
 body:List S
noncomputable abbrev Tab:=(String×String)->Option fK
noncomputable def jV:List String->List V->Loc
 | x::xs,v::vs=>setL (jV xs vs) x v
 | _,_=>λz_=>none
noncomputable def Fl.val:Fl->V | .ret v=>v | _=>.none
noncomputable def uc(Q:K1):Fl->Loc->Hp->Prop:=λf z_ J=>Q f.val J
noncomputable def GW(F:Tab)(C:Hd):Hd:=λf vs J Q=>∃d,F f=some d/\vs.length<=d.params.length/\d.params.length<=vs.length+d.dflts.length/\
 ez C d.body (jV d.params (vs++d.dflts.drop (vs.length+d.dflts.length-d.params.length))) J (uc Q)
@[irreducible] def aZ (F:Tab) (n:Nat):Hd:=Nat.rec (λz_ z_ z_ z_=>False) (λz_ C=>GW F C) n
theorem xq{F:Tab}:aZ F 0=λz_ z_ z_ z_=>False:=by unfold aZ;rfl
theorem qr{F:Tab}:aZ F (n+1)=GW F (aZ F n):=by unfold aZ;rfl
set_option genCtorIdx true
section
variable{E:Value->Shared->Prop}{c:V}{x:Value}
theorem cu.here(R:bU W s.heap Z J)(r:aK W s.heap Z a x)(h:Q a J):cu W Z s Q x s:=⟨Z,J,a,bA.refl ..,R,r,h⟩
theorem cu.tok(R:bU W s.heap Z J)(t:Nat)(r:aK W s.heap Z a x)(h:Q a J):cu W Z s Q x {s with toks:=t}:=⟨Z,J,a,bA.toks ..,R,r,h⟩
theorem cu.upd{h':Heap}{t:Nat}(S:bA gZ Z s Z {s with heap:=h',toks:=t})(R:bU W h' Z σ')(r:aK W h' Z a x)(h:Q a σ'):cu W Z s Q x {s with heap:=h',toks:=t}:=⟨Z,σ',a,S,R,r,h⟩
theorem cu.list(R:bU W s.heap Z J){l:List V}{items:Array Value}{t:Nat}(r:bo W s.heap Z l items.toList)(h:Q (.obj J.length) (J++[.list l])) :
  cu W Z s Q (.ref s.heap.objs.size) {s with heap:=s.heap.push {cls:=.type "list",data:=.seq items},toks:=t}:=by
 have k:bv W s.heap (s.heap.push {cls:=.type "list",data:=.seq items}):=λz_ z_ e z_ z_=>aJ _ e;have ro:ml W (s.heap.push {cls:=.type "list",data:=.seq items}) (Z++[(s.heap.objs.size,s.heap.objs.size)]) (s.heap.objs.size,s.heap.objs.size) (.list l) :=
  ⟨rfl,items,0,br _ rfl,r.mono k (cw ..)⟩
 refine ⟨_,_,_,BT,R.push ro,.obj (a:=s.heap.objs.size) (d:=s.heap.objs.size) ?_,h⟩;rw [<-R.len,aL (ay _)];simp
theorem cu.tup(R:bU W s.heap Z J){l:List V}{items:Array Value}{t:Nat}(r:bo W s.heap Z l items.toList)(h:Q (.tup l) J) :
  cu W Z s Q (.ref s.heap.objs.size) {s with heap:=s.heap.push {cls:=.type "tuple",data:=.seq items},toks:=t}:=by
 have k:∀a o,s.heap.get? a=some o->(s.heap.push {cls:=.type "tuple",data:=.seq items}).get? a=some o:=λz_ z_ e=>aJ _ e;have z:s.heap.objs.size<=(s.heap.push {cls:=.type "tuple",data:=.seq items}).objs.size:=by rw [bN];exact Nat.le_succ _
 exact ⟨Z,J,_,cW k z,R.keep k z,.tup (br _ rfl) rfl rfl ⟨rfl,rfl,λp=>let ⟨_,h1,_⟩:=R.priv _ p;bh _ (bW h1)⟩ (r.mono (λa o e z_ z_=>k a o e) (aD _)),h⟩
theorem bU.list_at(R:bU W s.heap Z J)(r:aK W s.heap Z (.obj n) x)(e:J[n]?=some (.list l)) :
  ∃p ad,Z[n]?=some p/\p.1=ad/\p.2=ad/\x=.ref ad/\∃items ep,s.heap.get? ad=some ⟨.type "list",none,.seq items ep,#[]⟩/\bo W s.heap Z l items.toList/\items.size=l.length:=by
 refine dE r.E λad d q ep=>?_;subst q;refine EQ (R.ob n _ _ e ep) λh1 items k h2 h3=>?_;simp only at h1;subst h1;exact ⟨_,_,ep,rfl,rfl,rfl,items,k,h2,h3,by rw [<-bf,h3.length]⟩
theorem bU.dict_at(R:bU W s.heap Z J){l:List (V×V)}(r:aK W s.heap Z (.obj n) x){epo:Nat}(e:J[n]?=some (.dict l epo)) :
  ∃p ad,Z[n]?=some p/\p.1=ad/\p.2=ad/\x=.ref ad/\W.h₀.objs.size<=ad/\∃es ep,ep=epo/\s.heap.get? ad=some ⟨.type "dict",none,.dict es ep,#[]⟩/\cX W s.heap Z l es.toList/\es.size=l.length:=by
 refine dE r.E λad d q ep=>?_;subst q;refine o9 (R.ob n _ _ e ep) λh1 w z_=>bO w λes h2 h3=>?_;simp only at h1;subst h1;exact ⟨_,_,ep,rfl,rfl,rfl,(R.new n _ ep).1,es,epo,rfl,h2,h3,by rw [<-bf,h3.length]⟩
theorem bU.inst_at(R:bU W s.heap Z J){cl:String}{l:List (String×V)}(r:aK W s.heap Z (.obj n) x)(e:J[n]?=some (.inst cl l)) :
  ∃p,Z[n]?=some p/\x=.ref p.1/\∃C es k,W.cls cl=some C/\s.heap.get? p.1=some (instObj C p.2)/\s.heap.get? p.2=some (dictOf es k)/\ic W s.heap Z l es:=by
 refine dE r.E λad d q ep=>?_;subst q;exact fE (R.ob n _ _ e ep) λC es k h1 h2 h3 h4 z_=>⟨_,ep,rfl,C,es,k,h1,h2,h3,h4⟩
theorem fH(h:n<big):n<=sizeLine:=by rw [sizeLine_eq];unfold big at h;omega
theorem qp{k:Int}(h:k.natAbs<2^60):Builtin.Int.intBits k<=64:=intBits_le_64 (by omega) (by omega)
theorem s9{h:Heap}{l:List V}{vs:List Value}(r:bo W h Z l vs):∀n:Nat,bo W h Z (List.replicate n l).flatten (List.replicate n vs).flatten
 | 0=>.nil
 | n+1=>by simp only [List.replicate_succ,List.flatten_cons];exact r.append (s9 r n)
theorem sL(items:Array Value):∀(n:Nat) (z:Array Value),(List.foldl (λx1 x2=>x1++x2) z (List.replicate n items)).toList=z.toList++(List.replicate n items.toList).flatten
 | 0,z=>by simp
 | n+1,z=>by rw [List.replicate_succ,List.foldl_cons,sL items n];simp [List.replicate_succ]
noncomputable def Iw:GS->Operator | .add=>.Add | .sub=>.Sub | .mul=>.Mult | .div=>.FloorDiv | .mod=>.Mod
theorem IE{m:Nat}{i:Int}(R:bU W s.heap Z J)(ra:aK W s.heap Z (.obj m) x)(rb:aK W s.heap Z (.int i) y)(e1:J[m]?=some (.list l))(h0:0<=i)(h1:i<100)(h2:l.length<100)(h:Q (.obj J.length) (J++[.list (List.replicate i.toNat l).flatten])) :
  wpAny (model W.prog W.w) A (binaryOp .Mult x y) (cu W Z s Q) E s:=by
 refine bz (R.list_at ra e1) λp ad ep hp1 hp2 q items ek ho hr hz=>?_;subst q;refine xe rb.E λu z=>?_;subst z;have hk:items.size*i.toNat<10000:=by
  rw [hz];have h3:i.toNat<=99:=by omega
  calc l.length*i.toNat<=99*99:=Nat.mul_le_mul (by omega) h3
   _<10000:=by decide
 refine wpAny_binaryOp_repeat_ref (T:="list") (U:="int") (by decide) ⟨_,ho,rfl⟩ (λs'=>typeIs_int s' i u) noFill_list_mul F.fills_int_mul F.slot_int_rmul repeat_list F.slot_int_index.lookup
  (call_meets F.slot_int_rmul (typeIs_int s i u) F.entry_int_rmul (F.args_int_rmul_2 _ _) (int___rmul___int_list i u ad items ek)
   ⟨ho,rfl,⟨_,ho,rfl⟩,call_meets F.slot_list_mul ⟨_,ho,rfl⟩ F.entry_list_mul (F.args_list_mul_2 _ _)
    (AutoListH.list___mul___list_int_3 ad items ek i u (by simp [Builtin.List.listFitsIndex];omega) (by omega) (by simp [Builtin.List.listTooLong,sizeLine];omega))
    ⟨ho,?_⟩⟩)
 refine cu.list R (t:=s.toks) ?_ h;rw [sL];simp only [List.nil_append];by_cases he:items.isEmpty=true
 ·rw [if_pos he];have:items=#[]:=by simpa using he
  subst this;have:l=[]:=by simpa using hz.symm
  subst this;simp;exact .nil
 ·rw [if_neg he];exact s9 hr _
set_option tactic.hygienic true in
theorem HQ{op:GS}(R:bU W s.heap Z J)(ra:aK W s.heap Z a x)(rb:aK W s.heap Z b y)(h:z9 op a b J Q):wpAny (model W.prog W.w) A (binaryOp (Iw op) x y) (cu W Z s Q) E s:=by
 refine Cr (M:=λop a b=>aK W s.heap Z a x->aK W s.heap Z b y->wpAny _ _ (binaryOp (Iw op) x y) _ _ _) h (λi j h ra rb=>?_) (λm n l k e1 e2 hb h ra rb=>?_) (λi j h ra rb=>?_) (λi j hk h ra rb=>?_) (λm l i e h0 h1 h2 h ra rb=>IE R ra rb e h0 h1 h2 h)
  (λi j h0 h1 h ra rb=>?_) (λi j h0 h1 h ra rb=>?_) ra rb
 ·exact ra.intU (M:=λx=>wpAny _ _ (binaryOp .Add x y) _ _ _) λt=>rb.intU (M:=λy=>wpAny _ _ (binaryOp .Add _ y) _ _ _) λu=>PyProof.Rows.add_int (cu.tok R _ (.int _ _) h)
 ·refine bz (R.list_at ra e1) λp ad ep hp1 hp2 q items ek ho hr hz=>?_;subst q;refine bz (R.list_at rb e2) λp' ad' ep' hp1' hp2' z items' ek' ho' hr' hz'=>?_;subst z;refine PySem.P.add_list (n:=ek) (n2:=ek') ho ho' ?_ (by rw [hz,hz'];exact fH hb);exact cu.list R (t:=s.toks) (by rw [Array.toList_append];exact hr.append hr') h
 ·exact ra.intU (M:=λx=>wpAny _ _ (binaryOp .Sub x y) _ _ _) λt=>rb.intU (M:=λy=>wpAny _ _ (binaryOp .Sub _ y) _ _ _) λu=>PyProof.Rows.sub_int (cu.tok R _ (.int _ _) h)
 ·exact ra.intU (M:=λx=>wpAny _ _ (binaryOp .Mult x y) _ _ _) λt=>rb.intU (M:=λy=>wpAny _ _ (binaryOp .Mult _ y) _ _ _) λu=>PyProof.Rows.mul_int (cu.tok R _ (.int _ _) h) (hk.elim (λh=>IntMulOk.of_left (qp h)) λh=>IntMulOk.of_right (qp h))
 ·refine ra.intU (M:=λx=>wpAny _ _ (binaryOp .Mod x y) _ _ _) λt=>rb.intU (M:=λy=>wpAny _ _ (binaryOp .Mod _ y) _ _ _) λu=>PyProof.Rows.mod_int' (Int.ne_of_gt h0) ?_;rw [Int.fmod_eq_emod_of_nonneg _ (Int.le_of_lt h0)];exact cu.tok R _ (.int _ _) h
 ·refine ra.intU (M:=λx=>wpAny _ _ (binaryOp .FloorDiv x y) _ _ _) λt=>rb.intU (M:=λy=>wpAny _ _ (binaryOp .FloorDiv _ y) _ _ _) λu=>PyProof.Rows.floordiv_int (Int.ne_of_gt h0) ?_ (.inl (PyProof.noPylong_small (by omega)));rw [Int.fdiv_eq_ediv_of_nonneg _ (Int.le_of_lt h0)];exact cu.tok R _ (.int _ _) h
end
section
variable{E:Value->Shared->Prop}{c:V}{x:Value}
theorem kF{ad:Addr}{k:Nat}(ho:h.get? ad=some ⟨.type "list",none,.seq items k,#[]⟩)(r:bo W h Z l items.toList)(d:V.dats l=true) :
  Reads h (.ref ad) (.list (V.pys l)) [ad]:=.list ho rfl rfl (r.reads d)
theorem Ht{m:List V}(hu:A.units+20<cLine)(hl:V.deps l<=6):A.units+min (PyData.list (V.pys l)).depth (PyData.list (V.pys m)).depth<cLine:=by
 have:=V.pys_dep l;dsimp only [PyData.depth];exact FN hu (Nat.succ_le_succ this) (am (Nat.succ_le_succ hl) (by decide))
theorem Hs(hu:A.units+20<cLine)(hl:a.dep<=6):A.units+min a.py.depth b.py.depth<cLine:=by
 exact FN hu (V.py_dep a) (am hl (by decide))
theorem nM(d:V.dats l=true):(PyData.list (V.pys l)).canLay0=true:=by
 dsimp only [PyData.canLay0];exact V.pys_lay l d
theorem zi{p q:Bool}(h:p=true↔q=true):p=q:=by cases p<;>cases q<;>simp_all
theorem tR(da:a.dat=true)(db:b.dat=true):PyData.eqv a.py b.py=V.deq a b:=zi ((V.eqv_iff a b da db).trans V.deq_iff.symm)
theorem vH{m:List V}(da:V.dats l=true)(db:V.dats m=true):PyData.eqv (.list (V.pys l)) (.list (V.pys m))=V.deq (.tup l) (.tup m):=by
 refine zi ?_;rw [V.deq_iff,V.tup.injEq];dsimp only [PyData.eqv];exact V.eqvs_iff l m da db
theorem rC{l k:List (V×V)}(h:∀j<i,∀p,l[j]?=some p->r6 k p=true) :
  l.all (r6 k)=(l.drop i).all (r6 k):=by
 conv=>lhs;rw [<-List.take_append_drop i l,List.all_append]
 have:(l.take i).all (r6 k)=true:=by
  rw [List.all_eq_true];intro p hp;refine xe (List.mem_iff_getElem?.mp hp) λj hj=>?_;rw [List.getElem?_take] at hj
  split at hj
  ·exact h j (by assumption) p hj
  ·exact cr hj
 rw [this,Bool.true_and]
theorem DG{nm:String}{ad ad':Addr}{es es':Array DictEntry}{ek ek':Nat}{l k:List (V×V)}{Q:Bool->Shared->Prop}(q1:(ad==sysModules)=false)(q2:(ad'==sysModules)=false)
  (hu:A.units+20<cLine)
  (ho:s.heap.get? ad=some {cls:=Value.type "dict",data:=Data.dict es ek}) (hr:cX W s.heap Z l es.toList) (hz:es.size=l.length)
  (ho':s.heap.get? ad'=some {cls:=Value.type "dict",data:=Data.dict es' ek'}) (hr':cX W s.heap Z k es'.toList) (hz':es'.size=k.length) (nd':(k.map (·.1)).Nodup)
  (fl:nA l=true) (fk:nA k=true) (h:Q (tc l k) s):wpAny (model W.prog W.w) A.in1 (Builtin.Dict.samePairs nm ad ad') Q E s:=by
 refine af (gX (λq=>absurd q (by rw [q1];simp)) λz_=>al ?_);refine af (gX (λq=>absurd q (by rw [q2];simp)) λz_=>al ?_);refine af (wpAny_dictEntries ho rfl (af (wpAny_dictEntries ho' rfl ?_)));unfold tc at h;refine gX (λq=>?_) λq=>?_
 ·refine af (wpAny_rule (al ?_));have:(l.length==k.length)=false:=by rw [<-hz,<-hz'];simpa using q
  rw [this,Bool.false_and] at h;exact h
 have gE:es.size=es'.size:=by simpa using q
 have hlk:(l.length==k.length)=true:=by rw [<-hz,<-hz'];simpa using q
 rw [hlk,Bool.true_and] at h;refine af (wpAny_dictEpoch ho rfl (af ?_));rw [Std.Legacy.Range.forIn_eq_forIn_range'];dsimp only [Std.Legacy.Range.size,Nat.sub_zero,Nat.add_sub_cancel,Nat.div_one];refine wpAny_forIn_list _
  (λrest q s'=>s'=s/\q=(none,())/\∃i,rest=List.range' i (es.size-i)/\i<=es.size/\∀j<i,∀p,l[j]?=some p->r6 k p=true)
  _ ?_ ?_ _ _ ⟨rfl,rfl,0,by simp,aC _,λj hj=>absurd hj (Nat.not_lt_zero _)⟩
 ·intro x rest q s' y;refine o9 y λz t r=>?_;clear y;subst z;subst t;refine cG r λi hrr hi hpre=>?_;clear r;have hlt:i<es.size:=by
   refine Or.elim (cS i es.size) (λh=>?_) (λh=>?_)
   ·exact h
   ·rw [Nat.sub_eq_zero_of_le h] at hrr;simp at hrr
  obtain ⟨rfl,hrest⟩:x=i/\rest=List.range' (i+1) (es.size-(i+1)):=by
   have e:es.size-i=(es.size-(i+1))+1:=Ds hlt;rw [e,List.range'_succ] at hrr
   injection hrr with h1 h2
   exact ⟨h1,h2⟩
  refine af (wpAny_dictEntries ho rfl ?_);rw [Array.getElem?_eq_getElem hlt];refine gu (hr.get (n:=x) (e:=es[x]) (by rw [Array.getElem?_toList];exact Array.getElem?_eq_getElem hlt)) λk' v' e1 e2 e3 e4 e5 e6=>?_;have hmem:(k',v')∈l:=List.mem_of_getElem? e1;have hfl:=List.all_eq_true.mp fl _ hmem;simp only [Bool.and_eq_true,decide_eq_true_eq] at hfl;refine xa hfl λm f4=>xa m λf f3=>xa f λf1 f2=>?_;have hdrop:l.drop x=(k',v')::l.drop (x+1):=by
   have hx:x<l.length:=by rw [<-hz];exact hlt
   rw [List.drop_eq_getElem_cons hx];rw [aA hx] at e1;rw [a9 e1]
  have hall:=rC hpre;rw [hdrop,List.all_cons] at hall;rw [hall] at h;refine af (aT ?_);rw [e4];refine af (jN (JF hu) e2 e3 e5 ho' rfl hr' nd' ?_)
  cases hj:gF k k' with
  | none =>
   have hg:getD k k'=none:=by
    cases g:getD k k' with
    | none=>rfl
    | some v=>refine bO (fc g) λi h z_=>?_;rw [hj] at h;exact cr h
   have hh:r6 k (k',v')=false:=by unfold r6;rw [hg]
   rw [hh,Bool.false_and] at h;refine al (gX (λz_=>al (al h)) λq=>absurd rfl q)
  | some j =>
   refine xe (gG hj) λu hv=>?_;have hg:getD k k'=some u:=jm hj hv;refine dR (hr'.at hv) λaa bb hb z_ z_ z_ rb=>?_;have hh:r6 k (k',v')=V.deq v' u:=by unfold r6;rw [hg]
   rw [hh] at h;have hmem':(k',u)∈k:=List.mem_of_getElem? hv;have hfk:=List.all_eq_true.mp fk _ hmem';simp only [Bool.and_eq_true,decide_eq_true_eq] at hfk;refine af (wpAny_dictEntries ho' rfl ?_);rw [<-Array.getElem?_toList,hb];refine aT (qE f2 hfk.1.1.2 (K7 hu hfl.2) e6 rb ?_)
   cases hd:V.deq v' u with
   | false =>
    rw [hd,Bool.false_and] at h;have:¬v'=u:=λe=>by rw [V.deq_iff.mpr e] at hd;cases hd
    exact gX (λz_=>al (al h)) λq=>absurd (by simp [this]) q
   | true =>
    have:v'=u:=V.deq_iff.mp hd;refine gX (λq=>absurd q (by simp [this])) λz_=>af (wpAny_dictEpoch ho rfl (gX (λq=>absurd q (by simp)) λz_=>al ⟨rfl,rfl,x+1,hrest,hlt,λj hj p hp=>?_⟩));refine Or.elim (cS j x) (λhjx=>?_) (λhjx=>?_)
    ·exact hpre j hjx p hp
    ·have:j=x:=Nat.le_antisymm (Nat.le_of_lt_succ hj) hjx;subst this;rw [e1] at hp;cases hp;rw [hh];exact hd
 ·intro q s' d;refine o9 d λc b a=>?_;clear d;subst c;subst b;refine cG a λi hrr hi hpre=>?_;clear a;have hin:i=es.size:=by
   refine Or.elim (cS i es.size) (λh=>?_) (λh=>?_)
   ·have e:es.size-i=(es.size-(i+1))+1:=Ds h;rw [e,List.range'_succ] at hrr;exact nomatch hrr
   ·exact Nat.le_antisymm hi h
  have hall:=rC hpre;rw [hin,hz,List.drop_length,List.all_nil] at hall;rw [hall] at h;exact al h
theorem xE{m:Nat}{l k:List (V×V)}(hs:sysModules<W.h₀.objs.size)(hu:A.units+20<cLine)(R:bU W s.heap Z J)(ra:aK W s.heap Z (.obj m) x)(rb:aK W s.heap Z (.obj n) y)
  {i j:Nat} (e1:J[m]?=some (.dict l i)) (e2:J[n]?=some (.dict k j)) (fl:nA l=true) (fk:nA k=true) {Q:Value->Shared->Prop} (h:Q (.bool (tc l k)) s) :
  wpAny (model W.prog W.w) A (compareOp .Eq x y) Q E s:=by
 refine bM (R.dict_at ra e1) λp ad ep hp1 hp2 q hn es ek z_ ho hr hz=>?_;subst q;refine bM (R.dict_at rb e2) λp' ad' ep' hp1' hp2' z hn' es' ek' z_ ho' hr' hz'=>?_;subst z;have nd':(k.map (·.1)).Nodup:=(R.ob n _ _ e2 ep').2.2;have q1:(ad==sysModules)=false:=beq_eq_false_iff_ne.mpr (bC (ak hs hn));have q2:(ad'==sysModules)=false:=beq_eq_false_iff_ne.mpr (bC (ak hs hn'));have hT1:s.TypeIs (.ref ad) "dict":=⟨_,ho,rfl⟩
 have hT2:s.TypeIs (.ref ad') "dict":=⟨_,ho',rfl⟩
 refine wpAny_richCompare_same_room (op:=.Eq) hT1 hT2 F.slot_dict_eq (wpAny_call_entry F.slot_dict_eq hT1 F.entry_dict_eq ?_ (F.args_dict_eq_2 _ _)) (ax (aN _ 20) hu);refine af (af (wpAny_notOrdered_dict hT1 (al (af (wpAny_isInstance (T:="dict") hT2 isSubtype_dict_dict ?_)))));skip;refine af (al (af (al (af (DG q1 q2 hu ho hr hz ho' hr' hz' nd' fl fk (al ⟨_,rfl,by simp,?_⟩))))))
 simpa using h
end
section
variable{E:Value->Shared->Prop}{c:V}{x:Value}
noncomputable def sI:ES->CmpOp | .eq=>.Eq | .ne=>.NotEq | .lt=>.Lt | .le=>.LtE | .gt=>.Gt | .ge=>.GtE | .isIn=>.In | .notIn=>.NotIn | .isNone=>.Is | .notNone=>.IsNot
theorem jZ(r:aK W h Z a x):(x==Value.none)=a.isNone:=r.ind (M:=λa x=>(x==Value.none)=a.isNone) rfl (λz_=>rfl) (λz_ z_=>rfl) (λz_ z_=>rfl) (λz_ z_ z_ z_ z_=>rfl) (λz_=>rfl) (λz_ z_ z_ z_=>rfl)
theorem s8(r:aK W h Z a x):plainIs x .none=true:=r.ind (M:=λz_ x=>plainIs x .none=true) rfl (λz_=>rfl) (λz_ z_=>rfl) (λz_ z_=>rfl) (λz_ z_ z_ z_ z_=>rfl) (λz_=>rfl) (λz_ z_ z_ z_=>rfl)
theorem z7{p q:Bool}{m:Nat}(h:(p&&q&&decide (n<=m))=true):(p=true/\q=true)/\n<=m:=have h:=bj.1 h;⟨bj.1 h.1,aB h.2⟩
set_option tactic.hygienic true in
theorem Jm{r:Bool}{P:Value->Shared->Prop}(hs:sysModules<W.h₀.objs.size)(hu:A.units+20<cLine)(R:bU W s.heap Z J)(ra:aK W s.heap Z a x)(rb:aK W s.heap Z b y)(h:Jl J a b=some r)(hQ:P (.bool r) s) :
  wpAny (model W.prog W.w) A (compareOp .Eq x y) P E s:=by
 refine Ke (M:=λr=>P (.bool r) s->wpAny (model W.prog W.w) A (compareOp .Eq x y) P E s) h (λhd hQ=>?_) (λh hQ=>?_) hQ
 ·have hd:=z7 hd;exact SeqAt.compareEq_reads (ra.reads hd.1.1) (rb.reads hd.1.2) (V.py_lay _ hd.1.1) (V.py_lay _ hd.1.2) (Hs hu hd.2) (by rw [tR hd.1.1 hd.1.2];exact hQ)
 ·refine Fp (M:=λa b r=>aK W s.heap Z a x->aK W s.heap Z b y->P (.bool r) s->wpAny (model W.prog W.w) A (compareOp .Eq x y) P E s) h (λm n l l' e1 e2 hd ra rb hQ=>?_) (λm n l i l' i' e1 e2 hd ra rb hQ=>xE hs hu R ra rb e1 e2 (bj.1 hd).1 (bj.1 hd).2 hQ) ra rb hQ;have hd:=z7 hd;refine bz (R.list_at ra e1) λp ad ep hp1 hp2 q items ek ho hr hz=>?_;subst q;refine bz (R.list_at rb e2) λp' ad' ep' hp1' hp2' z items' ek' ho' hr' hz'=>?_;subst z;exact SeqAt.compareEq_reads (kF ho hr hd.1.1) (kF ho' hr' hd.1.2) (nM hd.1.1) (nM hd.1.2) (Ht hu hd.2) (by rw [vH hd.1.1 hd.1.2];exact hQ)
set_option tactic.hygienic true in
theorem JH{r:Bool}{P:Value->Shared->Prop}(hu:A.units+20<cLine)(R:bU W s.heap Z J)(ra:aK W s.heap Z a x)(rb:aK W s.heap Z b y)(h:Im J a b=some r)(hQ:P (.bool (!r)) s) :
  wpAny (model W.prog W.w) A (compareOp .NotEq x y) P E s:=by
 refine Ke (M:=λr=>P (.bool (!r)) s->wpAny (model W.prog W.w) A (compareOp .NotEq x y) P E s) h (λhd hQ=>?_) (λh hQ=>?_) hQ
 ·have hd:=z7 hd;exact SeqAt.compareNe_reads (ra.reads hd.1.1) (rb.reads hd.1.2) (V.py_lay _ hd.1.1) (V.py_lay _ hd.1.2) (Hs hu hd.2) (by rw [tR hd.1.1 hd.1.2];exact hQ)
 ·refine FV (M:=λa b r=>aK W s.heap Z a x->aK W s.heap Z b y->P (.bool (!r)) s->wpAny (model W.prog W.w) A (compareOp .NotEq x y) P E s) h (λm n l l' e1 e2 hd ra rb hQ=>?_) ra rb hQ;have hd:=z7 hd;refine bz (R.list_at ra e1) λp ad ep hp1 hp2 q items ek ho hr hz=>?_;subst q;refine bz (R.list_at rb e2) λp' ad' ep' hp1' hp2' z items' ek' ho' hr' hz'=>?_;subst z;exact SeqAt.compareNe_reads (kF ho hr hd.1.1) (kF ho' hr' hd.1.2) (nM hd.1.1) (nM hd.1.2) (Ht hu hd.2) (by rw [vH hd.1.1 hd.1.2];exact hQ)
theorem eqAt_reads{h:Shared}{B:Around}(hu:B.units+8<cLine)(ra:aK W h.heap Z a x)(rb:aK W h.heap Z b y)(da:a.dat=true)(db:b.dat=true)(hd:a.dep<=6) :
  SeqAt.EqAt B h x y (V.deq a b):=λprog w E Q hq=>by
 exact SeqAt.eqAt_reads a.py b.py B h x y [] [] (ra.reads da) (rb.reads db) (V.py_lay _ da) (V.py_lay _ db) (FN hu (V.py_dep a) (am hd (by decide))) prog w E Q (by rw [tR da db];exact hq)
theorem E5{f:V->Bool}{g:Value->Bool}(r:bo W h Z l vs):(∀v u,v∈l->aK W h Z v u->g u=f v)->vs.any g=l.any f :=
 r.ind (M:=λl vs=>(∀v u,v∈l->aK W h Z v u->g u=f v)->vs.any g=l.any f) (λz_=>rfl) λx z_ ih hg=>by
  rw [List.any_cons,List.any_cons,hg _ _ ai x,ih λv u hv hr=>hg v u (aj _ hv) hr]
open Classical in
noncomputable def zg(W:Wd)(h:Heap)(Z:Rho)(f:V->Bool)(l:List V)(u:Value):Bool:=if g:∃v,v∈l/\aK W h Z v u then f g.choose else false
theorem zA(r:bo W h Z l vs):∀u∈vs,∃v,v∈l/\aK W h Z v u :=
 r.ind (M:=λl vs=>∀u∈vs,∃v,v∈l/\aK W h Z v u) (λz_ hu=>absurd hu aq) λx z_ ih u hu=>(aO.mp hu).elim (λe=>⟨_,ai,e▸x⟩) λhu=>(ih u hu).imp λz_ q=>⟨aj _ q.1,q.2⟩
theorem mK{f:V->Bool}{P:Bool->Shared->Prop}(f_ok:∀v u,v∈l->aK W s.heap Z v u->∀B:Around,B.units=A.units+2->SeqAt.EqAt B s u x (f v))
  (f_fn:∀v v' u,v∈l->v'∈l->aK W s.heap Z v u->aK W s.heap Z v' u->f v=f v')
  (hr:bo W s.heap Z l items.toList) {ad:Addr} {k:Nat} (T:String) (hT:T="list"\/T="tuple") {o:Obj} (ho:s.heap.get? ad=some ⟨.type T,o.dict,.seq items k,o.slots⟩)
  (hQ:P (l.any f) s):wpAny (model W.prog W.w) A (contains (.ref ad) x) P E s:=by
 have key:items.any (zg W s.heap Z f l)=l.any f:=by
  rw [<-Array.any_toList];refine E5 hr λv u hv hru=>?_;delta zg;rw [dif_pos ⟨v,hv,hru⟩];exact f_fn _ _ u (Classical.choose_spec (⟨v,hv,hru⟩:∃v,v∈l/\aK W s.heap Z v u)).1 hv (Classical.choose_spec (⟨v,hv,hru⟩:∃v,v∈l/\aK W s.heap Z v u)).2 hru
 have he:∀u,u∈items->SeqAt.EqAt A.in1 s u x (zg W s.heap Z f l u):=λu hu=>by
  refine bO (zA hr u (Array.mem_toList_iff.mpr hu)) λv hv hru=>?_;delta zg;rw [dif_pos ⟨v,hv,hru⟩];have hs:=Classical.choose_spec (⟨v,hv,hru⟩:∃v,v∈l/\aK W s.heap Z v u);refine SeqAt.EqAt.of_in1 (f_ok _ u hs.1 hs.2 _ rfl)
 rw [<-key] at hQ;rcases hT with rfl | rfl
 ·exact wpAny_contains_slot ⟨_,ho,rfl⟩ F.slot_list_contains (call_meets F.slot_list_contains ⟨_,ho,rfl⟩ F.entry_list_contains (F.args_list_contains_2 _ _) (SeqAt.list_containsAt ad items k o.dict o.slots x _) ⟨ho,he,wpAny_truthy_bool hQ⟩)
 ·exact wpAny_contains_slot ⟨_,ho,rfl⟩ F.slot_tuple_contains (call_meets F.slot_tuple_contains ⟨_,ho,rfl⟩ F.entry_tuple_contains (F.args_tuple_contains_2 _ _) (SeqAt.tuple_containsAt ad items k o.dict o.slots x _) ⟨ho,he,wpAny_truthy_bool hQ⟩)
theorem C8{M:V->Prop}(h:gJ J v=true)(k0:M .none)(k1:∀m l,J[m]?=some (.list l)->M (.obj m)):M v:=by
 induction v using V.ind with
 | h0=>exact k0
 | h4 m=>exact (Option.isSome_iff_exists.1 h).elim λz_ h=>dG h (λl e z_=>k1 m l e) λz_ z_ z_ h=>cr h
 | _=>exact bF h
set_option tactic.hygienic true in
theorem G5{r:Bool}{P:Bool->Shared->Prop}(hs:sysModules<W.h₀.objs.size)(hu:A.units+20<cLine)(R:bU W s.heap Z J)(ra:aK W s.heap Z a x)(rc:aK W s.heap Z c y)(h:C2 J a c=some r)(hQ:∀t,P r {s with toks:=t}) :
  wpAny (model W.prog W.w) A (contains y x) P E s:=by
 have dq:∀{l:List V},a.dat=true->V.dats l=true->V.deps l<=6->∀v u,v∈l->aK W s.heap Z v u->∀B:Around,B.units=A.units+2->SeqAt.EqAt B s u x (V.deq v a):=λda dl hl v u hv hru B hB=>by
  have:=V.dep_le_deps hv;exact eqAt_reads (h:=s) (hB▸ax (aN (A.units+10) 10) hu) hru ra (V.dats_iff.mp dl v hv) da (am this hl)
 have fn:∀{l:List V},V.dats l=true->∀v v' u,v∈l->v'∈l->aK W s.heap Z v u->aK W s.heap Z v' u->V.deq v a=V.deq v' a:=λ{l} dl v v' u hv hv' h1 h2=>by
  have e:PyData.eqv v.py v'.py=true:=by
   have:=SeqAt.Reads.unique _ _ _ _ _ (V.py_lay v (V.dats_iff.mp dl v hv)) (h1.reads (V.dats_iff.mp dl v hv)) (h2.reads (V.dats_iff.mp dl v' hv'));rw [this];exact (V.eqv_iff v' v' (V.dats_iff.mp dl v' hv') (V.dats_iff.mp dl v' hv')).mpr rfl
  rw [(V.eqv_iff v v' (V.dats_iff.mp dl v hv) (V.dats_iff.mp dl v' hv')).mp e]
 refine Fz (M:=λc r=>aK W s.heap Z c y->(∀t,P r {s with toks:=t})->wpAny (model W.prog W.w) A (contains y x) P E s) h (λl hd rc hQ=>?_) (λn l e hd rc hQ=>?_) (λn l e hd rc hQ=>?_) (λn l i e hd rc hQ=>?_) rc hQ
 ·have h1:=bj.1 hd;have hd:=z7 h1.1;refine cv rc.E λad o items ek q ho hc hdat hx hr=>?_;subst q;clear hx;obtain ⟨cl,dd,dt,sl⟩:=o;simp only at hc hdat;subst hc hdat;exact mK (f:=λy=>V.deq y a) (o:=⟨.type "tuple",dd,.seq items ek,sl⟩) (dq hd.1.1 hd.1.2 (aB h1.2)) (fn hd.1.2) hr "tuple" (.inr rfl) ho (hQ s.toks)
 ·have h1:=bj.1 hd;have hd:=z7 h1.1;refine bz (R.list_at rc e) λp ad ep hp1 hp2 z items ek ho hr hz=>?_;subst z;exact mK (f:=λy=>V.deq y a) (o:=⟨.type "list",none,.seq items ek,#[]⟩) (dq hd.1.1 hd.1.2 (aB h1.2)) (fn hd.1.2) hr "list" (.inl rfl) ho (hQ s.toks)
 ·have hd:=bj.1 hd;refine bz (R.list_at rc e) λp ad ep hp1 hp2 k items ek ho hr hz=>?_;subst k;have hx:x=.none:=eq_of_beq ((jZ ra).trans hd.1);subst hx;refine mK (f:=V.isNone) (o:=⟨.type "list",none,.seq items ek,#[]⟩) (λv u hv hru B hB=>?_) (λv v' u hv hv' h1 h2=>by rw [<-jZ h1,<-jZ h2]) hr "list" (.inl rfl) ho (hQ s.toks);have hvv:=cK.1 hd.2 v hv;refine C8 (M:=λv=>aK W s.heap Z v u->SeqAt.EqAt B s u .none v.isNone) hvv (λru=>?_) (λm l' e' ru=>?_) hru
  ·obtain rfl:=ru.E;exact SeqAt.EqAt.same .none
  ·refine y7 (R.list_at ru e') λp' ad' z_ z_ z_ j items' ek' ho' z_=>?_;subst j;exact SeqAt.EqAt.list_none ⟨_,ho',rfl,ek',rfl⟩ (by rw [hB];exact ax (cn (by decide) _) hu)
 ·have hd:=bj.1 hd;refine bM (R.dict_at rc e) λp ad ep hp1 hp2 g hn es ek z_ ho hr hz=>?_;subst g;have q1:(ad==sysModules)=false:=beq_eq_false_iff_ne.mpr (bC (ak hs hn));have hT:s.TypeIs (.ref ad) "dict":=⟨_,ho,rfl⟩
  delta contains
  try with_reducible refine aT ?_
  refine af (wpAny_specialOf hT slot_dict_contains.lookup ?_);rw [if_neg (by rw [beq_builtin_none];exact ca)];refine af (wpAny_callSpecialUnlessNone?_slot (name:=Str.ofString "__contains__") hT slot_dict_contains
   (wpAny_call_entry slot_dict_contains hT entry_dict_contains ?_ (args_dict_contains _ _)))
  show wpAny _ _ (dictGet ad x >>=_) _ _ s;subst hp1;refine af (km (JF hu) R ep e hd.1 (aB hd.2) ra (λv b t hg hrb=>?_) λt hg=>?_)
  ·rw [hg] at hQ;exact al ⟨_,rfl,wpAny_truthy_bool (hQ t)⟩
  ·rw [hg] at hQ;exact af (wpAny_pendingKey_other q1 (al ⟨_,rfl,wpAny_truthy_bool (hQ t)⟩))
theorem zr{f:Int->Int->Bool}{r:Bool}(ra:aK W h Z a x)(rb:aK W h Z b y)(hc:Ib f a b=some r):∃i j t u,x=.int i t/\y=.int j u/\r=f i j:=by
 refine V.intU (M:=λa=>aK W h Z a x->_) (f:=λa=>Ib f a b=some r) hc (λi hc ra=>?_) cr (λz_=>cr) (λz_=>cr) (λz_=>cr) (λz_=>cr) (λz_=>cr) ra;refine V.intU (M:=λb=>aK W h Z b y->_) (f:=λb=>Ib f (.int i) b=some r) hc (λj hc rb=>?_) cr (λz_=>cr) (λz_=>cr) (λz_=>cr) (λz_=>cr) (λz_=>cr) rb;refine xe ra.E λt q=>?_;subst q;refine xe rb.E λu w=>?_;subst w;exact ⟨i,j,t,u,rfl,rfl,(a9 hc).symm⟩
theorem Hg{r f:Bool}{M:V->Prop}(h:DA f b=some r)(k:f=r->M .none):M b:=by
 induction b using V.ind with
 | h0=>exact k (a9 h)
 | _=>exact cr h
theorem Cz{op:ES}{r:Bool}(hs:sysModules<W.h₀.objs.size)(hu:A.units+20<cLine)(R:bU W s.heap Z J)(ra:aK W s.heap Z a x)(rb:aK W s.heap Z b y)(h:jL op J a b=some r)(hQ:Q (.bool r) J) :
  wpAny (model W.prog W.w) A (compareOp (sI op) x y) (cu W Z s Q) E s:=by
 have fin:cu W Z s Q (.bool r) s:=cu.here R (.bool r) hQ;have fin':∀t,cu W Z s Q (.bool r) {s with toks:=t}:=λt=>cu.tok R t (.bool r) hQ
 induction op with
 | eq=>exact Jm hs hu R ra rb h fin
 | ne =>
  refine bO (b0.mp h) λq hq z=>?_;subst z;exact JH hu R ra rb hq fin
 | isIn =>
  exact af (G5 hs hu R ra rb h λt=>al (fin' t))
 | notIn =>
  refine bO (b0.mp h) λq hq v=>?_;subst v;exact af (G5 hs hu R ra rb hq λt=>al (fin' t))
 | isNone =>
  refine Hg (M:=λb=>aK W s.heap Z b y->wpAny _ _ (compareOp (sI .isNone) x y) _ _ _) h (λh rb=>?_) rb;subst h;obtain rfl:=rb.E;exact wpAny_is_plain (s8 ra) (by rw [jZ ra];exact fin)
 | notNone =>
  refine Hg (M:=λb=>aK W s.heap Z b y->wpAny _ _ (compareOp (sI .notNone) x y) _ _ _) h (λh rb=>?_) rb;subst h;obtain rfl:=rb.E;exact wpAny_isNot_plain (s8 ra) (by rw [jZ ra];exact fin)
 | lt =>
  refine oA (zr (f:=λx y=>decide (x<y)) ra rb h) λi j t u p n m=>?_;subst p;subst n;subst m;exact PyProof.Rows.lt_int fin
 | le =>
  refine oA (zr (f:=λx y=>decide (x<=y)) ra rb h) λi j t u k g e=>?_;subst k;subst g;subst e;exact PyProof.Rows.le_int fin
 | gt =>
  refine oA (zr (f:=λx y=>decide (y<x)) ra rb h) λi j t u d c X=>?_;subst d;subst c;subst X;exact PyProof.Rows.gt_int fin
 | ge =>
  refine oA (zr (f:=λx y=>decide (y<=x)) ra rb h) λi j t u Y Za U=>?_;subst Y;subst Za;subst U;exact PyProof.Rows.ge_int fin
set_option tactic.hygienic true in
theorem uZ{r:Bool}{P:Bool->Shared->Prop}(R:bU W s.heap Z J)(ra:aK W s.heap Z a x)(h:xf J a=some r)(hQ:∀t,P r {s with toks:=t}) :
  wpAny (model W.prog W.w) A (truthy x) P E s:=by
 refine EC (M:=λa r=>aK W s.heap Z a x->(∀t,P r {s with toks:=t})->wpAny _ _ (truthy x) _ _ _) h (λra hQ=>?_) (λb ra hQ=>?_) (λn l e hb ra hQ=>?_) ra hQ
 ·obtain rfl:=ra.E;exact truthy_none (hQ s.toks)
 ·obtain rfl:=ra.E;exact wpAny_truthy_bool (hQ s.toks)
 ·refine bz (R.list_at ra e) λp ad ep hp1 hp2 q items ek ho hr hz=>?_;subst q;refine wpAny_truthy_list (items:=items) ⟨_,ho,rfl,ek,rfl⟩ (by rw [hz];unfold big at hb;omega) ?_;rw [show items.isEmpty=l.isEmpty by rcases l with _ | ⟨v,l⟩<;>(show decide (items.size=0)=_;rw [hz];rfl)];exact hQ _
end
section
variable{E:Value->Shared->Prop}{c:V}{x:Value}
theorem zF{i:Int}(h:zE l i=some v):∃j,seqIndex? i l.length=some j/\l[j]?=some v:=by
 unfold zE at h;unfold seqIndex?
 split at h
 ·rename_i h0
  have hl:=(aE.mp h).1;have e:(if i<0 then i+(l.length:Int) else i)=i:=if_neg (Int.not_lt.mpr h0);have e2:(decide (0<=i)&&decide (i<(l.length:Int)))=true:=by rw [Bool.and_eq_true,decide_eq_true_eq,decide_eq_true_eq];exact ⟨h0,(Int.toNat_lt h0).mp hl⟩
  refine ⟨i.toNat,?_,h⟩;simp only [e,e2,if_true]
 ·rename_i h0
  split at h
  ·rename_i h1
   have hl:=(aE.mp h).1;have e:(if i<0 then i+(l.length:Int) else i)=i+l.length:=if_pos (Int.not_le.mp h0);have e2:(decide (0<=i+(l.length:Int))&&decide (i+(l.length:Int)<(l.length:Int)))=true:=by rw [Bool.and_eq_true,decide_eq_true_eq,decide_eq_true_eq];exact ⟨h1,Ko h0⟩
   refine ⟨(i+l.length).toNat,?_,h⟩;simp only [e,e2,if_true]
  ·exact cr h
theorem iU(r:bo W h Z l items.toList){j:Nat}(e:l[j]?=some v):∃u,items[j]?=some u/\aK W h Z v u:=by
 refine bO (r.get e) λu h1 h2=>?_;exact ⟨u,by rw [<-Array.getElem?_toList];exact h1,h2⟩
theorem C3{ns:List Int}(r:IntsAre vs ns):∀{j:Nat} {i:Int},ns[j]?=some i->∃t,vs[j]?=some (.int i t):=by
 induction r with
 | nil=>exact λe=>cr e
 | cons k t _ ih =>
  intro j i e;rcases j with _ | j
  ·cases e;exact ⟨t,rfl⟩
  ·exact ih (j:=j) e
theorem ui{P:Value->Shared->Prop}{ad:Addr}{i:Int}{t:Tok}{j:Nat}{u:Value}(hl:s.heap.IsList ad items)(hz:items.size<2^40)(hj:seqIndex? i items.size=some j)(hu:items[j]?=some u)(h:P u s) :
  wpAny (model W.prog W.w) A (getItem (.ref ad) (.int i t)) P E s:=by
 unfold seqIndex? at hj;refine Or.elim (Classical.em (i<0)) (λh0=>?_) (λh0=>?_)
 ·rw [if_pos h0] at hj;simp only at hj
  split at hj
  ·rename_i hc
   rw [Bool.and_eq_true,decide_eq_true_eq] at hc;cases hj;exact wpAny_getItem_list_neg hl h0 (by omega) (by omega) hu h
  ·exact cr hj
 ·rw [if_neg h0] at hj;simp only at hj
  split at hj
  ·rename_i hc
   simp only [Bool.and_eq_true,decide_eq_true_eq] at hc;cases hj;exact wpAny_getItem_list hl (by omega) (by omega) hu h
  ·exact cr hj
theorem Az{i:Int}{j:Nat}(hz:n<big)(hj:seqIndex? i n=some j): -(2^63)<=i/\i<2^63:=by
 unfold big at hz;unfold seqIndex? at hj
 split at hj<;>simp only at hj<;>split at hj<;>first | cases hj | skip
 all_goals rename_i hc';simp only [Bool.and_eq_true,decide_eq_true_eq] at hc';omega
set_option tactic.hygienic true in
theorem FH(hs:sysModules<W.h₀.objs.size)(hu:A.units+20<cLine)(R:bU W s.heap Z J)(ra:aK W s.heap Z a x)(rb:aK W s.heap Z b y)(h:jT J a b=some c)(hQ:Q c J) :
  wpAny (model W.prog W.w) A (getItem x y) (cu W Z s Q) E s:=by
 refine sQ (M:=λa b=>aK W s.heap Z a x->aK W s.heap Z b y->wpAny (model W.prog W.w) A (getItem x y) (cu W Z s Q) E s) h (λl i hz h ra rb=>?_) (λl i hi h ra rb=>?_) (λn l i e hz h ra rb=>?_) (λn l i e hd h ra rb=>?_) ra rb
 ·refine bO (zF h) λj hj hv=>xe rb.E λt q=>?_;subst q;refine cv ra.E λad o items ek z ho hc hdat hx hr=>?_;subst z;refine bO (iU hr hv) λu hu' ru=>?_;have gE:items.size=l.length:=by rw [<-bf,hr.length]
  have hb:=Az hz hj;exact PyProof.Rows.getItem_tuple ⟨o,ho,hc,ek,hdat⟩ hb.1 hb.2 (by rw [gE];exact hj) hu' (cu.here R ru hQ)
 ·refine bO (b0.mp h) λk hk r=>?_;subst r;refine xe rb.E λt m=>?_;subst m;refine eE ra.E λad o items ek g ho hc hdat hr=>?_;subst g;refine xe (C3 hr hk) λu hu'=>?_;exact wpAny_getItem_list (items:=items) ⟨o,R.top _ _ ho,hc,ek,hdat⟩ hi.1 (by omega) (by rw [<-Array.getElem?_toList];exact hu') (cu.here R (.int _ _) hQ)
 ·refine bO (zF h) λj hj hv=>bz (R.list_at ra e) λp ad ep hp1 hp2 f items ek ho hr gE=>?_;subst f;refine bO (iU hr hv) λu hu' ru=>xe rb.E λt d=>?_;subst d;exact ui ⟨_,ho,rfl,ek,rfl⟩ (by rw [gE];exact aQ hz (by decide)) (by rw [gE];exact hj) hu' (cu.here R ru hQ)
 ·have hd:=bj.1 hd;refine bM (R.dict_at ra e) λp ad ep hp1 hp2 X hn es ek z_ ho hr hz=>?_;subst X;have hT:s.TypeIs (.ref ad) "dict":=⟨_,ho,rfl⟩
  unfold getItem
  try with_reducible refine aT ?_
  refine af (wpAny_sequenceKey hT (by decide) ?_);refine af (wpAny_callSpecial?_slot (name:=Str.ofString "__getitem__") hT slot_dict_getitem
   (wpAny_call_entry slot_dict_getitem hT entry_dict_getitem ?_ (args_dict_getitem _ _)))
  show wpAny _ _ (dictGet ad y >>=_) _ _ s;subst hp1;refine af (km (JF hu) R ep e hd.1 (aB hd.2) rb (λv b t hg hrb=>?_) λt hg=>?_)
  ·rw [hg] at h;cases h;exact al ⟨_,rfl,al (cu.tok R t hrb hQ)⟩
  ·rw [hg] at h;exact cr h
noncomputable def V.seqish(J:Hp):V->Bool
 | .tup _ | .ints _=>true
 | .obj n=>(qN J[n]? (λz_=>some ()) λz_ z_=>some ()).isSome
 | _=>false
set_option tactic.hygienic true in
theorem qI{P:Bool->Shared->Prop}(R:bU W s.heap Z J)(ra:aK W s.heap Z a x)(h:a.seqish J=true)(hQ:P false s):wpAny (model W.prog W.w) A (getitemInPython x) P E s:=by
 have key:∀{T id:String},s.TypeIs x T->typeLookup (.type T) (Str.ofString "__getitem__")=pure (some (.builtin id))->wpAny (model W.prog W.w) A (getitemInPython x) P E s:=λhT hl=>by
  rw [getitemInPython_of_ne hT.not_modules];refine af (wpAny_specialOf hT hl ?_);exact al hQ
 induction a using V.ind with
 | ht l _ =>
  refine cv ra.E λad o items ek q ho hc hdat hx hr=>?_;subst q;exact key ⟨o,ho,hc⟩ slot_tuple_getitem.lookup
 | h5 l =>
  refine eE ra.E λad o items ek y ho hc hdat hr=>?_;subst y;exact key ⟨o,R.top _ _ ho,hc⟩ slot_list_getitem.lookup
 | h4 n =>
  refine (Option.isSome_iff_exists.1 h).elim λz_ h=>dG h (λl e z_=>?_) λl i e z_=>?_
  ·refine bz (R.list_at ra e) λp ad ep hp1 hp2 z items ek ho hr gE=>?_;subst z;exact key ⟨_,ho,rfl⟩ slot_list_getitem.lookup
  ·refine bM (R.dict_at ra e) λp ad ep hp1 hp2 u hn es ek z_ ho hr hz=>?_;subst u;exact key ⟨_,ho,rfl⟩ slot_dict_getitem.lookup
 | _=>exact bF h
theorem vX(h:jT J a b=some c):a.seqish J=true :=
 sQ (M:=λa z_=>a.seqish J=true) h (λz_ z_ z_ z_=>rfl) (λz_ z_ z_ z_=>rfl) (λn l i e z_ z_=>congrArg Option.isSome (cF e)) (λn l i e z_ z_=>congrArg Option.isSome (fz e))
end
noncomputable def Kc:BM->String | .append | .extend | .lpop=>"list" | .get | .setdefault | .dpop=>"dict"
noncomputable def J9:BM->String | .append=>"append" | .extend=>"extend" | .lpop=>"pop" | .get=>"get" | .setdefault=>"setdefault" | .dpop=>"pop"
noncomputable def Aa:BM->String | .append=>"list.append" | .extend=>"list.extend" | .lpop=>"list.pop" | .get=>"dict.get" | .setdefault=>"dict.setdefault" | .dpop=>"dict.pop"
section
variable{E:Value->Shared->Prop}{c:V}{x:Value}
theorem Cu(b:BM):PlainAttrs (Kc b):=by cases b<;>first | exact F.plainAttrs_list | exact F.plainAttrs_dict
theorem Fa(b:BM):Slot (Kc b) (Str.ofString (J9 b)) (Aa b):=by
 cases b
 ·exact F.slot_list_append
 ·exact F.slot_list_extend
 ·exact F.slot_list_pop
 ·exact F.slot_dict_get
 ·exact F.slot_dict_setdefault
 ·exact F.slot_dict_pop
theorem Fb(b:BM):typeOf (.builtin (Aa b))=pure (.type "method_descriptor"):=by
 cases b
 ·exact F.type_list_append
 ·exact F.type_list_extend
 ·exact F.type_list_pop
 ·exact F.type_dict_get
 ·exact F.type_dict_setdefault
 ·exact F.type_dict_pop
set_option tactic.hygienic true in
theorem Jd{b:BM}(R:bU W s.heap Z J)(ra:aK W s.heap Z a x)(h:Iu b J a=true):s.TypeIs x (Kc b)/\∀ad,x=.ref ad->∃ob,s.heap.get? ad=some ob/\ob.dict=none:=by
 refine V.objU (M:=λa=>aK W s.heap Z a x->_) (f:=λa=>Iu b J a=true) h (λn h ra=>?_) bF (λz_=>bF) (λz_=>bF) (λz_=>bF) (λz_=>bF) (λz_=>bF) ra;have L:∀{l},J[n]?=some (.list l)->s.TypeIs x "list"/\∀ad,x=.ref ad->∃ob,s.heap.get? ad=some ob/\ob.dict=none:=λe=>by
  refine bz (R.list_at ra e) λp ad ep hp1 hp2 q items ek ho hr hz=>?_;subst q;exact ⟨⟨_,ho,rfl⟩,λad' e'=>by cases e';exact ⟨_,ho,rfl⟩⟩
 have D:∀{l i},J[n]?=some (.dict l i)->s.TypeIs x "dict"/\∀ad,x=.ref ad->∃ob,s.heap.get? ad=some ob/\ob.dict=none:=λe=>by
  refine bM (R.dict_at ra e) λp ad ep hp1 hp2 w hn es ek z_ ho hr hz=>?_;subst w;exact ⟨⟨_,ho,rfl⟩,λad' e'=>by cases e';exact ⟨_,ho,rfl⟩⟩
 have L':=λ(h:(qN J[n]? (λz_=>some ()) λz_ z_=>none).isSome=true)=>(Option.isSome_iff_exists.1 h).elim λz_ h=>dG h (λl e z_=>L e) λz_ z_ z_ h=>cr h;have D':=λ(h:(qN J[n]? (λz_=>none) λz_ z_=>some ()).isSome=true)=>(Option.isSome_iff_exists.1 h).elim λz_ h=>dG h (λz_ z_ h=>cr h) λl i e z_=>D e
 induction b<;>first | exact L' h | exact D' h
theorem rR{l':List V}{ad:Addr}{ek:Nat}{f:Array Value->Array Value}(R:bU W s.heap Z J)(ep:Z[n]?=some p)(hp1:p.1=ad)(hp2:p.2=ad)
  (ho:s.heap.get? ad=some ⟨.type "list",none,.seq items ek,#[]⟩) (hr:bo W s.heap Z l' (f items).toList) (t:Nat) :
  bv W s.heap (s.heap.update ad (Obj.mapSeq f))/\bA gZ Z s Z {s with heap:=s.heap.update ad (Obj.mapSeq f),toks:=t}/\bU W (s.heap.update ad (Obj.mapSeq f)) Z (J.set n (.list l')):=by
 subst hp1;have k:bv W s.heap (s.heap.update p.1 (Obj.mapSeq f)):=R.tupkeep ep (.inl rfl) (bu ..);refine xe (Obj.data_mapSeq (o:=⟨.type "list",none,.seq items ek,#[]⟩) rfl f) λq hq=>?_;have fr:(Obj.mapSeq f ⟨.type "list",none,.seq items ek,#[]⟩).isFreed=false:=Obj.isFreed_of_seq hq;have ob:(s.heap.update p.1 (Obj.mapSeq f)).get? p.1=some ⟨.type "list",none,.seq (f items) q,#[]⟩:=by
  rw [Heap.get?_update_self _ ho fr];dsimp only [Obj.mapSeq] at hq ⊢
  simpa using hq
 exact ⟨k,lO ep (.inl rfl) (bu ..),R.upd (o':=.list l') ep (.inl rfl) (bu ..) ⟨hp2,_,q,ob,hr.mono k (aD _)⟩⟩
theorem ot{l':List V}{ad:Addr}{ek:Nat}{f:Array Value->Array Value}{P:K1}{r:V}{v:Value}(R:bU W s.heap Z J)(ep:Z[n]?=some p)(hp1:p.1=ad)(hp2:p.2=ad)
  (ho:s.heap.get? ad=some ⟨.type "list",none,.seq items ek,#[]⟩) (hr:bo W s.heap Z l' (f items).toList) {t:Nat}
  (rv:∀h',bv W s.heap h'->aK W h' Z r v) (h:P r (J.set n (.list l'))):cu W Z s P v {s with heap:=s.heap.update ad (Obj.mapSeq f),toks:=t}:=by
 exact o9 (rR R ep hp1 hp2 ho hr t) λk S R'=>cu.upd S R' (rv _ k) h
theorem yH:∀{l:List V} {vs:List Value} {w:V},bo W h Z l vs->l.getLast?=some w->∃u,vs[vs.length-1]?=some u/\aK W h Z w u:=by
 intro l vs w r e;have hl:l.length≠0:=by intro h;have:l=[]:=List.length_eq_zero_iff.mp h;subst this;exact cr e
 rw [List.getLast?_eq_getElem?] at e;refine bO (r.get e) λu h1 h2=>?_;exact ⟨u,by rw [r.length];exact h1,h2⟩
theorem rB(r:bo W h Z l vs):bo W h Z l.dropLast (vs.eraseIdx (vs.length-1)):=by
 rw [List.dropLast_eq_take];have:vs.eraseIdx (vs.length-1)=vs.take (vs.length-1):=by
  rw [List.eraseIdx_eq_take_drop_succ];refine Or.elim (Nat.eq_zero_or_pos vs.length) (λh=>?_) (λh=>?_)
  ·have:vs=[]:=List.length_eq_zero_iff.mp h;subst this;rfl
  ·rw [Nat.sub_add_cancel h,List.drop_length,bn]
 rw [this,r.length];exact r.take _
theorem nH(hu:A.units+20<cLine):A.in1.units+8<cLine:=JF hu
section
variable{w:V}{u uk:Value}
section
variable{lx y:List V}
theorem z8(R:bU W s.heap Z J)(ra:aK W s.heap Z (.obj n) x)(e:J[n]?=some (.list lx))(rw:aK W s.heap Z w u)(hb:lx.length<big)(h:Q .none (J.set n (.list (lx++[w])))):wpAny (model W.prog W.w) A (call (.builtin "list.append") [x,u]) (cu W Z s Q) E s:=by
 refine bz (R.list_at ra e) λp ad ep hp1 hp2 q items ek ho hr hz=>?_;subst q;exact call_meets F.slot_list_append ⟨_,ho,rfl⟩ F.entry_list_append (F.args_list_append_2 _ _) (PySem.list_append ad items ek _ (by rw [hz];exact fH hb)) ⟨ho,ot (t:=s.toks) R ep hp1 hp2 ho (by rw [Array.toList_push];exact hr.append (.cons rw .nil)) (λz_ z_=>.none) h⟩
theorem Aq(R:bU W s.heap Z J)(ra:aK W s.heap Z (.obj n) x)(e:J[n]?=some (.list lx))(rw:aK W s.heap Z w u)(hy:gz J w=some y)(hb:lx.length+y.length<big)(h:Q .none (J.set n (.list (lx++y)))):wpAny (model W.prog W.w) A (call (.builtin "list.extend") [x,u]) (cu W Z s Q) E s:=by
 refine bz (R.list_at ra e) λp ad ep hp1 hp2 q items ek ho hr hz=>?_;subst q;have hb:=fH hb;have h1:items.size<=sizeLine:=by rw [hz];exact am (aN _ _) hb
 refine n9 (M:=λw=>aK W s.heap Z w u->wpAny _ _ (call (.builtin "list.extend") [.ref ad,u]) _ _ _) hy (λrw=>?_) (λm e' rw=>?_) rw
 ·refine cv rw.E λad' o items' ek' z ho' hc hdat hx hr'=>?_;subst z;have h2:items.size+items'.size<=sizeLine:=by rw [hz,<-bf (xs:=items'),hr'.length];exact hb
  obtain ⟨cl,dd,dt,sl⟩:=o;simp only at hc hdat hx;refine o9 hx λhx1 hx2 hx3=>?_;subst hc hdat hx1 hx2;exact call_meets F.slot_list_extend ⟨_,ho,rfl⟩ F.entry_list_extend (F.args_list_extend_2 _ _) (AutoSeq1.list_extend_list_tuple_0 ad items ek ad' items' ek' (extend_door h2) h1 (bT h2)) ⟨ho,ho',ot (t:=s.toks) (f:=λx=>x++items') R ep hp1 hp2 ho (by rw [Array.toList_append];exact hr.append hr') (λz_ z_=>.none) h⟩
 ·refine bz (R.list_at rw e') λp' ad' ep' hp1' hp2' v items' ek' ho' hr' hz'=>?_;subst v;have h2:items.size+items'.size<=sizeLine:=by rw [hz,hz'];exact hb
  exact call_meets F.slot_list_extend ⟨_,ho,rfl⟩ F.entry_list_extend (F.args_list_extend_2 _ _) (AutoSeq1.list_extend_list_list_0 ad items ek ad' items' ek' (extend_door h2) h1 (bT h2)) ⟨ho,ho',ot (t:=s.toks) (f:=λx=>x++items') R ep hp1 hp2 ho (by rw [Array.toList_append];exact hr.append hr') (λz_ z_=>.none) h⟩
theorem FO(R:bU W s.heap Z J)(ra:aK W s.heap Z (.obj n) x)(e:J[n]?=some (.list lx))(hb:lx.length<big)(hw:lx.getLast?=some w)(h:Q w (J.set n (.list lx.dropLast))):wpAny (model W.prog W.w) A (call (.builtin "list.pop") [x]) (cu W Z s Q) E s:=by
 refine bz (R.list_at ra e) λp ad ep hp1 hp2 q items ek ho hr hz=>?_;subst q;have hT:s.TypeIs (.ref ad) "list":=⟨_,ho,rfl⟩
 refine bO (yH hr hw) λu hu' ru=>?_;have hu2:items[items.size-1]?=some u:=by rw [<-Array.getElem?_toList,<-bf];exact hu'
 have hpos:0<items.size:=by
  refine Or.elim (Nat.eq_zero_or_pos items.size) (λh=>?_) (λh=>?_)
  ·have:items=#[]:=by simpa using h
   subst this;exact cr hu2
  ·exact h
 refine call_meets F.slot_list_pop hT F.entry_list_pop (F.args_list_pop_1 _) (MeetsSeq.list_pop_last ad items ek u hu2 (by rw [hz];exact fH hb)) ⟨ho,ot (t:=s.toks) (f:=λxs=>xs.eraseIdxIfInBounds (items.size-1)) R ep hp1 hp2 ho ?_ (λz_ k=>ru.mono k (aD _)) h⟩;have e1:(items.eraseIdxIfInBounds (items.size-1)).toList=items.toList.eraseIdx (items.toList.length-1):=by
  have hlt:items.size-1<items.size:=Nat.sub_lt hpos (by decide);rw [bf];simp [Array.eraseIdxIfInBounds,hlt]
 rw [e1];exact rB hr
end
variable{lx:List (V×V)}{wd:V}{d:Value}
theorem Ft(hs:sysModules<W.h₀.objs.size)(hu:A.units+20<cLine)(R:bU W s.heap Z J)(ra:aK W s.heap Z (.obj n) x)(e:J[n]?=some (.dict lx i))(hk:k.key=true)(hd:k.dep<=6)(rk:aK W s.heap Z k uk)(h:Q ((getD lx k).getD .none) J):wpAny (model W.prog W.w) A (call (.builtin "dict.get") [x,uk]) (cu W Z s Q) E s:=by
 refine bM (R.dict_at ra e) λp ad ep hp1 hp2 q hn es ek z_ ho hr hz=>?_;subst q;have hT:s.TypeIs (.ref ad) "dict":=⟨_,ho,rfl⟩
 subst hp1;have q1:(p.1==sysModules)=false:=beq_eq_false_iff_ne.mpr (bC (ak hs hn));refine wpAny_call_entry F.slot_dict_get hT F.entry_dict_get ?_ (F.args_dict_get_2 _ _);show wpAny _ _ (dictGet p.1 uk >>=_) _ _ s;refine af (km (nH hu) R ep e hk hd rk (λv b t hg hrb=>?_) λt hg=>?_)
 ·rw [hg] at h;exact al ⟨_,rfl,cu.tok R t hrb h⟩
 ·rw [hg] at h;exact af (wpAny_missed_other q1 (al ⟨.none,rfl,cu.tok R t .none h⟩))
theorem Fu(hs:sysModules<W.h₀.objs.size)(hu:A.units+20<cLine)(R:bU W s.heap Z J)(ra:aK W s.heap Z (.obj n) x)(e:J[n]?=some (.dict lx i))(hk:k.key=true)(hd:k.dep<=6)(rk:aK W s.heap Z k uk)(rw:aK W s.heap Z w u)(h:Q ((getD lx k).getD w) J):wpAny (model W.prog W.w) A (call (.builtin "dict.get") [x,uk,u]) (cu W Z s Q) E s:=by
 refine bM (R.dict_at ra e) λp ad ep hp1 hp2 q hn es ek z_ ho hr hz=>?_;subst q;have hT:s.TypeIs (.ref ad) "dict":=⟨_,ho,rfl⟩
 subst hp1;have q1:(p.1==sysModules)=false:=beq_eq_false_iff_ne.mpr (bC (ak hs hn));refine wpAny_call_entry F.slot_dict_get hT F.entry_dict_get ?_ (F.args_dict_get_3 _ _ _);show wpAny _ _ (dictGet p.1 uk >>=_) _ _ s;refine af (km (nH hu) R ep e hk hd rk (λv b t hg hrb=>?_) λt hg=>?_)
 ·rw [hg] at h;exact al ⟨_,rfl,cu.tok R t hrb h⟩
 ·rw [hg] at h;exact af (wpAny_missed_other q1 (al ⟨_,rfl,cu.tok R t rw h⟩))
theorem si(hs:sysModules<W.h₀.objs.size)(hu:A.units+20<cLine)(R:bU W s.heap Z J)(ra:aK W s.heap Z (.obj n) x)(e:J[n]?=some (.dict lx i))(hk:k.key=true)(hd:k.dep<=6)(hb:lx.length<big)(rk:aK W s.heap Z k uk)(rw:aK W s.heap Z w u)(h:match getD lx k with | some u=>Q u J | none=>Q w (J.set n (gq lx i k w))):wpAny (model W.prog W.w) A (call (.builtin "dict.setdefault") [x,uk,u]) (cu W Z s Q) E s:=by
 refine bM (R.dict_at ra e) λp ad ep hp1 hp2 q hn es ek z_ ho hr hz=>?_;subst q;have hT:s.TypeIs (.ref ad) "dict":=⟨_,ho,rfl⟩
 subst hp1;have q1:(p.1==sysModules)=false:=beq_eq_false_iff_ne.mpr (bC (ak hs hn));refine wpAny_call_entry F.slot_dict_setdefault hT F.entry_dict_setdefault ?_ (F.args_dict_setdefault_3 _ _ _);refine af (af (wpAny_notOrdered_dict hT ?_));refine al ?_;show wpAny _ _ (if (p.1==sysModules)=true then _ else (dictSetDefault p.1 uk u >>=_)) _ _ s;rw [if_neg (by rw [q1];exact ca)];refine af (nu (nH hu) R ep e hk hd rk rw (by unfold big at hb;exact hb) (λv b t hg hrb=>?_) λhg h' t R' S r'=>?_)
 ·rw [hg] at h;exact al ⟨_,rfl,cu.tok R t hrb h⟩
 ·rw [hg] at h;exact al ⟨_,rfl,cu.upd S R' r' h⟩
theorem Fn{j:Int}(hs:sysModules<W.h₀.objs.size)(hu:A.units+20<cLine)(R:bU W s.heap Z J)(ra:aK W s.heap Z (.obj n) x)(e:J[n]?=some (.dict lx i))(rk:aK W s.heap Z (.int j) uk)(hb:lx.length<big)(hg:getD lx (.int j)=some w)(h:Q w (J.set n (qA lx i (.int j)))):wpAny (model W.prog W.w) A (call (.builtin "dict.pop") [x,uk]) (cu W Z s Q) E s:=by
 refine bM (R.dict_at ra e) λp ad ep hp1 hp2 q hn es ek z_ ho hr hz=>?_;subst q;have hT:s.TypeIs (.ref ad) "dict":=⟨_,ho,rfl⟩
 subst hp1;refine wpAny_call_entry F.slot_dict_pop hT F.entry_dict_pop ?_ (F.args_dict_pop_2 _ _);refine af (af (wpAny_notOrdered_dict hT ?_));have hkp:(keyPart uk).isSome=true:=rk.intU (M:=λu=>(keyPart u).isSome=true) λz_=>rfl;refine al ?_;refine Eq.mpr (congrArg (λm=>wpAny _ _ m _ _ _) (if_pos hkp)) ?_;refine af (al ?_);skip;refine af (yV (nH hu) R ep e rfl (aC _) rk (by unfold big at hb;exact hb) hg λen h' t rv R' S=>?_);dsimp only [Option.isNone_some,Bool.false_eq_true,if_false];exact af (wpAny_letGo (al ⟨en.val,rfl,cu.upd S R' rv h⟩))
end
set_option tactic.hygienic true in
theorem Jc{b:BM}{ys:List Value}(hs:sysModules<W.h₀.objs.size)(hu:A.units+20<cLine)(R:bU W s.heap Z J)(ra:aK W s.heap Z a x)(rl:bo W s.heap Z l ys)(h:xp b a l J Q) :
  wpAny (model W.prog W.w) A (call (.builtin (Aa b)) (x::ys)) (cu W Z s Q) E s:=by
 have one:∀{b:BM} {w:V},bo W s.heap Z [w] ys->(∀u,aK W s.heap Z w u->wpAny (model W.prog W.w) A (call (.builtin (Aa b)) [x,u]) (cu W Z s Q) E s)->wpAny (model W.prog W.w) A (call (.builtin (Aa b)) (x::ys)) (cu W Z s Q) E s :=
  λ{b w} rl k=>rl.consU (M:=λys=>wpAny _ _ (call (.builtin (Aa b)) (x::ys)) _ _ _) λu us r rl=>rl.nilU (M:=λus=>wpAny _ _ (call (.builtin (Aa b)) (x::u::us)) _ _ _) (k u r)
 have two:∀{b:BM} {k w:V},bo W s.heap Z [k,w] ys->(∀u v,aK W s.heap Z k u->aK W s.heap Z w v->wpAny (model W.prog W.w) A (call (.builtin (Aa b)) [x,u,v]) (cu W Z s Q) E s)->wpAny (model W.prog W.w) A (call (.builtin (Aa b)) (x::ys)) (cu W Z s Q) E s :=
  λ{b k w} rl g=>rl.consU (M:=λys=>wpAny _ _ (call (.builtin (Aa b)) (x::ys)) _ _ _) λu us r rl=>rl.consU (M:=λus=>wpAny _ _ (call (.builtin (Aa b)) (x::u::us)) _ _ _) λv vs r' rl=>rl.nilU (M:=λvs=>wpAny _ _ (call (.builtin (Aa b)) (x::u::v::vs)) _ _ _) (g u v r r')
 exact E9 (M:=λb a l=>aK W s.heap Z a x->bo W s.heap Z l ys->wpAny _ _ (call (.builtin (Aa b)) (x::ys)) _ _ _) h
  (λn y w e hb h ra rl=>one (b:=.append) rl λu r=>z8 R ra e r hb h)
  (λn y w z e hz hb h ra rl=>one (b:=.extend) rl λu r=>Aq R ra e r hz hb h)
  (λn y w e hb hw h ra rl=>rl.nilU (M:=λys=>wpAny _ _ (call (.builtin "list.pop") (x::ys)) _ _ _) (FO R ra e hb hw h))
  (λn y i k e hk hd h ra rl=>one (b:=.get) rl λu r=>Ft hs hu R ra e hk hd r h)
  (λn y i k w e hk hd h ra rl=>two (b:=.get) rl λu v r r'=>Fu hs hu R ra e hk hd r r' h)
  (λn y i k w e hk hd hb h ra rl=>two (b:=.setdefault) rl λu v r r'=>si hs hu R ra e hk hd hb r r' h)
  (λn y i j w e hb hg h ra rl=>one (b:=.dpop) rl λu r=>Fn hs hu R ra e r hb hg h) ra rl
end
section
variable{E:Value->Shared->Prop}
noncomputable abbrev ip(h:Heap)(d:Addr)(es:Array DictEntry)(ep:Nat):Prop:=h.get? d=some ⟨.type "dict",none,.dict es ep,#[]⟩
theorem wC{d:Addr}{es:Array DictEntry}{ep:Nat}{Q:Value->Shared->Prop}(hd:(d==sysModules)=false)(ho:ip s.heap d es ep)
  (hQ:Q (.ref s.heap.objs.size) {s with heap:=s.heap.push {cls:=.type "dict_keyiterator",data:=.fields #[.ref d,.int 0 0,.int es.size 0,.int ep 0]}}) :
  wpAny (model W.prog W.w) A (pyIter (.ref d)) Q E s:=by
 have hT:s.TypeIs (.ref d) "dict":=⟨_,ho,rfl⟩
 refine wpAny_pyIter_slot hT F.slot_dict_iter (wpAny_call_entry F.slot_dict_iter hT F.entry_dict_iter ?_ (F.args_dict_iter_1 _));refine af (af (wpAny_notOrdered_dict hT ?_));refine al ?_;show wpAny _ _ (Builtin.Dict.showsAll d >>=_) _ _ s;refine af (gX (λq=>absurd q (by rw [hd];simp)) λz_=>al ?_);refine af (wpAny_dictEntries ho rfl (af (wpAny_dictEpoch ho rfl ?_)));exact af (wpAny_newObj_type (al ⟨_,rfl,"dict_keyiterator",_,⟨_,br _ rfl,rfl⟩,F.slot_dict_keyiterator_next.lookup,hQ⟩))
theorem wB{it d:Addr}{ep:Nat}{es:Array DictEntry}{e:DictEntry}{Q:Option Value->Shared->Prop}(hit:s.heap.IsKeyIter it d i es.size ep)
  (hod:ip s.heap d es ep) (hx:es[i]?=some e)
  (hQ:∀h',h'.IsKeyIter it d (i+1) es.size ep->Heap.SameBut it s.heap h'->Q (some e.key) {s with heap:=h'}) :
  wpAny (model W.prog W.w) A (pyNext (.ref it)) Q E s:=by
 refine cG (id hit) λo ho hc hd=>?_;refine af (wpAny_attempt (wpAny_callSpecial?_slot (name:=Str.ofString "__next__") hit.typeIs F.slot_dict_keyiterator_next
  (wpAny_call_entry F.slot_dict_keyiterator_next hit.typeIs F.entry_dict_keyiterator_next ?_ (F.args_dict_keyiterator_next_1 _))))
 refine af (al (af (af ?_)))
 first | refine af (wpAny_typeNameOfWhole_keyiter hit.typeIs (al ?_)) | refine af (wpAny_typeNameOf_keyiter hit.typeIs (al ?_))
 refine af (wpAny_fieldsOf ho hd ?_);have hown:Builtin.Dict_items.ownsTuple "dict_keyiterator"=false:=by decide
 rw [hown,if_neg ca];show wpAny _ _ (if (Value.ref d==Value.none)=true then _ else _) _ _ s;rw [if_neg (show ¬((Value.ref d==Value.none)=true) from ca)];refine af (al (af (wpAny_dictEntries hod rfl ?_)));rw [if_neg (by simp)];refine af (al (af (wpAny_dictEpoch hod rfl ?_)));rw [if_neg (by simp)];refine al ?_;dsimp only;rw [if_neg (Int.not_lt.2 (Int.natCast_nonneg i)),Int.toNat_natCast,hx];refine af ?_
 first | refine af (wpAny_typeNameOfWhole_keyiter hit.typeIs (al ?_)) | refine af (wpAny_typeNameOf_keyiter hit.typeIs (al ?_))
 refine af (wpAny_isOneOf_keyiter hit.typeIs ?_);show wpAny _ _ (setField (.ref it) 1 (rawInt ((i:Int)+1)) >>=_) _ _ s;refine af (wpAny_setField ho hd (by simp) ?_);have hit':(s.heap.update it (Obj.mapFields (·.setIfInBounds 1 (rawInt ((i:Int)+1))))).IsKeyIter it d (i+1) es.size ep :=
  ⟨_,Heap.get?_update_self _ ho (Obj.isFreed_of_fields (Obj.data_mapFields hd _)),(Obj.cls_mapFields ..).trans hc,by rw [Obj.data_mapFields hd];simp [rawInt]⟩
 refine af (aT ?_);refine af (wpAny_isOneOf_keyiter (s:={s with heap:=s.heap.update it (Obj.mapFields (·.setIfInBounds 1 (rawInt ((i:Int)+1))))}) hit'.typeIs ?_);exact al (al ⟨_,rfl,al (hQ _ hit' (bu ..))⟩)
theorem zK{it d:Addr}{ep:Nat}{es:Array DictEntry}{Q:Option Value->Shared->Prop}(hh:A.handled=none)(hit:s.heap.IsKeyIter it d i es.size ep)
  (hod:ip s.heap d es ep) (hx:es[i]?=none)
  (hQ:∀h',Heap.ExtBut it s.heap h'->s.heap.objs.size<=h'.objs.size->Q none {s with heap:=h'}):wpAny (model W.prog W.w) A (pyNext (.ref it)) Q E s:=by
 refine cG (id hit) λo ho hc hd=>?_;refine af (wpAny_attempt (wpAny_callSpecial?_slot (name:=Str.ofString "__next__") hit.typeIs F.slot_dict_keyiterator_next
  (wpAny_call_entry F.slot_dict_keyiterator_next hit.typeIs F.entry_dict_keyiterator_next ?_ (F.args_dict_keyiterator_next_1 _))))
 refine af (al (af (af ?_)))
 first | refine af (wpAny_typeNameOfWhole_keyiter hit.typeIs (al ?_)) | refine af (wpAny_typeNameOf_keyiter hit.typeIs (al ?_))
 refine af (wpAny_fieldsOf ho hd ?_);have hown:Builtin.Dict_items.ownsTuple "dict_keyiterator"=false:=by decide
 rw [hown,if_neg ca];show wpAny _ _ (if (Value.ref d==Value.none)=true then _ else _) _ _ s;rw [if_neg (show ¬((Value.ref d==Value.none)=true) from ca)];refine af (al (af (wpAny_dictEntries hod rfl ?_)));rw [if_neg (by simp)];refine af (al (af (wpAny_dictEpoch hod rfl ?_)));rw [if_neg (by simp)];refine al ?_;dsimp only;rw [if_neg (Int.not_lt.2 (Int.natCast_nonneg i)),Int.toNat_natCast,hx];refine af ?_
 first | refine af (wpAny_typeNameOfWhole_keyiter hit.typeIs (al ?_)) | refine af (wpAny_typeNameOf_keyiter hit.typeIs (al ?_))
 show wpAny _ _ (setField (.ref it) 0 .none >>=_) _ _ s;refine af (wpAny_setField ho hd (by simp) ?_);refine af ?_;dsimp only [newExc,newTuple];refine af (wpAny_newObj_type ?_ (by size_fits));refine af (m:=firstArgMember _ _) (wpAny_of_eq (a:=Value.none) (by first | rfl | (dsimp only [firstArgMember];rfl)) ?_);refine wpAny_newObj_type ?_ (by size_fits);dsimp only [raiseNew];refine af (wpAny_handled ?_);rw [show A.in1.handled=none from hh];refine af (al (wpAny_throw ?_));refine af (wpAny_isInstance (T:="StopIteration") (b:=true) ⟨_,br _ rfl,rfl⟩ isSubtype_stop ?_);refine al (hQ _ (((bu ..).extBut.push _).push _) ?_);rw [bN,bN,(bu ..).1];omega
theorem By(hh:A.handled=none)(I d:Addr)(hne:d≠I)(es:Array DictEntry)(ep:Nat) :
  Walks W.prog W.w A I [I,d] [I] es.size (λi v=>∃e,es[i]?=some e/\v=e.key) (λi h=>h.IsKeyIter I d i es.size ep/\ip h d es ep) where
 sub:=λb hb=>by simp at hb;simp [hb]
 frame:=λz_ z_ z_ st hk=>⟨let ⟨o,ho,x⟩:=st.1;⟨o,hk I (by simp) o ho,x⟩,hk d (by simp) _ st.2⟩
 item:=λi s Q E hi st hQ=>by
  refine wB st.1 st.2 (Array.getElem?_eq_getElem hi) λh' hit' hs'=>?_;exact hQ _ h' s.toks ⟨_,Array.getElem?_eq_getElem hi,rfl⟩ ⟨hit',hs'.extBut _ _ hne st.2⟩ λb o hb e=>hs'.extBut b o (λh=>hb (by simp [h])) e
 done:=λs Q E st hQ=>zK hh st.1 st.2 (by simp) λh' he' z_=>hQ h' s.toks λb o hb e=>he' b o (λh=>hb (by simp [h])) e
 self:=λz_ z_ z_ z_ st hQ=>wpAny_pyIter_keyiter st.1 hQ
theorem zL{d:Addr}{es:Array DictEntry}{ep:Nat}(lo:(d==sysModules)=false):KdlSrc W.prog W.w "dict" d d es.size (λi v=>∃e,es[i]?=some e/\v=e.key) (λh=>ip h d es ep) where
 type:=λz_ hm=>⟨_,hm,rfl⟩
 there:=λz_ hm=>⟨bW hm,bW hm⟩
 keep:=λz_ z_ hm hk=>hk d (.inl rfl) _ hm
 notList:=by decide
 notTuple:=by decide
 hint:=λz_ z_ z_ z_ hm hq=>kdl_hint_dict ⟨_,hm,rfl⟩ hq
 iter:=λz_ z_ hh hm=>⟨_,_,(λz_ z_ hq=>wC lo hm hq),By hh _ d (aW (bW hm)) es ep,⟨⟨_,br _ rfl,rfl,rfl⟩,aJ _ hm⟩⟩
end
section
variable{E:Value->Shared->Prop}{c:V}{x:Value}
theorem v5{l:List (V×V)}{es:Array DictEntry}{vs:Array Value}(r:cX W h Z l es.toList)(hv:ItemsOf (λi v=>∃e,es[i]?=some e/\v=e.key) vs es.size):bo W h Z (l.map (·.1)) vs.toList:=by
 have e:vs.toList=es.toList.map (·.key):=by
  apply List.ext_getElem?;intro i;rcases cS i es.size with hi | hi
  ·have hi':i<vs.size:=by rw [hv.1];exact hi
   refine bO (hv.2 i vs[i] (Array.getElem?_eq_getElem hi')) λe h1 h2=>?_;rw [Array.getElem?_toList,Array.getElem?_eq_getElem hi',h2,List.getElem?_map,Array.getElem?_toList,h1];rfl
  ·rw [List.getElem?_eq_none (by rw [bf,hv.1];exact hi),List.getElem?_eq_none (by rw [aM,bf];exact hi)]
 rw [e];generalize es.toList=L at r
 induction r with
 | nil=>exact .nil
 | cons a b c d _ ih=>exact .cons c ih
theorem bU.grow{h':Heap}(R:bU W h Z J)(k:∀b o,h.get? b=some o->h'.get? b=some o)(hz:h.objs.size<=h'.objs.size){u d:Addr}(hu:h.objs.size<=u)(hd:h.objs.size<=d){o:Ob}
  (r:ml W h' (Z++[(u,d)]) (u,d) o):bU W h' (Z++[(u,d)]) (J++[o]) where
 len:=by simp [R.len]
 ob n o' p e ep:=by
  rcases cS n J.length with hn | hn
  ·rw [au hn] at e;rw [au (by rw [R.len];exact hn)] at ep;exact (R.ob n o' p e ep).mono (λa o e z_ z_=>k _ _ e) (cw ..) (λz_ e=>k _ _ e) (λz_ e=>k _ _ e)
  ·have:n=J.length:=by
    have:=(aE.mp e).1;simp at this;omega
   subst this;rw [aL (ay _)] at e;rw [aL (by rw [R.len];exact ay _),R.len] at ep;simp at e ep;subst e ep;exact r
 apart m n p q hmn ep eq:=by
  have old:∀(m:Nat) (p:Addr×Addr),m<Z.length->(Z++[(u,d)])[m]?=some p->p.1<h.objs.size/\p.2<h.objs.size:=λm p hm e=>by
   rw [au hm] at e;exact bO (R.alive e) λob z_ r=>B3 r.live λw o2 h2 z_=>bO w λo1 h1 z_=>⟨bW h1,bW h2⟩
  have newp:∀(m:Nat) (p:Addr×Addr),¬m<Z.length->(Z++[(u,d)])[m]?=some p->m=Z.length/\p=(u,d):=λm p hm e=>by
   have l:=(aE.mp e).1;simp at l;have:m=Z.length:=by omega
   subst this;rw [aL (ay _)] at e;simp at e;exact ⟨rfl,e.symm⟩
  by_cases hm:m<Z.length<;>rcases Classical.em (n<Z.length) with hn | hn
  ·rw [au hm] at ep;rw [au hn] at eq;exact R.apart m n p q hmn ep eq
  ·refine xa (newp n q hn eq) λz_ x=>?_;subst x;have:=old m p hm ep;exact ⟨aW (ak this.1 hu),aW (ak this.1 hd),aW (ak this.2 hu),aW (ak this.2 hd)⟩
  ·refine xa (newp m p hm ep) λz_ y=>?_;subst y;have:=old n q hn eq;exact ⟨bC (ak this.1 hu),bC (ak this.2 hu),bC (ak this.1 hd),bC (ak this.2 hd)⟩
  ·exact absurd ((newp m p hm ep).1.trans (newp n q hn eq).1.symm) hmn
 new n p ep:=by
  rcases cS n Z.length with hn | hn
  ·rw [au hn] at ep;exact R.new n p ep
  ·have l:=(aE.mp ep).1;simp at l;have:n=Z.length:=by omega
   subst this;rw [aL (ay _)] at ep;simp at ep;subst ep;exact ⟨am R.size hu,am R.size hd⟩
 size:=am R.size hz
 top a o e:=k _ _ (R.top a o e)
 priv a p:=let ⟨o,h1,h2⟩:=R.priv a p;⟨o,k _ _ h1,h2⟩
theorem o6{h':Heap}{t:Nat}{u d:Addr}(k:∀b o,s.heap.get? b=some o->h'.get? b=some o)(hz:s.heap.objs.size<=h'.objs.size)(hu:s.heap.objs.size<=u)(hd:s.heap.objs.size<=d) :
  bA gZ Z s (Z++[(u,d)]) {s with heap:=h',toks:=t} where
 pre:=cw ..
 fresh n p hn e:=by
  rw [aL hn] at e;have:n-Z.length=0:=by
   have:=(aE.mp e).1;simp at this;omega
  rw [this] at e;simp at e;subst e;exact ⟨hu,hd⟩
 keep a o e _ _:=k _ _ e
 same:=⟨_,_,rfl⟩
 size:=hz
theorem cu.list'(R:bU W s.heap Z J){h':Heap}{t ek:Nat}(k:∀b o,s.heap.get? b=some o->h'.get? b=some o)
  (hn:h'.get? s.heap.objs.size=some ⟨.type "list",none,.seq items ek,#[]⟩) (r:bo W s.heap Z l items.toList) (h:Q (.obj J.length) (J++[.list l])) :
  cu W Z s Q (.ref s.heap.objs.size) {s with heap:=h',toks:=t}:=by
 have hz:s.heap.objs.size<=h'.objs.size:=cB (bW hn);have k':bv W s.heap h':=λa o e z_ z_=>k a o e;refine ⟨_,_,_,o6 k hz (ay _) (ay _),R.grow (o:=.list l) k hz (ay _) (ay _) ⟨rfl,items,ek,hn,r.mono k' (cw ..)⟩,.obj (a:=s.heap.objs.size) (d:=s.heap.objs.size) ?_,h⟩;rw [<-R.len,aL (ay _)];simp
set_option tactic.hygienic true in
theorem tM(hs:sysModules<W.h₀.objs.size)(hh:A.handled=none)(R:bU W s.heap Z J)(ra:aK W s.heap Z a x)(h:iy J a=some l)(hb:l.length<big)(hQ:Q (.obj J.length) (J++[.list l])) :
  wpAny (model W.prog W.w) A (call (.type "list") [x]) (cu W Z s Q) E s:=by
 refine pk (M:=λa l=>aK W s.heap Z a x->l.length<big->Q (.obj J.length) (J++[.list l])->wpAny _ _ (call (.type "list") [x]) _ _ _) h (λl ra hb hQ=>?_) (λn l e ra hb hQ=>?_) (λn l i e ra hb hQ=>?_) ra hb hQ
 ·refine cv ra.E λad o items ek q ho hc hd hx hr=>?_;subst q;exact call_list_seq ad (.inr rfl) ho hc hd (λh' c' k hn=>cu.list' (t:=s.toks) R k hn hr hQ) (by rw [<-bf,hr.length];exact fH hb)
 ·refine bz (R.list_at ra e) λp ad ep hp1 hp2 y items ek ho hr hz=>?_;subst y;exact call_list_seq ad (.inl rfl) ho rfl rfl (λh' c' k hn=>cu.list' (t:=s.toks) R k hn hr hQ) (by rw [hz];exact fH hb)
 ·refine bM (R.dict_at ra e) λp ad ep hp1 hp2 z hn es ek z_ ho hr hz=>?_;subst z;have q1:(ad==sysModules)=false:=beq_eq_false_iff_ne.mpr (bC (ak hs hn));exact kdl_call (zL (es:=es) (ep:=ek) q1) hh ho (by rw [hz];rw [aM] at hb;exact fH hb) λh' tk acc' c' k hn' hI=>cu.list' R k hn' (v5 hr hI) hQ
set_option tactic.hygienic true in
theorem vt(hs:sysModules<W.h₀.objs.size)(R:bU W s.heap Z J)(ra:aK W s.heap Z a x)(h:AQ J a=some n)(hb:n<big)(hQ:Q (.int n) J) :
  wpAny (model W.prog W.w) A (call (.builtin "len") [x]) (cu W Z s Q) E s:=by
 refine Dk (M:=λa n=>aK W s.heap Z a x->n<big->Q (.int n) J->wpAny _ _ (call (.builtin "len") [x]) _ _ _) h (λl ra hb hQ=>?_) (λl ra hb hQ=>?_) (λm l e ra hb hQ=>?_) (λm ld i e ra hb hQ=>?_) ra hb hQ
 ·refine eE ra.E λad o items ek y ho hc hd hi=>?_;subst y;have hz:items.size=l.length:=by rw [<-bf];exact hi.length
  refine Calls.call_function_entry kind_len plain_len entry_len (args_len1 _) (wpAny_len_body_list (items:=items) ⟨o,R.top _ _ ho,hc,ek,hd⟩ (by rw [hz];unfold big at hb;omega) ?_);rw [hz];exact cu.tok R _ (.int _ _) hQ
 ·refine cv ra.E λad o items ek z ho hc hd hx hr=>?_;subst z;have hz:items.size=l.length:=by rw [<-bf,hr.length]
  refine PyProof.Rows.len_tuple (items:=items) ⟨o,ho,hc,ek,hd⟩ (by rw [hz];unfold big at hb;omega) ?_;rw [hz];exact cu.tok R _ (.int _ _) hQ
 ·refine bz (R.list_at ra e) λp ad ep hp1 hp2 u items ek ho hr hz=>?_;subst u;refine Calls.call_function_entry kind_len plain_len entry_len (args_len1 _) (wpAny_len_body_list (items:=items) ⟨_,ho,rfl,ek,rfl⟩ (by rw [hz];unfold big at hb;omega) ?_);rw [hz];exact cu.tok R _ (.int _ _) hQ
 ·refine bM (R.dict_at ra e) λp ad ep hp1 hp2 v hn' es ek z_ ho hr hz=>?_;subst v;have q1:(ad==sysModules)=false:=beq_eq_false_iff_ne.mpr (bC (ak hs hn'));have hT:s.TypeIs (.ref ad) "dict":=⟨_,ho,rfl⟩
  refine Calls.call_function_entry kind_len plain_len entry_len (args_len1 _) (af (m:=oneArg "len" _) (al ?_));refine af (m:=callSpecial? (.ref ad) (Str.ofString "__len__")) (wpAny_callSpecial?_slot (name:=Str.ofString "__len__") hT F.slot_dict_len
   (wpAny_call_entry F.slot_dict_len hT F.entry_dict_len ?_ (F.args_dict_len_1 _)))
  show wpAny _ _ (dictSize ad >>=_) _ _ s;refine af (af (wpAny_dictEntries ho rfl (al ?_)));refine af (wpAny_pendingCount_other q1 ?_);refine wpAny_ret_mkInt (af (aT (al ?_)));refine af (wpAny_letGo ?_);have e0:((es.size:Int)+((0:Nat):Int))=(ld.length:Int):=by rw [<-hz];simp
  rw [e0];exact gX (λq=>absurd q (Int.not_lt.mpr (Int.natCast_nonneg _))) λz_=>gX (λq=>absurd q (by have:=hb;unfold big at this;omega)) λz_=>af (wpAny_mkInt (al ⟨_,rfl,cu.tok R _ (.int _ _) hQ⟩))
end
structure ve(K:Frag)(C:Addr)(attrs:List String):Prop where
 get:∀a∈attrs,plainGet K C (Str.ofString a)=true/\findIn K (.ref C) (Str.ofString a)=some none
 has:hasDictIn K C=true
 set:findIn K (.ref C) "__setattr__"=some (some (.builtin "object.__setattr__"))
 over:plainOver K C=true
structure HL(W:Wd)(attrs:List String):Prop where
 sys:sysModules<W.h₀.objs.size
 frag:W.K.In W.h₀
 lim:W.h₀.NoLimit
 cls:∀c C,W.cls c=some C->ve W.K C attrs
theorem lG{x a:String}:(Str.ofString x==Str.ofString a)=(x==a):=by
 rw [Bool.eq_iff_iff];simp only [beq_iff_eq];exact ⟨dc,λh=>by rw [h]⟩
section
variable{E:Value->Shared->Prop}{c:V}{x:Value}{attrs:List String}
theorem bU.K(R:bU W s.heap Z J)(O:HL W attrs):W.K.In s.heap:=O.frag.keeps R.top
theorem ic.noref{l:List (String×V)}(r:ic W h Z l es):es.any (·.refKey)=false:=by
 induction r with
 | nil=>rfl
 | cons _ _ ih=>rw [List.any_cons,ih];rfl
theorem vR{n:String}:∀{l:List (String×V)} {es:List DictEntry},ic W h Z l es->
  (∀v,nC l n=some v->∃b,getL (Str.ofString n) es=some (some b)/\aK W h Z v b)/\(nC l n=none->getL (Str.ofString n) es=some none):=by
 intro l es r;have noref:=r.noref;delta getL;rw [noref];delta nC
 induction r with
 | nil=>exact ⟨λv h=>(cr h),λz_=>rfl⟩
 | @cons x t i v b l es rv r ih =>
  have ih:=ih (by rw [List.any_cons] at noref;simpa using (Bool.or_eq_false_iff.mp noref).2);dsimp only [List.find?_cons];have:(DictEntry.key ⟨i,.str (Str.ofString x) t,b⟩).isStr (Str.ofString n)=(x==n):=lG;rw [this]
  cases hx:x==n with
  | true=>exact ⟨λv h=>(by cases h;exact ⟨_,rfl,rv⟩),λh=>(nomatch h)⟩
  | false=>exact ih
theorem InstAt.mk'{C:Addr}(h1:h.get? p.1=some (instObj C p.2))(h2:h.get? p.2=some (dictOf es n)):InstAt h p.1 (instObj C p.2) C (some (dictOf es n)):=⟨h1,rfl,rfl,h2⟩
theorem E7{n:String}{expr:Bool}(O:HL W attrs)(hn:n∈attrs)(R:bU W s.heap Z J)(ra:aK W s.heap Z a x)(h:sw J a n=some b)(hQ:Q b J):wpAny (model W.prog W.w) A (getAttr x (Str.ofString n) expr) (cu W Z s Q) E s:=by
 unfold sw at h
 split at h
 ·split at h
  ·rename_i e
   refine mW (R.inst_at ra e) λp ep q C es k h1 h2 h3 h4=>?_;subst q;refine bO ((vR (n:=n) h4).1 _ h) λu hu ru=>?_;have ok:=O.cls _ _ h1;refine xa (ok.get n hn) λg1 g2=>?_;refine get_value (R.K O) (InstAt.mk' h2 h3) (plainGet_of g1).1 (findObj_own ok.has g2 rfl (by rw [lookIn_dict];exact hu)) ?_ (cu.tok R _ ru hQ);cases ru<;>rfl
  ·exact cr h
 ·exact cr h
theorem ic.put{n:String}{u:Value}{hs:Int}{t:Tok}(ru:aK W h Z v u){l:List (String×V)}(r:ic W h Z l es):ic W h Z (kZ l n v) (putL (Str.ofString n) hs (.str (Str.ofString n) t) u es):=by
 induction r with
 | nil=>exact .cons ru .nil
 | @cons x t' i v' b' l es rv r ih =>
  dsimp only [kZ,putL];have:(DictEntry.key ⟨i,.str (Str.ofString x) t',b'⟩).isStr (Str.ofString n)=(x==n):=lG;rw [this]
  cases hx:x==n with
  | true=>exact .cons ru r
  | false=>exact .cons rv ih
theorem sY{n:String}{v:V}:∀{l:List (String×V)},(l.map (·.1)).Nodup->((kZ l n v).map (·.1)).Nodup/\∀y,y∈(kZ l n v).map (·.1)->y=n\/y∈l.map (·.1)
 | [],_=>by simp [kZ]
 | (x,w)::r,h=>by
  rw [List.map_cons,List.nodup_cons] at h;have ih:=sY (n:=n) (v:=v) h.2;dsimp only [kZ]
  cases hx:x==n with
  | true =>
   simp only [if_true,List.map_cons,List.nodup_cons];exact ⟨h,λy hy=>.inr hy⟩
  | false =>
   simp only [Bool.false_eq_true,if_false,List.map_cons,List.nodup_cons];refine ⟨⟨λhy=>?_,ih.1⟩,λy hy=>?_⟩
   ·rcases ih.2 _ hy with rfl | hy
    ·simp at hx
    ·exact h.1 hy
   ·rcases aO.mp hy with rfl | hy
    ·exact .inr ai
    ·exact (ih.2 y hy).elim .inl λh=>.inr (aj _ h)
theorem ic.length{h:Heap}{l:List (String×V)}{es:List DictEntry}(r:ic W h Z l es):es.length=l.length:=by
 induction r with
 | nil=>rfl
 | cons _ _ ih=>exact congrArg Nat.succ ih
theorem po{n:String}{v:V}:∀{l:List (String×V)},(kZ l n v).length<=l.length+1
 | []=>by simp [kZ]
 | (x,w)::r=>by
  dsimp only [kZ]
  split
  ·simp
  ·dsimp only [List.length_cons];have:=po (n:=n) (v:=v) (l:=r);omega
theorem yI{cl:String}{l:List (String×V)}{nm:String}{Q:Unit->Shared->Prop}(O:HL W attrs)(hn:nm∈attrs)(R:bU W s.heap Z J)(ra:aK W s.heap Z (.obj n) x)(rb:aK W s.heap Z b y)
  (e:J[n]?=some (.inst cl l)) (hz:l.length<100)
  (h:∀h' t,bU W h' Z (J.set n (.inst cl (kZ l nm b)))->bA gZ Z s Z {s with heap:=h',toks:=t}->Q () {s with heap:=h',toks:=t}) :
  wpAny (model W.prog W.w) A (setAttr x (Str.ofString nm) y) Q E s:=by
 have nd:(l.map (·.1)).Nodup:=by
  exact bO (R.at e) λp hp ro=>fE ro λz_ z_ z_ z_ z_ z_ z_ nd=>nd
 refine mW (R.inst_at ra e) λp ep z C es k h1 h2 h3 h4=>?_;subst z;have ok:=O.cls _ _ h1;refine xa (ok.get nm hn) λg1 g2=>?_;have X:=R.K O;have I:=InstAt.mk' h2 h3;have hne:p.1≠p.2:=λq=>by
  rw [q] at h2;rw [h2] at h3;cases h3
 refine set_plain X I ok.set (osa_open (s:={s with toks:=s.toks+1}) X I ok.over (by unfold takerIn;rw [g2];rfl) λbb=>?_);refine bO (any_some ok.has) λcd hc hd'=>af (al (af (af (wpAny_loadPart h2 (af (looks_clsIn X hc _ _ _ _ (λz_ z_ e=>e) ?_))))));rw [hd'];refine al (a:=some p.2) (af (al (af ?_)));refine af (af (wpAny_askSetting (al (af (wpAny_mkText (af (wpAny_loadPart h3 ?_)))))));have noref:=h4.noref;have c:(!es.toArray.any (·.key.isStr (Str.ofString nm))&&es.toArray.any (·.refKey))=false:=by
  rw [<-Array.any_toList (p:=λe:DictEntry=>e.refKey)];simp [noref]
 dsimp only [dictOf];rw [aRefKeyMayBeTheName_at,c];refine wpAny_updatePart h3 ?_;obtain ⟨key,hkey⟩:∃key:Int,key=PyData.keyHash W.w.params (Str.ofString nm):=⟨_,rfl⟩
 have D':(s.heap.update p.2 (Obj.putName (Str.ofString nm) (PyData.keyHash W.w.params (Str.ofString nm)) (.str (Str.ofString nm) (s.toks+1)) y)).get? p.2=some (dictOf (putL (Str.ofString nm) (PyData.keyHash W.w.params (Str.ofString nm)) (.str (Str.ofString nm) (s.toks+1)) y es) (putN (Str.ofString nm) es k)):=by
  rw [<-putName_dict];exact Heap.get?_update_self _ h3 (by rw [putName_dict];rfl)
 have hrel:=h4.put (n:=nm) (hs:=PyData.keyHash W.w.params (Str.ofString nm)) (t:=s.toks+1) rb;refine af (wpAny_lookBehind D' (pastItsLine_dict ?_) ?_)
 ·rw [List.size_toArray,hrel.length,sizeLine_eq];have:=po (n:=nm) (v:=b) (l:=l);omega
 ·have kk:bv W s.heap _:=R.tupkeep ep (.inr rfl) (bu s.heap p.2 (Obj.putName (Str.ofString nm) (PyData.keyHash W.w.params (Str.ofString nm)) (.str (Str.ofString nm) (s.toks+1)) y));refine al (h _ _ (R.upd (o':=.inst cl (kZ l nm b)) ep (.inr rfl) (bu ..) ⟨C,_,_,h1,?_,D',hrel.mono kk (aD _),(sY nd).1⟩) (lO ep (.inr rfl) (bu ..)));rw [Heap.get?_update_other _ _ (bg hne)];exact h2
end
inductive Gd{α:Type}(n:Nat)(L:α->Prop):KasT α->Prop
 | ret {a:α}:L a->Gd n L (.ret a)
 | ask {i j:Nat} {k:Bool->KasT α}:i<n->j<n->(∀b,Gd n L (k b))->Gd n L (.ask i j k)
theorem Gd.bind{α β:Type}{n:Nat}{L:α->Prop}{L':β->Prop}{f:α->KasT β}{t:KasT α}(h:Gd n L t)(g:∀a,L a->Gd n L' (f a)):Gd n L' (t.bind f):=by
 induction h with
 | ret h=>exact g _ h
 | ask hi hj _ ih=>exact .ask hi hj ih
noncomputable abbrev Pm(n:Nat)(p:Array Nat):Prop:=p.Perm (List.range n).toArray
theorem gR{p:Array Nat}(hn:0<n)(h:Pm n p)(i:Nat):p.getD i 0<n:=by
 unfold Array.getD
 split
 ·rename_i hi
  have:p[i]∈p:=Array.getElem_mem hi;have:=h.mem_iff.mp this
  simpa using this
 ·exact hn
theorem rh{p:Array Nat}(h:Pm n p)(i j:Nat):Pm n (kas_rev p i j):=(mirror_perm _ _ _ _).trans h
theorem Bs{p:Array Nat}(h:Pm n p)(i j:Nat):Pm n (bubble p i j):=(bubble_perm _ _ _).trans h
theorem xK{n:Nat}{p:Array Nat}(hn:0<n)(h:Pm n p):∀(f m:Nat),Gd n (λz_=>True) (kas_asc p f m)
 | 0,m=>.ret trivial
 | f+1,m=>.ask (gR hn h _) (gR hn h _) λc=>by cases c<;>skip;exact xK hn h f _;exact .ret trivial
theorem pL{n:Nat}(hn:0<n):∀(f:Nat) (p:Array Nat) (m q:Nat),Pm n p->Gd n (λr:Array Nat×Nat×Nat=>Pm n r.1) (kas_desc f p m q)
 | 0,p,m,q,h=>.ret h
 | f+1,p,m,q,h=>.ask (gR hn h _) (gR hn h _) λc=>by
  cases c
  ·refine .ask (gR hn h _) (gR hn h _) λd=>?_;cases d
   ·exact pL hn f p _ _ h
   ·exact .ret h
  ·simp only [if_true]
   split
   ·exact pL hn f _ _ _ (rh h _ _)
   ·exact pL hn f _ _ _ h
theorem vP(hn:0<n)(m k:Nat){p:Array Nat}(h:Pm n p):Gd n (λr:Nat×Array Nat=>Pm n r.2) (kas_tail3 m k p):=(xK hn (rh h _ _) _ _).bind λz_ z_=>.ret (rh h _ _)
theorem pj(hn:0<n)(m k:Nat){p:Array Nat}(h:Pm n p):Gd n (λr:Nat×Array Nat=>Pm n r.2) (kas_descPart m k p):=(pL hn _ _ _ _ h).bind λr hr=>by
 split
 ·exact vP hn _ _ (rh hr _ _)
 ·exact vP hn _ _ hr
theorem CW(hn:0<n)(k:Nat){p:Array Nat}(h:Pm n p):Gd n (λr:Nat×Array Nat=>Pm n r.2) (kas_count k p):=(xK hn h _ _).bind λm z_=>by
 split
 ·exact .ret h
 ·split
  ·refine .ask (gR hn h _) (gR hn h _) λc=>?_;cases c
   ·exact pj hn _ _ (rh h _ _)
   ·exact .ret h
  ·exact pj hn _ _ h
theorem qH{n:Nat}{p:Array Nat}(hn:0<n)(h:Pm n p)(k:Nat):∀(f l r:Nat),Gd n (λz_=>True) (kas_place p k f l r)
 | 0,l,r=>.ret trivial
 | f+1,l,r=>by
  unfold kas_place
  split
  ·exact .ret trivial
  ·refine .ask (gR hn h _) (gR hn h _) λc=>?_;cases c
   ·exact qH hn h k f _ _
   ·exact qH hn h k f _ _
theorem CV{n:Nat}(hn:0<n):∀(f:Nat) (p:Array Nat) (k:Nat),Pm n p->Gd n (Pm n) (kas_bin f p k)
 | 0,p,k,h=>.ret h
 | f+1,p,k,h=>(qH hn h k _ _ _).bind λl z_=>CV hn f _ _ (Bs h _ _)
theorem tV(hn:0<n):Gd n (Pm n) (kas_sort n):=(CW hn n (Array.Perm.refl _)).bind λr hr=>by
 split
 ·exact CV hn _ _ _ hr
 ·exact .ret hr
theorem CX{L:α->Prop}(c:Nat->Nat->Bool){t:KasT α}(h:Gd n L t):L (Gj c t):=by
 induction h with
 | ret h=>exact h
 | ask _ _ _ ih=>exact ih _
theorem mR(l:List V):(cT l).Perm l:=by
 unfold cT
 split
 ·exact List.Perm.refl _
 ·rename_i h
  have hp:=CX (λi j=>zz (l.getD i .none) (l.getD j .none)) (tV (n:=l.length) (by omega));have hp:=(Array.perm_iff_toList_perm.mp hp).map λi=>l.getD i .none;refine hp.trans ?_;rw [List.toList_toArray];have:(List.range l.length).map (λi=>l.getD i .none)=l:=by
   apply List.ext_getElem
   ·simp
   ·intro i h1 h2;simp at h1;simp [h1]
  rw [this]
theorem fV:v∈cT l↔v∈l:=(mR l).mem_iff
theorem uS(l:List V):(cT l).length=l.length:=(mR l).length_eq
section
variable{E:Value->Shared->Prop}{c:V}{x:Value}
theorem IF{L:α->Prop}{cmp:Nat->Nat->(Bool->Shared->Prop)->Shared->Prop}{I:Shared->Prop}{c:Nat->Nat->Bool}{Q:α->Shared->Prop}
  (hc:∀i j C s,i<n->j<n->I s->(∀s',I s'->C (c i j) s')->cmp i j C s) {t:KasT α} (h:Gd n L t):∀s,I s->(∀s',I s'->Q (Gj c t) s')->t.kasWp cmp Q s:=by
 induction h with
 | ret h=>exact λs hi hq=>hq s hi
 | ask h1 h2 _ ih=>exact λs hi hq=>hc _ _ _ s h1 h2 hi λs' hi'=>ih _ s' hi' hq
theorem F9(r:bo W h Z l vs){p:List Nat}(hp:∀i∈p,i<l.length):bo W h Z (p.map λi=>l.getD i .none) (p.map λi=>vs.getD i .none):=by
 induction p with
 | nil=>exact .nil
 | cons i p ih =>
  have hi:=hp i ai;refine bO (r.get (aA hi)) λu h1 h2=>?_;refine .cons ?_ (ih λj hj=>hp j (aj _ hj));show aK W h Z (l.getD i .none) (vs.getD i .none);rw [List.getD_eq_getElem?_getD,List.getD_eq_getElem?_getD,aA hi,h1];exact h2
theorem DV{ad:Addr}{P:PySem.Fin->Shared->Prop}{κ:SortKind}(ho:s.heap.get? ad=some (seqObj "list" vs.toArray n))(hl:vs.length=l.length)(h64:l.length<64)
  (kind:2<=l.length->∀h1 t Q',(∀b o,b≠ad->s.heap.get? b=some o->h1.get? b=some o)->(∀t',Q' κ {s with heap:=h1,toks:=t'})->wpAny (model W.prog W.w) A (keyKind' vs.toArray) Q' (λz_ z_=>False) {s with heap:=h1,toks:=t})
  (ask:2<=l.length->∀h1 t i j Q',i<l.length->j<l.length->(∀b o,b≠ad->s.heap.get? b=some o->h1.get? b=some o)->(∀t',Q' (zz (l.getD i .none) (l.getD j .none)) {s with heap:=h1,toks:=t'})->
   wpAny (model W.prog W.w) A (keyLt' κ (vs.getD i .none) (vs.getD j .none)) Q' (λz_ z_=>False) {s with heap:=h1,toks:=t})
  (h:∀h' t c (p:List Nat),(∀i∈p,i<l.length)->cT l=p.map (λi=>l.getD i .none)->(∀b o,b≠ad->s.heap.get? b=some o->h'.get? b=some o)->
   h'.get? ad=some (seqObj "list" (p.map λi=>vs.getD i .none).toArray c)->P (.done (.ret .none)) {s with heap:=h',toks:=t}) :
  wpAny (model W.prog W.w) A (Builtin.«list.sort» ⟨[.ref ad],[]⟩) P E s:=by
 have ha:ad<s.heap.objs.size:=bW ho;obtain ⟨e1,ho1⟩:∃e1,(s.heap.update ad (Obj.mapSeq λz_=>(#[]:Array Value))).get? ad=some (seqObj "list" #[] e1):=⟨_,get?_update_seq ho λz_=>#[]⟩
 obtain ⟨h1,hh1⟩:∃h1,h1=((s.heap.update ad (Obj.mapSeq λz_=>(#[]:Array Value))).push (seqObj "tuple" vs.toArray 0)).push (seqObj "list" #[] 0):=⟨_,rfl⟩
 have keep:∀b o,b≠ad->s.heap.get? b=some o->h1.get? b=some o:=λb o hb e=>by
  rw [hh1];exact aJ _ (aJ _ ((Heap.get?_update_other _ _ (bg hb)).trans e))
 have na:h1.get? ad=some (seqObj "list" #[] e1):=by
  rw [hh1];exact aJ _ (aJ _ ho1)
 rw [list_sort_plain];refine af (listItems_at ho rfl ?_);refine af (listUpdate_at ho rfl ?_ (by rw [List.size_toArray,sizeLine_eq];omega) (aC _));refine af (seqEpoch_at ho1 rfl ?_);refine af (wpAny_newTuple ?_ (by show vs.length<=_;rw [sizeLine_eq];omega));refine af (wpAny_newList ?_ (aC _));refine aT ?_;show wpAny (model W.prog W.w) A _ P E {s with heap:=((s.heap.update ad (Obj.mapSeq λz_=>(#[]:Array Value))).push (seqObj "tuple" vs.toArray 0)).push (seqObj "list" #[] 0)};rw [<-hh1];dsimp only;refine Or.elim (Classical.em (vs.toArray.size<2)) (λh2=>?_) (λh2=>?_)
 ·rw [if_pos h2,if_pos h2];refine af (al ?_);rw [StateT.run_pure];refine af (al ?_);dsimp only;have hout:(Array.map (λx=>x.2) (arrOf (SortSt.mk' general' (vs.toArray.zip vs.toArray) #[] 7 none)))=((List.range l.length).map λi=>vs.getD i .none).toArray:=by
   show Array.map (λx=>x.2) (vs.toArray.zip vs.toArray)=_;apply Array.toList_inj.mp;apply List.ext_getElem
   ·simp [hl]
   ·intro i h1 h2;simp at h1 h2;simp [hl];rw [aA (by omega)];rfl
  rw [hout];refine af (seqEpoch_at na rfl ?_);refine af (listUpdate_at na rfl ?_ (aC _) (by rw [List.size_toArray,aM,List.length_range,sizeLine_eq];omega));rw [if_neg (λe=>Bool.noConfusion ((bne_self_eq_false _).symm.trans e))];rw [List.size_toArray] at h2;refine al (h _ _ _ (List.range l.length) (λi hi=>List.mem_range.mp hi) ?_ (λb o hb e=>(Heap.get?_update_other _ _ (bg hb)).trans (keep b o hb e)) (get?_update_seq na λz_=>((List.range l.length).map λi=>vs.getD i .none).toArray));unfold cT;rw [if_pos (by omega)];apply List.ext_getElem
  ·simp
  ·intro i h1 h2;simp at h2;simp [h2]
 ·rw [if_neg h2,if_neg h2];rw [List.size_toArray] at h2;refine af (aI (kind (by omega) h1 s.toks (λκ' s'=>κ'=κ/\∃t,s'={s with heap:=h1,toks:=t}) keep λt'=>⟨rfl,t',rfl⟩) (λκ' s' hk=>?_) λz_ z_ x=>x.elim);refine y6 hk λq t1 y=>?_;subst q;subst y;have wp:=IF (n:=l.length) (cmp:=kas_ask W.prog W.w A κ' vs) (I:=λs'=>∃t,s'={s with heap:=h1,toks:=t}) (c:=λi j=>zz (l.getD i .none) (l.getD j .none))
   (Q:=λp s'=>(∀i∈p.toList,i<l.length)/\cT l=p.toList.map (λi=>l.getD i .none)/\∃t,s'={s with heap:=h1,toks:=t})
   (λi j C s' hi hj z hC=>xe z λt e=>by subst e;exact ask (by omega) h1 t i j C hi hj keep λt'=>hC _ ⟨t',rfl⟩)
   (tV (n:=l.length) (by omega)) {s with heap:=h1,toks:=t1} ⟨t1,rfl⟩ (λs' hs'=>by
    have hp:=CX (λi j=>zz (l.getD i .none) (l.getD j .none)) (tV (n:=l.length) (by omega));refine ⟨λi hi=>?_,?_,hs'⟩
    ·have:=hp.mem_iff.mp (Array.mem_toList_iff.mp hi)
     simpa using this
    ·unfold cT;rw [if_neg (by omega)])
  rw [<-hl] at wp;refine af (aI (kat_run (κ:=κ') (vs:=vs) (ks:=vs) (Q:=λst' s'=>∃p:Array Nat,arrOf st'=p.map (kas_item (vs.toArray.zip vs.toArray))/\failedOf st'=none/\
   (∀i∈p.toList,i<l.length)/\cT l=p.toList.map (λi=>l.getD i .none)/\∃t,s'={s with heap:=h1,toks:=t})
   rfl (by omega) (by omega) (λp' st' s' a1 a2 a3 a4=>⟨p',a2,a3,by rw [<-hl];exact a4.1,a4.2⟩) wp) ?_ λz_ z_ e=>e)
  rintro ⟨⟨⟩,st'⟩ s' ⟨p,har,hf,hp1,hp2,t2,rfl⟩;dsimp only;rw [kat_snds rfl har];have hpl:p.toList.length=l.length:=by
   have:=congrArg List.length hp2;rw [uS,aM] at this;exact this.symm
  refine af (seqEpoch_at na rfl ?_);refine af (listUpdate_at na rfl ?_ (aC _) (by rw [List.size_toArray,aM,hpl,sizeLine_eq];omega));rw [hf];rw [if_neg (λe=>Bool.noConfusion ((bne_self_eq_false _).symm.trans e))];exact al (h _ _ _ p.toList hp1 hp2 (λb o hb e=>(Heap.get?_update_other _ _ (bg hb)).trans (keep b o hb e)) (get?_update_seq na λz_=>(p.toList.map λi=>vs.getD i .none).toArray))
end
noncomputable abbrev gE(s:Shared):Nat:=s.heap.objs.size
theorem oX{M:Model}{Γ:Ctx}{p:Pos}{t:Sem PySem.Fin}{fs:List Frame}{e:End}(h:Runs M Γ p t fs s e s'):gE s<=gE s':=by
 induction h<;>(try simp only [gE,Shared.setGen,bN,Heap.size_update] at *)<;>omega
theorem uO{M:Model}{Γ:Ctx}{p:Pos}{r:Result}(h:Returns M Γ p s r s'):gE s<=gE s':=oX h
theorem yZ{M:Model}{Γ:Ctx}{p:Pos}{g:Nat}{r:Resume}{res:GenResult}(h:Wakes M Γ p g r s res s'):gE s<=gE s':=by
 unfold Wakes at h
 split at h
 ·exact h.elim
 ·split at h
  ·refine ib h λe₁ s₁ hr z_ z_ q=>?_;subst q;exact (oX hr:gE (s.setGen g .running)<=gE s₁)
  ·rw [h.2];exact ay _
  ·rw [h.2];exact ay _
 ·refine ib h λe₁ s₁ hr z_ z_ w=>?_;subst w;exact (oX hr:gE (s.setGen g .running)<=gE s₁)
 ·rw [h.2];exact ay _
 ·rw [h.2];exact ay _
theorem GQ(M:Model)(Γ:Ctx)(n:Nat)(t:Sem α):∀(Q:α->Pos->Shared->Prop) (E:Value->Pos->Shared->Prop) (p:Pos) (s:Shared),n<=gE s->Sem.wp M Γ t Q E p s->
  Sem.wp M Γ t (λa p' s'=>n<=gE s'/\Q a p' s') (λe p' s'=>n<=gE s'/\E e p' s') p s:=by
 induction t with
 | pure a=>intro Q E p s hn h;exact ⟨hn,h⟩
 | raise e=>intro Q E p s hn h;exact ⟨hn,h⟩
 | unsupported _=>intro Q E p s _ h;exact h
 | finish _=>intro Q E p s _ h;exact h
 | rule _ k ih=>intro Q E p s hn h;exact ih () Q E p s hn h
 | «at» p' k ih=>intro Q E p s hn h;exact ih () Q E p' s hn h
 | load a _ k ih=>intro Q E p s hn h;refine bO h λo ho h=>?_;exact ⟨o,ho,ih o Q E p s hn h⟩
 | update a _ f k ih=>intro Q E p s hn h;exact ⟨h.1,ih () Q E p _ (by simpa only [gE,Heap.size_update] using hn) h.2⟩
 | loadIfAlive a k ih=>intro Q E p s hn h;exact ih _ Q E p s hn h
 | point _ k ih=>intro Q E p s hn h;exact ih () Q E p s hn h
 | register _ _=>intro Q E p s _ h;exact h
 | alloc o k ih=>intro Q E p s hn h;exact ih _ Q E p _ (am hn (by show _<=(s.heap.push o).objs.size;rw [bN];exact Nat.le_succ _)) h
 | fresh k ih=>intro Q E p s hn h;exact ih _ Q E p _ hn h
 | ask k ih=>intro Q E p s hn h;exact ih _ Q E p s hn h
 | choose src m k ih=>intro Q E p s hn h;exact ⟨h.1,ih _ Q E p _ hn h.2⟩
 | os q _ k ih=>intro Q E p s hn h;exact ih _ Q E p _ hn h
 | call c hd _ _ k ih=>intro Q E p s hn h;refine dE h λr s' hr h=>?_;exact ⟨r,s',hr,ih r Q E p s' (am hn (uO hr)) h⟩
 | handled own k ih=>intro Q E p s hn h;exact ih _ Q E p s hn h
 | genState g k ih=>intro Q E p s hn h;refine bO h λst hs h=>?_;exact ⟨st,hs,ih _ Q E p s hn h⟩
 | newGen c k ih=>intro Q E p s hn h;exact ih _ Q E p _ hn h
 | resume g r _ k ih=>intro Q E p s hn h;refine dE h λres s' hw h=>?_;exact ⟨res,s',hw,ih res Q E p s' (am hn (yZ hw)) h⟩
 | yield _ _ _ _=>intro Q E p s _ h;exact h
 | stack k ih=>intro Q E p s hn h;exact ih _ Q E p s hn h
 | fork _ _=>intro Q E p s _ h;exact h
 | thread k ih=>intro Q E p s hn h;exact ih _ Q E p s hn h
 | await _ _ _ _ _=>intro Q E p s _ h;exact h
theorem od{M:Model}{t:Sem α}{Q:α->Shared->Prop}{E:Value->Shared->Prop}(h:wpAny M A t (λa s'=>gE s<=gE s'->Q a s') E s):wpAny M A t Q E s:=by
 have h2:wpAny M A t (λa s'=>gE s<=gE s'/\(gE s<=gE s'->Q a s')) (λe s'=>gE s<=gE s'/\E e s') s:=λΓ p hΓ=>GQ M Γ (gE s) t _ _ p s (ay _) (h Γ p hΓ);exact aI h2 (λz_ z_ x=>x.2 x.1) (λz_ z_ x=>x.2)
section
variable{E:Value->Shared->Prop}{c:V}{x:Value}
theorem cu.keep{h':Heap}{t:Nat}(R:bU W s.heap Z J)(k:∀b o,s.heap.get? b=some o->h'.get? b=some o)(hz:s.heap.objs.size<=h'.objs.size)(r:aK W h' Z a x)(h:Q a J):cu W Z s Q x {s with heap:=h',toks:=t} :=
 ⟨Z,J,a,cW k hz,R.keep k hz,r,h⟩
theorem Ij{i j:Int}(hh:A.handled=none)(R:bU W s.heap Z J)(ra:aK W s.heap Z (.int i) x)(rb:aK W s.heap Z (.int j) y)(hQ:Q (.int (max i j)) J) :
  wpAny (model W.prog W.w) A (call (.builtin "max") [x,y]) (cu W Z s Q) E s:=by
 refine xe ra.E λt q=>?_;subst q;refine xe rb.E λu z=>?_;subst z;refine od (max_two_ints hh λh' tk hk=>?_);rcases Classical.em (j>i) with c | c
 ·rw [if_pos c];intro hz;have e:max i j=j:=by omega
  rw [e] at hQ;exact cu.keep R hk hz (aK.int j u) hQ
 ·rw [if_neg c];intro hz;have e:max i j=i:=by omega
  rw [e] at hQ;exact cu.keep R hk hz (aK.int i t) hQ
theorem Ic(R:bU W s.heap Z J)(ra:aK W s.heap Z a x)(h:jq .int [a] J Q):wpAny (model W.prog W.w) A (call (.type "int") [x]) (cu W Z s Q) E s:=by
 induction a using V.ind with
 | h2 i=>exact ra.intU (M:=λx=>wpAny _ _ (call _ [x]) _ _ _) λt=>call_int_int (cu.here R (.int _ _) h)
 | h1 b=>exact ra.boolU (M:=λx=>wpAny _ _ (call _ [x]) _ _ _) (call_int_bool (cu.tok R _ (.int _ _) h))
 | _=>exact h.elim
theorem xO(R:bU W s.heap Z J)(ra:aK W s.heap Z a x)(h:jq .isTuple [a] J Q):wpAny (model W.prog W.w) A (call (.builtin "isinstance") [x,.type "tuple"]) (cu W Z s Q) E s:=by
 induction a using V.ind with
 | ht l=>exact ra.tupU (M:=λx=>wpAny _ _ (call _ [x,_]) _ _ _) λad o items ek ho hc hd hx hr=>IsiPair.tuple_tuple ho hc (cu.here R (.bool _) h)
 | h0=>exact ra.noneU (M:=λx=>wpAny _ _ (call _ [x,_]) _ _ _) (IsiPair.NoneType_tuple (cu.tok R _ (.bool _) h))
 | h2 i=>exact ra.intU (M:=λx=>wpAny _ _ (call _ [x,_]) _ _ _) λt=>IsiPair.int_tuple (cu.tok R _ (.bool _) h)
 | h3 i=>exact ra.strU (M:=λx=>wpAny _ _ (call _ [x,_]) _ _ _) λt=>IsiPair.str_tuple (cu.tok R _ (.bool _) h)
 | h4 n =>
  refine kj (f:=λz_=>Q (.bool false) J) h λl e h=>bz (R.list_at ra e) λp ad ep hp1 hp2 q items ek ho hr hz=>?_;subst q;exact IsiPair.list_tuple ho rfl (cu.tok R _ (.bool _) h)
 | _=>exact h.elim
theorem EH(hh:A.handled=none)(R:bU W s.heap Z J)(ra:aK W s.heap Z a x)(h:gz J a=some l)(hb:l.length<big)(hQ:Q (.tup l) J) :
  wpAny (model W.prog W.w) A (call (.type "tuple") [x]) (cu W Z s Q) E s:=by
 refine n9 (M:=λa=>aK W s.heap Z a x->wpAny _ _ (call (.type "tuple") [x]) _ _ _) h (λra=>?_) (λn e ra=>?_) ra
 ·exact ra.tupU (M:=λx=>wpAny _ _ (call _ [x]) _ _ _) λad o items ek ho hc hd hx hr=>call_tuple_same ⟨o,ho,hc,ek,hd⟩ (cu.here R (.tup ho hc hd hx hr) hQ)
 ·refine bz (R.list_at ra e) λp ad ep hp1 hp2 q items ek ho hr hz=>?_;subst q;refine od (call_tuple_list (items:=items) ⟨_,ho,rfl,ek,rfl⟩ (λh' k hz=>?_) (by rw [hz];exact fH hb));have kk:∀b o,s.heap.get? b=some o->(h'.push {cls:=.type "tuple",data:=.seq items}).get? b=some o:=λb o e=>aJ _ (k b o e);exact cu.keep (t:=s.toks) R kk hz (.tup (br _ rfl) rfl rfl ⟨rfl,rfl,λp=>(R.priv _ p).elim λz_ h1=>bh _ (bW (k _ _ h1.1))⟩ (hr.mono (λb o e z_ z_=>kk b o e) (aD _))) hQ
theorem IM(hh:A.handled=none)(R:bU W s.heap Z J)(ra:aK W s.heap Z (.obj n) x)(e:J[n]?=some (.list l))(hi:∀v∈l,∃i:Int,v=.int i/\0<=i/\i<2^40)(hQ:Q (.int (l.map V.toInt).sum) J) :
  wpAny (model W.prog W.w) A (call (.builtin "sum") [x]) (cu W Z s Q) E s:=by
 refine bz (R.list_at ra e) λp ad ep hp1 hp2 q items ek ho hr hz=>?_;subst q;have hl:s.heap.IsList ad items:=⟨_,ho,rfl,ek,rfl⟩
 refine od (call_sum_walkG (wpAny_pyIter_list hl ⟨_,_,_,_,_,_,λi=>((l[i]?).getD .none).toInt,rfl,Walks.list (by exact hh) _ ad (aW (bW ho)) items,?_,?_,?_,?_⟩))
 ·exact ⟨⟨_,br _ rfl,rfl,rfl⟩,⟨_,aJ _ ho,rfl,ek,rfl⟩⟩
 ·intro b hb;simp only [List.mem_cons,aq,or_false] at hb;rw [bN];rcases hb with rfl | rfl
  ·exact bX _
  ·exact Nat.lt_succ_of_lt (bW ho)
 ·intro i v hv;have hlt:i<l.length:=by rw [<-hz];exact (Array.getElem?_eq_some_iff.mp hv).1
  refine bO (iU hr (aA hlt)) λu hu ru=>?_;rw [hv] at hu;cases hu;refine bO (hi l[i] (List.getElem_mem hlt)) λk hk z_=>?_;rw [hk] at ru;refine xe ru.E λt y=>?_;subst y;refine ⟨t,?_⟩;show Value.int k t=Value.int ((l[i]?.getD V.none).toInt) t;rw [aA hlt,hk];rfl
 ·intro h' tk t' hk hsz';have key:preSum (λi=>((l[i]?).getD .none).toInt) items.size=(l.map V.toInt).sum:=by
   rw [hz];have:∀n,n<=l.length->preSum (λi=>((l[i]?).getD .none).toInt) n=((l.take n).map V.toInt).sum:=by
    intro n
    induction n with
    | zero=>intro _;simp [preSum]
    | succ n ih =>
     intro hn;rw [preSum,ih (by omega),List.take_succ_eq_append_getElem (by omega),List.map_append,List.sum_append,aA (by omega)];simp
   rw [this l.length (ay _),List.take_length]
  rw [key];refine cu.keep R (λb o e=>hk b o (λhb=>?_) (aJ _ e)) hsz' (.int _ _) hQ;simp only [List.mem_cons,aq,or_false] at hb;subst hb;exact bh _ (bW e)
theorem tZ(h:Js v=true):∃i,v=.int i:=V.intU (M:=λv=>∃i,v=.int i) (f:=λv=>Js v=true) h (λi z_=>⟨i,rfl⟩) bF (λz_=>bF) (λz_=>bF) (λz_=>bF) (λz_=>bF) (λz_=>bF)
theorem t5(h:JZ v=true):∃i,v=.str i:=by
 induction v using V.ind with
 | h3 s=>exact ⟨s,rfl⟩
 | _=>exact bF h
theorem nJ(h:xM v=true):∃i j,v=.tup [.int i,.int j]:=by
 refine V.tupU (M:=λv=>∃i j,v=.tup [.int i,.int j]) (f:=λv=>xM v=true) h (λl h=>?_) bF (λz_=>bF) (λz_=>bF) (λz_=>bF) (λz_=>bF) (λz_=>bF);rcases l with _ | ⟨a,l⟩
 ·exact bF h
 refine V.intU (M:=λa=>∃i j,V.tup (a::l)=.tup [.int i,.int j]) (f:=λa=>xM (.tup (a::l))=true) h (λi h=>?_) bF (λz_=>bF) (λz_=>bF) (λz_=>bF) (λz_=>bF) (λz_=>bF);rcases l with _ | ⟨b,l⟩
 ·exact bF h
 refine V.intU (M:=λb=>∃i' j,V.tup (.int i::b::l)=.tup [.int i',.int j]) (f:=λb=>xM (.tup (.int i::b::l))=true) h (λj h=>?_) bF (λz_=>bF) (λz_=>bF) (λz_=>bF) (λz_=>bF) (λz_=>bF);rcases l with _ | ⟨c,l⟩
 ·exact ⟨i,j,rfl⟩
 ·exact bF h
theorem V.strU{M:V->Prop}{f:V->Prop}(h:f v)(k1:∀n,f (.str n)->M (.str n))(n0:¬f .none)(n1:∀b,¬f (.bool b))(n2:∀i,¬f (.obj i))(n3:∀i,¬f (.int i))(n4:∀l,¬f (.tup l))(n5:∀l,¬f (.ints l)):M v:=by
 induction v using V.ind with
 | h0=>exact absurd h n0
 | h1 b=>exact absurd h (n1 b)
 | h2 b=>exact absurd h (n3 b)
 | h3 b=>exact k1 b h
 | h4 n=>exact absurd h (n2 n)
 | h5 b=>exact absurd h (n5 b)
 | ht b=>exact absurd h (n4 b)
theorem nK(h:AF v=true):∃i j,v=.tup [.str i,.int j]:=by
 refine V.tupU (M:=λv=>∃i j,v=.tup [.str i,.int j]) (f:=λv=>AF v=true) h (λl h=>?_) bF (λz_=>bF) (λz_=>bF) (λz_=>bF) (λz_=>bF) (λz_=>bF);rcases l with _ | ⟨a,l⟩
 ·exact bF h
 refine V.strU (M:=λa=>∃i j,V.tup (a::l)=.tup [.str i,.int j]) (f:=λa=>AF (.tup (a::l))=true) h (λi h=>?_) bF (λz_=>bF) (λz_=>bF) (λz_=>bF) (λz_=>bF) (λz_=>bF);rcases l with _ | ⟨b,l⟩
 ·exact bF h
 refine V.intU (M:=λb=>∃i' j,V.tup (.str i::b::l)=.tup [.str i',.int j]) (f:=λb=>AF (.tup (.str i::b::l))=true) h (λj h=>?_) bF (λz_=>bF) (λz_=>bF) (λz_=>bF) (λz_=>bF) (λz_=>bF);rcases l with _ | ⟨c,l⟩
 ·exact ⟨i,j,rfl⟩
 ·exact bF h
end
section
variable{E:Value->Shared->Prop}{c:V}{x:Value}
theorem yY{T:String}{v:Value}(ht:∀s:Shared,(∀b o,h.get? b=some o->s.heap.get? b=some o)->s.TypeIs v T){M:Model}:Looks M h (typeOf v) (.type T):=λA Q E s k q=>wpAny_typeOf (ht s k) q
theorem zw{T:String}{P:SortKind->Shared->Prop}{E:Value->Shared->Prop}(hT:T≠"tuple")(r:bo W s.heap Z l vs)(h2:2<=l.length)(ht:∀v∈l,∀u,aK W s.heap Z v u->∀s:Shared,s.TypeIs u T)(h:P oneType' s) :
  wpAny (model W.prog W.w) A (keyKind' vs.toArray) P E s:=by
 refine kas_kind (T:=.type T) (by rw [r.length];exact h2) (λu hu=>?_) ?_ (by simp) h
 ·exact bO (zA r u hu) λv hv hr=>yY λs' z_=>ht v hv u hr s'
 ·simp [bne,hT]
theorem vQ(r:bo W h Z l vs)(hi:i<l.length):aK W h Z (l.getD i .none) (vs.getD i .none)/\l.getD i .none∈l:=by
 refine bO (r.get (aA hi)) λu h1 h2=>?_;have e:l.getD i .none=l[i]:=by rw [List.getD_eq_getElem?_getD,aA hi];rfl
 have e2:vs.getD i .none=u:=by rw [List.getD_eq_getElem?_getD,h1];rfl
 rw [e,e2];exact ⟨h2,List.getElem_mem hi⟩
structure KV(W:Wd)(A:Around)(Z:Rho)(h:Heap)(l:List V)(vs:List Value)(κ:SortKind):Prop where
 kind:∀{P:SortKind->Shared->Prop} {E:Value->Shared->Prop} (s:Shared),s.heap=h->2<=l.length->P κ s->wpAny (model W.prog W.w) A (keyKind' vs.toArray) P E s
 lt:∀{P:Bool->Shared->Prop} {E:Value->Shared->Prop} (s:Shared) (i j:Nat),s.heap=h->i<l.length->j<l.length->(∀t,P (zz (l.getD i .none) (l.getD j .none)) {s with toks:=t})->
  wpAny (model W.prog W.w) A (keyLt' κ (vs.getD i .none) (vs.getD j .none)) P E s
theorem zH{b:Bool}{P:Bool->Shared->Prop}{u v:Addr}{ou ov:Obj}{k1 k2:Nat}{p q p' q':Value}{r:Bool}{E:Value->Shared->Prop}(hu:s.heap.get? u=some ou)(du:ou.data=.seq #[p,q] k1)(hv:s.heap.get? v=some ov)(dv:ov.data=.seq #[p',q'] k2)
  {e:Bool} (h1:∀(Q:Bool->Shared->Prop) E,Q e s->wpAny (model W.prog W.w) A (eqBool p p') Q E s)
  (h2:e=false->∀(Q:Bool->Shared->Prop) E,(∀t,Q r {s with toks:=t})->wpAny (model W.prog W.w) A (oneLt' b p p') Q E s)
  {e':Bool} (h3:∀(Q:Bool->Shared->Prop) E,Q e' s->wpAny (model W.prog W.w) A (eqBool q q') Q E s)
  (h4:e=true->e'=true->r=false)
  (h5:e=true->e'=false->∀(Q:Bool->Shared->Prop) E,(∀t,Q r {s with toks:=t})->wpAny (model W.prog W.w) A (oneLt' false q q') Q E s) (hQ:∀t,P r {s with toks:=t}) :
  wpAny (model W.prog W.w) A (keyLt' (tuples' b) (.ref u) (.ref v)) P E s:=by
 refine kat_lt hu du hv dv ?_;show KatLex W.prog W.w A b false P [(p,p'),(q,q')] 0 s;refine kat_cons (h1 _ _ ?_)
 cases e with
 | false =>
  refine kat_no ?_;have:(b&&(0==0))=b:=by simp
  rw [this];exact h2 rfl _ _ hQ
 | true =>
  refine kat_yes (kat_cons (h3 _ _ ?_))
  cases e' with
  | false =>
   refine kat_no ?_;have:(b&&(0+1==0))=false:=by simp
   rw [this];exact h5 rfl rfl _ _ hQ
  | true =>
   refine kat_yes (kat_nil ?_);have:=h4 rfl rfl;have h:=hQ s.toks;rw [this] at h;exact h
theorem mQ{i j:Int}{t u:Tok}{b:Bool}{P:Bool->Shared->Prop}(h:∀t,P (decide (i<j)) {s with toks:=t}):wpAny (model W.prog W.w) A (oneLt' b (.int i t) (.int j u)) P E s:=by
 cases b
 ·exact kat_one _ _ (PyProof.Rows.lt_int (h s.toks))
 ·exact oneLt_int (h s.toks)
theorem lL(r:aK W h Z (.tup [a,b]) x):∃ad o p q k,x=.ref ad/\h.get? ad=some o/\o.cls=.type "tuple"/\o.data=.seq #[p,q] k/\aK W h Z a p/\aK W h Z b q:=by
 refine cv r.E λad o items ek y ho hc hd hx hr=>?_;subst y;obtain ⟨items⟩:=items;refine cU hr.E λu us e1 r1 r2=>cU r2.E λw ws e2 r3 r4=>?_;cases e1.trans (congrArg _ (e2.trans (congrArg _ r4.E)));exact ⟨ad,o,_,_,ek,rfl,ho,hc,hd,r1,r3⟩
theorem zY{K:Value->Prop}(r:bo W h Z l vs):(∀v∈l,∃a b,v=.tup [a,b]/\∀p,aK W h Z a p->K p)->∃fs,KatTups h vs fs/\fs.length=l.length/\∀f∈fs,K f :=
 r.ind (M:=λl vs=>(∀v∈l,∃a b,v=.tup [a,b]/\∀p,aK W h Z a p->K p)->∃fs,KatTups h vs fs/\fs.length=l.length/\∀f∈fs,K f) (λz_=>⟨[],KatTups.nil,rfl,λz_ h=>absurd h aq⟩) λ{v a l as} x r ih hk=>by
  refine cG (ih λv hv=>hk v (aj _ hv)) λfs h1 h2 h3=>dE (hk _ ai) λa b w hK=>?_;subst w;refine hW (lL x) λad o p q k y ho hc hd r1 r2=>?_;subst y;exact ⟨p::fs,KatTups.cons ho hc hd (by rfl) h1,congrArg Nat.succ h2,λf hf=>(aO.mp hf).elim (λe=>e▸hK _ r1) (h3 f)⟩
theorem yy{i j:String}{t u:Tok}{P:Bool->Shared->Prop}(h:∀t,P (decide ((Str.ofString i).cps.toList<(Str.ofString j).cps.toList)) {s with toks:=t}):wpAny (model W.prog W.w) A (oneLt' true (.str (Str.ofString i) t) (.str (Str.ofString j) u)) P E s :=
 oneLt_str (h s.toks)
theorem u4{K:V->Prop}(hk:∀v∈l,K v)(r:bo W h Z l vs){j:Nat}{G:V->V->Value->Value->Prop}(hi:i<l.length)(hj:j<l.length)(k:∀a b u w,K a->K b->aK W h Z a u->aK W h Z b w->G a b u w):G (l.getD i .none) (l.getD j .none) (vs.getD i .none) (vs.getD j .none) :=
 have r1:=vQ r hi;have r2:=vQ r hj
 k _ _ _ _ (hk _ r1.2) (hk _ r2.2) r1.1 r2.1
section
variable{P:Bool->Shared->Prop}{u w:Value}{i j a' b':Int}{m n:String}
theorem lt_int(r1:aK W s.heap Z (.int i) u)(r2:aK W s.heap Z (.int j) w)(hP:∀t,P (zz (.int i) (.int j)) {s with toks:=t}):wpAny (model W.prog W.w) A (keyLt' oneType' u w) P E s:=by
 refine xe r1.E λz_ q=>?_;subst q;refine xe r2.E λz_ x=>?_;subst x;exact kat_lt_int (hP s.toks)
theorem Ii(r1:aK W s.heap Z (.str m) u)(r2:aK W s.heap Z (.str n) w)(hP:∀t,P (zz (.str m) (.str n)) {s with toks:=t}):wpAny (model W.prog W.w) A (keyLt' oneType' u w) P E s:=by
 refine xe r1.E λz_ q=>?_;subst q;refine xe r2.E λz_ x=>?_;subst x;exact kas_lt_str (hP s.toks)
theorem JD{a b:Int}(r1:aK W s.heap Z (.tup [.int a,.int a']) u)(r2:aK W s.heap Z (.tup [.int b,.int b']) w)(hP:∀t,P (zz (.tup [.int a,.int a']) (.tup [.int b,.int b'])) {s with toks:=t}):wpAny (model W.prog W.w) A (keyLt' (tuples' true) u w) P E s:=by
 refine hW (lL r1) λad o p q k x ho hc hd s1 s2=>?_;subst x;refine hW (lL r2) λad' o' p' q' k' y ho' hc' hd' s1' s2'=>?_;subst y;refine xe s1.E λz_ z=>?_;subst z;refine xe s2.E λz_ v=>?_;subst v;refine xe s1'.E λz_ n=>?_;subst n;refine xe s2'.E λz_ m=>?_;subst m;refine zH (e:=a==b) (e':=a'==b') (r:=decide (a<b\/(a=b/\a'<b'))) ho hd ho' hd' (λQ E hq=>(SeqAt.EqAt.int_int _ _ _ _) _ _ _ _ hq) (λhe Q E hq=>mQ λt=>?_)
  (λQ E hq=>(SeqAt.EqAt.int_int _ _ _ _) _ _ _ _ hq) (λh1 h2=>?_) (λh1 h2 Q E hq=>mQ λt=>?_) hP
 ·have hn:a≠b:=by simpa using he
  have:decide (a<b\/(a=b/\a'<b'))=decide (a<b):=by simp [hn]
  rw [<-this];exact hq t
 ·have e1:a=b:=by simpa using h1
  have e2:a'=b':=by simpa using h2
  simp [e1,e2]
 ·have e1:a=b:=by simpa using h1
  have:decide (a<b\/(a=b/\a'<b'))=decide (a'<b'):=by simp [e1]
  rw [<-this];exact hq t
theorem JE{a b:String}(r1:aK W s.heap Z (.tup [.str a,.int a']) u)(r2:aK W s.heap Z (.tup [.str b,.int b']) w)(hP:∀t,P (zz (.tup [.str a,.int a']) (.tup [.str b,.int b'])) {s with toks:=t}):wpAny (model W.prog W.w) A (keyLt' (tuples' true) u w) P E s:=by
 refine hW (lL r1) λad o p q k y ho hc hd s1 s2=>?_;subst y;refine hW (lL r2) λad' o' p' q' k' z ho' hc' hd' s1' s2'=>?_;subst z;refine xe s1.E λt1 v=>?_;subst v;refine xe s1'.E λt2 n=>?_;subst n;refine xe s2.E λz_ m=>?_;subst m;refine xe s2'.E λz_ j=>?_;subst j;have irr:∀x:List Nat,¬x<x:=λx=>List.lt_irrefl x;refine zH (e:=Str.ofString a==Str.ofString b) (e':=a'==b') (r:=decide ((Str.ofString a).cps.toList<(Str.ofString b).cps.toList\/(a=b/\a'<b'))) ho hd ho' hd' (λQ E hq=>(SeqAt.EqAt.str_str _ _ _ _) _ _ _ _ hq) (λhe Q E hq=>yy λt=>?_)
  (λQ E hq=>(SeqAt.EqAt.int_int _ _ _ _) _ _ _ _ hq) (λh1 h2=>?_) (λh1 h2 Q E hq=>mQ λt=>?_) hP
 ·have hn:a≠b:=by rw [lG] at he;simpa using he
  have:decide ((Str.ofString a).cps.toList<(Str.ofString b).cps.toList\/(a=b/\a'<b'))=decide ((Str.ofString a).cps.toList<(Str.ofString b).cps.toList):=by simp [hn]
  rw [<-this];exact hq t
 ·have e1:a=b:=by rw [lG] at h1;simpa using h1
  have e2:a'=b':=by simpa using h2
  simp [e1,e2]
 ·have e1:a=b:=by rw [lG] at h1;simpa using h1
  have:decide ((Str.ofString a).cps.toList<(Str.ofString b).cps.toList\/(a=b/\a'<b'))=decide (a'<b'):=by
   rw [decide_eq_decide,e1];exact ⟨λh=>h.elim (λh=>absurd h (irr _)) (·.2),λh=>.inr ⟨rfl,h⟩⟩
  rw [<-this];exact hq t
end
theorem IK(W:Wd)(A:Around)(Z:Rho)(hs:cO l=true):∃κ,∀{h:Heap} {vs:List Value},bo W h Z l vs->KV W A Z h l vs κ:=by
 have hs:=(bj.1 hs).2;rcases cz.1 hs with hs | hk
 ·rcases cz.1 hs with hs | hk
  ·rcases cz.1 hs with hk | hk
   ·have hk:=cK.1 hk;refine ⟨oneType',λ{h vs} r=>⟨λs hh h2 q=>?_,@λP E s i j hh hi hj hP=>?_⟩⟩
    ·subst hh;exact zw (T:="int") (by decide) r h2 (λv hv u hr s'=>(tZ (hk v hv)).elim λi e=>(e▸hr).intU (M:=λu=>s'.TypeIs u "int") λz_=>typeIs_int _ _ _) q
    ·subst hh;exact u4 (G:=λa b u w=>(∀t,P (zz a b) {s with toks:=t})->wpAny (model W.prog W.w) A (keyLt' oneType' u w) _ _ s) hk r hi hj (λa b u w ha hb r1 r2 hP=>by
      refine xe (tZ ha) λa x=>?_;subst x;refine xe (tZ hb) λb y=>?_;subst y;exact lt_int r1 r2 hP) hP
   ·have hk:=cK.1 hk;refine ⟨oneType',λ{h vs} r=>⟨λs hh h2 q=>?_,@λP E s i j hh hi hj hP=>?_⟩⟩
    ·subst hh;exact zw (T:="str") (by decide) r h2 (λv hv u hr s'=>(t5 (hk v hv)).elim λi e=>(e▸hr).strU (M:=λu=>s'.TypeIs u "str") λz_=>typeIs_str _ _ _) q
    ·subst hh;exact u4 (G:=λa b u w=>(∀t,P (zz a b) {s with toks:=t})->wpAny (model W.prog W.w) A (keyLt' oneType' u w) _ _ s) hk r hi hj (λa b u w ha hb r1 r2 hP=>by
      refine xe (t5 ha) λa z=>?_;subst z;refine xe (t5 hb) λb n=>?_;subst n;exact Ii r1 r2 hP) hP
  ·have hk:=cK.1 hk;refine ⟨tuples' true,λ{h vs} r=>⟨λs hh h2 q=>?_,@λP E s i j hh hi hj hP=>?_⟩⟩
   ·subst hh;refine cG (zY (K:=λp=>∃i t,p=.int i t) r λv hv=>(nJ (hk v hv)).elim λi e=>e.elim λj e=>⟨_,_,e,λp hp=>hp.intU (M:=λp=>∃i t,p=.int i t) λt=>⟨_,t,rfl⟩⟩) λfs f1 f2 f3=>?_;exact kat_kind (T:=.type "int") f1 (by omega) (λv hv=>(f3 v hv).elim λi e=>e.elim λt e=>e▸yY λs' z_=>typeIs_int _ _ _) (by decide) (by rw [show (Value.type "int" !=Value.type "tuple")=true by rfl];exact q)
   ·subst hh;exact u4 (G:=λa b u w=>(∀t,P (zz a b) {s with toks:=t})->wpAny (model W.prog W.w) A (keyLt' (tuples' true) u w) _ _ s) hk r hi hj (λa b u w ha hb r1 r2 hP=>by
     refine ER (nJ ha) λa a' m=>?_;subst m;refine ER (nJ hb) λb b' k=>?_;subst k;exact JD r1 r2 hP) hP
 ·have hk:=cK.1 hk;refine ⟨tuples' true,λ{h vs} r=>⟨λs hh h2 q=>?_,@λP E s i j hh hi hj hP=>?_⟩⟩
  ·subst hh;refine cG (zY (K:=λp=>∃i t,p=.str i t) r λv hv=>(nK (hk v hv)).elim λi e=>e.elim λj e=>⟨_,_,e,λp hp=>hp.strU (M:=λp=>∃i t,p=.str i t) λt=>⟨_,t,rfl⟩⟩) λfs f1 f2 f3=>?_;exact kat_kind (T:=.type "str") f1 (by omega) (λv hv=>(f3 v hv).elim λi e=>e.elim λt e=>e▸yY λs' z_=>typeIs_str _ _ _) (by decide) (by rw [show (Value.type "str" !=Value.type "tuple")=true by rfl];exact q)
  ·subst hh;exact u4 (G:=λa b u w=>(∀t,P (zz a b) {s with toks:=t})->wpAny (model W.prog W.w) A (keyLt' (tuples' true) u w) _ _ s) hk r hi hj (λa b u w ha hb r1 r2 hP=>by
    refine ER (nK ha) λa a' g=>?_;subst g;refine ER (nK hb) λb b' f=>?_;subst f;exact JE r1 r2 hP) hP
theorem tn{h₁:Heap}{to:Tok}(hl:cO l=true)(R:bU W s.heap Z J)(k:∀b o,s.heap.get? b=some o->h₁.get? b=some o)(hz:s.heap.objs.size<=h₁.objs.size)
  (r:bo W s.heap Z l vs) (hQ:Q (.obj J.length) (J++[.list (cT l)])) :
  wpAny (model W.prog W.w) A.in1 (newList vs >>=λl=>holding [l] (call (.builtin "list.sort") [l]) >>=λz_=>ret l) (λfin s'=>∃v,fin=.done (.ret v)/\cu W Z s Q v s') E {s with heap:=h₁,toks:=to}:=by
 have h64:l.length<64:=by
  unfold cO at hl;rw [Bool.and_eq_true,decide_eq_true_eq] at hl;exact hl.1
 refine af (wpAny_newList ?_ (by rw [r.length,sizeLine_eq];omega));obtain ⟨h₂,hh2⟩:∃h₂,h₂=h₁.push (seqObj "list" vs.toArray 0):=⟨_,rfl⟩
 have hD:h₂.get? h₁.objs.size=some (seqObj "list" vs.toArray 0):=by rw [hh2];exact br _ rfl
 have k2:∀b o,s.heap.get? b=some o->h₂.get? b=some o:=λb o e=>by rw [hh2];exact aJ _ (k b o e)
 show wpAny _ _ _ _ _ {s with heap:=h₁.push (seqObj "list" vs.toArray 0),toks:=to};rw [<-hh2];show wpAny _ _ (holding [.ref h₁.objs.size] (call (.builtin "list.sort") [.ref h₁.objs.size]) >>=λz_=>ret (.ref h₁.objs.size)) _ _ _;have hs2:h₂.objs.size=h₁.objs.size+1:=by rw [hh2,bN]
 refine af (aT (wpAny_call_entry slot_list_sort ⟨_,hD,rfl⟩ entry_list_sort ?_ (args_list_sort _)));refine xe (IK W A.in1.in1 Z hl) λκ S=>?_;have gone:∀{b:Addr} {o:Obj},s.heap.get? b=some o->b≠h₁.objs.size:=λe=>aW (ak (bW e) hz);refine od (DV (s:={s with heap:=h₂,toks:=to}) (l:=l) (n:=0) (κ:=κ) hD r.length h64 ?_ ?_ ?_)
 ·intro h2 h1 t Q' hk hq;exact (S (h:=h1) (r.mono (λb o e z_ z_=>hk b o (gone e) (k2 b o e)) (aD _))).kind {s with heap:=h1,toks:=t} rfl h2 (hq t)
 ·intro h2 h1 t i j Q' hi hj hk hq;exact (S (h:=h1) (r.mono (λb o e z_ z_=>hk b o (gone e) (k2 b o e)) (aD _))).lt {s with heap:=h1,toks:=t} i j rfl hi hj hq
 ·intro h' t c p hp hps hk hg hsz2;have hsz2:h₂.objs.size<=h'.objs.size:=hsz2;refine ⟨_,rfl,al ⟨_,rfl,?_⟩⟩;have kk:∀b o,s.heap.get? b=some o->h'.get? b=some o:=λb o e=>hk b o (gone e) (k2 b o e);have hsz':s.heap.objs.size<=h'.objs.size:=by rw [hs2] at hsz2;omega
  have k':bv W s.heap h':=λa o e z_ z_=>kk a o e;rw [hps] at hQ;have rr:=F9 r hp;refine ⟨_,_,_,o6 (u:=h₁.objs.size) (d:=h₁.objs.size) kk hsz' hz hz,R.grow (o:=.list (p.map λi=>l.getD i .none)) kk hsz' hz hz ⟨rfl,_,c,hg,?_⟩,.obj (a:=h₁.objs.size) (d:=h₁.objs.size) ?_,hQ⟩
  ·rw [List.toList_toArray];exact rr.mono k' (cw ..)
  ·rw [<-R.len,aL (ay _)];simp
set_option tactic.hygienic true in
theorem BJ(hs:sysModules<W.h₀.objs.size)(hh:A.handled=none)(R:bU W s.heap Z J)(ra:aK W s.heap Z a x)(h:wj J a=some l)(hl:cO l=true)(hQ:Q (.obj J.length) (J++[.list (cT l)])) :
  wpAny (model W.prog W.w) A (call (.builtin "sorted") [x]) (cu W Z s Q) E s:=by
 have h64:l.length<64:=by
  unfold cO at hl;rw [Bool.and_eq_true,decide_eq_true_eq] at hl;exact hl.1
 refine Calls.call_function_entry kind_sorted plain_sorted entry_sorted (args_sorted1 _) ?_;unfold Builtin.«sorted»;refine af (m:=checkCount "sorted" 1 1 _) (al ?_);show wpAny _ _ (collect x >>=λvs=>newList vs >>=λl=>holding [l] (call (.builtin "list.sort") [l]) >>=λz_=>ret l) _ _ _;refine Dp (M:=λa l=>aK W s.heap Z a x->l.length<64->cO l=true->Q (.obj J.length) (J++[.list (cT l)])->_) h (λn l e ra h64 hl hQ=>?_) (λn ld i e ra h64 hl hQ=>?_) ra h64 hl hQ
 ·refine bz (R.list_at ra e) λp ad ep hp1 hp2 q items ek ho hr hz=>?_;subst q;have hL:s.heap.IsList ad items.toList.toArray:=⟨_,ho,rfl,ek,by rw [Array.toArray_toList]⟩
  refine af (collect_list hL ?_ (by rw [hr.length,sizeLine_eq];omega));refine tn hl R (λb o e=>?_) ?_ hr hQ
  ·rw [Heap.get?_update_ne _ _ _ _ (aW (bW e))];exact aJ _ e
  ·rw [Heap.size_update,bN];exact Nat.le_succ _
 ·refine bM (R.dict_at ra e) λp ad ep hp1 hp2 y hn es ek z_ ho hr hz=>?_;subst y;have q1:(ad==sysModules)=false:=beq_eq_false_iff_ne.mpr (bC (ak hs hn));rw [aM] at h64;refine af (od (kdu_collect (zL (es:=es) (ep:=ek) q1) hh ho (by rw [hz,sizeLine_eq];omega) λh' tk acc k hI hsz'=>?_));exact tn hl R k hsz' (v5 hr hI) hQ
end
noncomputable def mt:jC->Value
 | .len=>.builtin "len" | .list=>.type "list" | .tuple=>.type "tuple" | .sorted=>.builtin "sorted" | .max=>.builtin "max" | .int=>.type "int" | .isTuple=>.builtin "isinstance" | .sum=>.builtin "sum"
noncomputable def mu:jC->List Value
 | .isTuple=>[.type "tuple"] | _=>[]
section
variable{E:Value->Shared->Prop}{c:V}{x:Value}{attrs:List String}
theorem i4{p:jC}{ys:List Value}{f:V->Prop}(h:pI l f)(k:∀v u,aK W s.heap Z v u->f v->wpAny (model W.prog W.w) A (call (mt p) (u::mu p)) (cu W Z s Q) E s)(rl:bo W s.heap Z l ys):wpAny (model W.prog W.w) A (call (mt p) (ys++mu p)) (cu W Z s Q) E s :=
 nY (M:=λl=>bo W s.heap Z l ys->wpAny (model W.prog W.w) A (call (mt p) (ys++mu p)) (cu W Z s Q) E s) h (λv hv rl=>rl.consU (M:=λys=>wpAny _ _ (call (mt p) (ys++mu p)) _ _ _) λu us r0 rl=>rl.nilU (M:=λus=>wpAny _ _ (call (mt p) (u::us++mu p)) _ _ _) (k v u r0 hv)) rl
set_option tactic.hygienic true in
theorem Gc{p:jC}{ys:List Value}(O:HL W attrs)(hh:A.handled=none)(R:bU W s.heap Z J)(rl:bo W s.heap Z l ys)(h:jq p l J Q) :
  wpAny (model W.prog W.w) A (call (mt p) (ys++mu p)) (cu W Z s Q) E s:=by
 induction p with
 | max =>
  refine rQ (M:=λl=>bo W s.heap Z l ys->wpAny _ _ (call (.builtin "max") (ys++[])) _ _ _) h (λz_ h=>h.elim) (λv w h rl=>?_) rl;obtain ⟨u1,us,rfl,r0,rl⟩:=rl.E;obtain ⟨u2,us,rfl,r1,rl⟩:=rl.E;obtain rfl:=rl.E;exact fI (M:=λv=>aK W s.heap Z v u1->wpAny _ _ (call (.builtin "max") ([u1,u2]++[])) _ _ _) (f:=λi=>Bc w λj=>Q (.int (max i j)) J) h (λi h r0=>fI (M:=λw=>aK W s.heap Z w u2->wpAny _ _ (call (.builtin "max") ([u1,u2]++[])) _ _ _) h (λj h r1=>Ij hh R r0 r1 h) r1) r0
 | len=>exact i4 (p:=.len) h (λv u r h=>cf h λn hn h=>vt O.sys R r hn h.1 h.2) rl
 | list=>exact i4 (p:=.list) h (λv u r h=>cf h λn hn h=>tM O.sys hh R r hn h.1 h.2) rl
 | tuple=>exact i4 (p:=.tuple) h (λv u r h=>cf h λn hn h=>EH hh R r hn h.1 h.2) rl
 | sorted=>exact i4 (p:=.sorted) h (λv u r h=>cf h λn hn h=>BJ O.sys hh R r hn h.1 h.2) rl
 | int=>exact i4 (p:=.int) h (λv u r h=>Ic R r h) rl
 | isTuple=>exact i4 (p:=.isTuple) h (λv u r h=>xO R r h) rl
 | sum=>exact i4 (p:=.sum) h (λv u r h=>pU (M:=λv=>aK W s.heap Z v u->wpAny _ _ (call (.builtin "sum") [u]) _ _ _) (f:=λn=>atL J[n]? λl=>_) h (λn h r=>kj h λl e h=>IM hh R r e h.2.1 h.2.2) r) rl
set_option tactic.hygienic true in
theorem BW{i:V}{u:Value}{P:Hp->Prop}{Q':Unit->Shared->Prop}(O:HL W attrs)(hu:A.units+20<cLine)(R:bU W s.heap Z J)(ra:aK W s.heap Z v x)(ri:aK W s.heap Z i y)(rw:aK W s.heap Z b z)(h:ds v i b J P)
  (hQ:∀h' t σ',bA gZ Z s Z {s with heap:=h',toks:=t}->bU W h' Z σ'->P σ'->Q' () {s with heap:=h',toks:=t}) :
  wpAny (model W.prog W.w) A (setItem x y z) Q' E s:=by
 refine wU (M:=λv i=>aK W s.heap Z v x->aK W s.heap Z i y->wpAny (model W.prog W.w) A (setItem x y z) Q' E s) h (λn l k e h ra ri=>?_) (λn l ek' e h ra ri=>?_) ra ri
 ·refine mV h λh0 h1 hb h=>xe ri.E λt q=>?_;subst q;refine bz (R.list_at ra e) λp ad ep hp1 hp2 r items ek ho hr hz=>?_;subst r;have hl:s.heap.IsList ad items:=⟨_,ho,rfl,ek,rfl⟩
  unfold big at hb;delta setItem
  try with_reducible refine aT ?_
  first | refine af (al ?_) | skip
  refine af (wpAny_sequenceKey hl.typeIs (by decide) ?_);refine af (wpAny_callSpecial?_slot (name:=Str.ofString "__setitem__") hl.typeIs slot_list_setitem
   (wpAny_call_entry slot_list_setitem hl.typeIs entry_list_setitem ?_ (args_list_setitem _ _ _)))
  show wpAny _ _ (Builtin.List.listSubscript? (.int k t) >>=_) _ _ s;refine af (wpAny_listSubscript_int (fitsIndex_of h0 (by omega)) ?_);refine xe (Int.eq_ofNat_of_zero_le h0) λj m=>?_;subst m;have hj:j<items.size:=by rw [hz];omega
  refine af (af (wpAny_seqItemAt ho rfl (al ?_)));rw [Array.getElem?_eq_getElem hj];refine af (wpAny_setSeqItemAt ho rfl ?_);refine o9 (rR (f:=λxs=>xs.setIfInBounds j z) R ep hp1 hp2 ho (by rw [Array.toList_setIfInBounds];exact hr.set j rw) s.toks) λz_ S R'=>?_;have fin:=hQ _ _ _ S R' h
  first
   | exact af (al (al ⟨.none,rfl,al fin⟩))
   | exact al ⟨.none,rfl,al fin⟩
 ·refine o9 h λhk hb h=>bM (R.dict_at ra e) λp ad ep hp1 hp2 g hn es ek z_ ho hr hz=>?_;subst g;have hT:s.TypeIs (.ref ad) "dict":=⟨_,ho,rfl⟩
  unfold big at hb;delta setItem
  try with_reducible refine aT ?_
  refine af (wpAny_sequenceKey hT (by decide) ?_);refine af (wpAny_callSpecial?_slot (name:=Str.ofString "__setitem__") hT slot_dict_setitem
   (wpAny_call_entry slot_dict_setitem hT entry_dict_setitem ?_ (args_dict_setitem _ _ _)))
  refine af (wpAny_notOrdered_dict hT ?_);show wpAny _ _ (dictSet ad y z >>=_) _ _ s;subst hp1;exact af (qz (JF hu) R ep e hk.1 hk.2 ri rw hb λh' t R' S=>al ⟨.none,rfl,al (hQ h' t _ S R' h)⟩)
end
noncomputable def cE(W:Wd)(Z:Rho)(h:Heap)(a:Addr):Prop:=W.h₀.objs.size<=a/\a<h.objs.size/\∀(n:Nat) (p:Addr×Addr),Z[n]?=some p->p.1≠a/\p.2≠a
section
variable{E:Value->Shared->Prop}{c:V}{x:Value}
theorem cE.step{ad:Addr}(h:cE W Z s.heap ad)(S:bA X Z s ρ' s'):cE W ρ' s'.heap ad:=by
 refine o9 h λh1 h2 h3=>⟨h1,ak h2 S.size,λn p e=>Or.elim (cS n Z.length) (λhn=>?_) (λhn=>?_)⟩
 ·have e':Z[n]?=some Z[n]:=aA hn;have:=iA S.pre e';rw [e] at this;cases this;exact h3 n _ e'
 ·have:=S.fresh n p hn e;exact ⟨bC (ak h2 this.1),bC (ak h2 this.2)⟩
theorem cE.new(R:bU W s.heap Z J){ad:Addr}(h1:s.heap.objs.size<=ad)(h2:ad<h.objs.size):cE W Z h ad:=by
 exact ⟨am R.size h1,h2,λn p e=>bO (R.alive e) λo z_ r=>B3 r.live λq z_ q2 z_=>bO q λz_ q1 z_=>⟨aW (ak (bW q1) h1),aW (ak (bW q2) h1)⟩⟩
theorem bU.own'{h':Heap}(R:bU W h Z J){O:Addr->Prop}(hA:∀a,O a->cE W Z h a)(hT:∀a o,O a->h.get? a=some o->¬sP o)(k:∀b o,¬O b->h.get? b=some o->h'.get? b=some o)(hz:h.objs.size<=h'.objs.size) :
  bv W h h'/\bU W h' Z J:=by
 have tk:bv W h h':=λa o e c z_=>k a o (λq=>hT a o q e c) e;refine ⟨tk,R.len,λn o p e ep=>?_,R.apart,R.new,am R.size hz,λa o e=>k a o (λq=>?_) (R.top a o e),λa p=>?_⟩
 ·exact (R.ob n o p e ep).mono tk (aD _) (λob e1=>k _ _ (λq=>((hA _ q).2.2 n p ep).1 rfl) e1) (λob e1=>k _ _ (λq=>((hA _ q).2.2 n p ep).2 rfl) e1)
 ·exact absurd (bW e) (ci.mpr (hA a q).1)
 ·exact bO (R.priv a p) λo h1 h2=>⟨o,k _ _ (λq=>hT a o q h1 h2) h1,h2⟩
theorem bU.own{h':Heap}(R:bU W h Z J){O:Addr->Prop}(hA:∀a,O a->cE W Z h a)(hT:∀a o,O a->h.get? a=some o->o.cls≠.type "tuple")(k:∀b o,¬O b->h.get? b=some o->h'.get? b=some o)(hz:h.objs.size<=h'.objs.size) :
  bv W h h'/\bU W h' Z J:=R.own' hA (λa o q e c=>hT a o q e c.1) k hz
structure mC(W:Wd)(owned:Bool)(xs:List V)(ns:List Nat)(σb:Hp)(own:List Addr)(I:Addr)(St:Nat->Rho->Heap->Prop)(Mid:Nat->Rho->Heap->Value->Prop):Prop where
 apart:∀{i Z h},St i Z h->∀a∈own,cE W Z h a/\∃o,h.get? a=some o/\(o.cls=.type "tuple"->W.priv a)
 mono:∀{i Z ρ' s s' X},St i Z s.heap->bA X Z s ρ' s'->bv W s.heap s'.heap->(∀a∈own,∀o,s.heap.get? a=some o->s'.heap.get? a=some o)->St i ρ' s'.heap
 item:∀{A E s Z J i v Q},A.handled=none->St i Z s.heap->bU W s.heap Z J->b8 ns σb J->xs[i]?=some v->
  (∀x s',bA (·∈own) Z s Z s'->bv W s.heap s'.heap->bU W s'.heap Z J->aK W s'.heap Z v x->Mid i Z s'.heap x->Q (some x) s')->wpAny (model W.prog W.w) A (pyNext (.ref I)) Q E s
 go:∀{A E s Z J i x Q target},(owned=true->∃e k p,target=Expr.Tuple e k p)->Mid i Z s.heap x->bU W s.heap Z J->
  (∀s',bA (·∈own) Z s Z s'->bv W s.heap s'.heap->bU W s'.heap Z J->St (i+1) Z s'.heap->Q () s')->wpAny (model W.prog W.w) A (letOwnedTupleGo target (.ref I) x) Q E s
 done:∀{A E s Z J Q},A.handled=none->St xs.length Z s.heap->bU W s.heap Z J->b8 ns σb J->
  (∀s',bA (·∈own) Z s Z s'->bv W s.heap s'.heap->bU W s'.heap Z J->Q none s')->wpAny (model W.prog W.w) A (pyNext (.ref I)) Q E s
 self:∀{A E s Z i Q},St i Z s.heap->Q (.ref I) s->wpAny (model W.prog W.w) A (pyIter (.ref I)) Q E s
theorem gY{ns:List Nat}{I:Addr}{P:Nat->Rho->Heap->Prop}{cl:String}(hcl:cl≠"tuple")(hn:["enumerate","zip","dict_itemiterator","dict_reverseitemiterator","odict_iterator","itertools.zip_longest","itertools.pairwise"].contains cl=false)
  (cls:∀{i Z h},P i Z h->∃o vs,h.get? I=some o/\o.cls=.type cl/\o.data=.fields vs)
  (mono:∀{i Z ρ' s s' X},P i Z s.heap->bA X Z s ρ' s'->bv W s.heap s'.heap->(∀o,s.heap.get? I=some o->s'.heap.get? I=some o)->P i ρ' s'.heap)
  (item:∀{A E s Z J i v} {Q:Option Value->Shared->Prop},A.handled=none->cE W Z s.heap I->P i Z s.heap->bU W s.heap Z J->b8 ns σb J->xs[i]?=some v->
   (∀x h' t,aK W s.heap Z v x->Heap.SameBut I s.heap h'->(bv W s.heap h'->P (i+1) Z h')->Q (some x) {s with heap:=h',toks:=t})->wpAny (model W.prog W.w) A (pyNext (.ref I)) Q E s)
  (done:∀{A E s Z J} {Q:Option Value->Shared->Prop},A.handled=none->cE W Z s.heap I->P xs.length Z s.heap->bU W s.heap Z J->b8 ns σb J->
   (∀h' t,Heap.ExtBut I s.heap h'->s.heap.objs.size<=h'.objs.size->Q none {s with heap:=h',toks:=t})->wpAny (model W.prog W.w) A (pyNext (.ref I)) Q E s)
  (self:∀{A E s Z i} {Q:Value->Shared->Prop},P i Z s.heap->Q (.ref I) s->wpAny (model W.prog W.w) A (pyIter (.ref I)) Q E s) :
  mC W false xs ns σb [I] I (λi Z h=>P i Z h/\cE W Z h I) (λi Z h z_=>P (i+1) Z h/\cE W Z h I) where
 apart st a ha:=by
  rw [an.mp ha];exact cU (cls st.1) λo vs h1 h2 h3=>⟨st.2,o,h1,λq=>absurd (h2.symm.trans q) (by simp [hcl])⟩
 mono st S T k:=⟨mono st.1 S T (k I (by simp)),st.2.step S⟩
 item:=λ{A E s Z J i v Q} hA st R sd hx hQ=>item hA st.2 st.1 R sd hx λx h' t rx sb hp=>by
  refine cU (cls st.1) λo vs h1 h2 h3=>?_;refine xa (R.own (O:=(·∈[I])) (h':=h') (λa ha=>by rw [an.mp ha];exact st.2) (λa o' ha e=>by rw [an.mp ha,h1] at e;cases e;rw [h2];simp [hcl]) (λb o hb e=>(sb.2 b (by simpa using hb)).trans e) (by rw [sb.1];exact ay _)) λtk R'=>?_;have S:bA (·∈[I]) Z s Z {s with heap:=h',toks:=t}:=bA.priv (X:=(·∈[I])) (t:=t) (h':=h') (λb o hb e=>(sb.2 b (by simpa using hb)).trans e) (by rw [sb.1];exact ay _);exact hQ x _ S tk R' (rx.mono tk (aD _)) ⟨hp tk,st.2.step S⟩
 go:=λ{A E s Z J i x Q target} _ st R hQ=>by
  have fin:Q () s:=hQ s (bA.refl ..) (bv.refl _ _) R st;refine cU (cls st.1) λo vs h1 h2 h3=>?_;have key:∀elts k p,wpAny (model W.prog W.w) A (letOwnedTupleGo (.Tuple elts k p) (.ref I) x) Q E s:=λelts k p=>by
   cases x with
   | ref r =>
    refine af (wpAny_load h1 ?_);rw [h2,h3];show wpAny _ _ (if (["enumerate","zip","dict_itemiterator","dict_reverseitemiterator","odict_iterator","itertools.zip_longest","itertools.pairwise"].contains cl&&vs[0]?==some (rawInt r))=true then _ else _) Q E s;rw [hn,Bool.false_and];rw [if_neg (by decide)];exact al fin
   | _=>exact al fin
  cases target with
  | Tuple elts k p=>exact key elts k p
  | List elts p=>exact key elts 0 p
  | _=>exact al fin
 done hA st R sd hQ:=done hA st.2 st.1 R sd λh' t sb hz=>by
  refine cU (cls st.1) λo vs h1 h2 h3=>?_;have kk:∀b o,b∉[I]->_->h'.get? b=some o:=λb o hb e=>sb b o (by simpa using hb) e;exact xa (R.own (O:=(·∈[I])) (h':=h') (λa ha=>by rw [an.mp ha];exact st.2) (λa o' ha e=>by rw [an.mp ha,h1] at e;cases e;rw [h2];simp [hcl]) kk hz) λtk R'=>hQ _ (bA.priv (X:=(·∈[I])) (t:=t) (h':=h') kk hz) tk R'
 self st hq:=self st.1 hq
theorem vI{I l:Addr}(x:h.IsListIter I l i):∃o vs,h.get? I=some o/\o.cls=.type "list_iterator"/\o.data=.fields vs:=let ⟨o,h1,h2,h3⟩:=x;⟨o,_,h1,h2,h3⟩
theorem AI{I l:Addr}(e₀:σb[n]?=some (.list xs)) :
  ∃St Mid,mC W false xs [n] σb [I] I St Mid/\∀Z h,h.IsListIter I l 0->Z[n]?=some (l,l)->cE W Z h I->St 0 Z h :=
 ⟨_,_,gY (P:=λi Z h=>h.IsListIter I l i/\Z[n]?=some (l,l)) (cl:="list_iterator") (by decide) (by decide)
  (λst=>vI st.1)
  (λst S z_ k=>⟨let ⟨o,h1,h2⟩:=st.1;⟨o,k o h1,h2⟩,iA S.pre st.2⟩)
  (λ{A E s Z J i v Q} hA ap st R sd hx hQ=>by
   have e:J[n]?=some (.list xs):=by rw [sd n (by simp)];exact e₀
   refine bz (R.list_at (.obj st.2) e) λp ad ep hp1 hp2 he items ek ho hr hz=>?_;cases he;refine bO (iU hr hx) λu hu ru=>?_;exact wpAny_pyNext_list_item st.1 ⟨_,ho,rfl,ek,rfl⟩ hu λh' it' sb=>hQ u h' s.toks ru sb λz_=>⟨it',st.2⟩)
  (λ{A E s Z J Q} hA ap st R sd hQ=>by
   have e:J[n]?=some (.list xs):=by rw [sd n (by simp)];exact e₀
   refine bz (R.list_at (.obj st.2) e) λp ad ep hp1 hp2 he items ek ho hr hz=>?_;cases he;exact od (wpAny_pyNext_list_end hA st.1 ⟨_,ho,rfl,ek,rfl⟩ (Array.getElem?_eq_none (by rw [hz];exact ay _)) λh' eb hz=>hQ h' s.toks eb hz))
  (λ{A E s Z i Q} st hq=>wpAny_pyIter_listiter st.1 hq),
 λZ h h1 h2 h3=>⟨⟨h1,h2⟩,h3⟩⟩
theorem rn{it t:Addr}{Q:Value->Shared->Prop}(hit:s.heap.IsTupleIter it t i)(h:Q (.ref it) s):wpAny (model W.prog W.w) A (pyIter (.ref it)) Q E s:=by
 refine wpAny_pyIter_slot hit.typeIs F.slot_tuple_iterator_iter (wpAny_call_entry F.slot_tuple_iterator_iter hit.typeIs F.entry_tuple_iterator_iter ?_ (F.args_tuple_iterator_iter_1 _));exact al ⟨_,rfl,"tuple_iterator",_,hit.typeIs,F.slot_tuple_iterator_next.lookup,h⟩
theorem xS{I t:Addr} :
  ∃St Mid,mC W false xs [] σb [I] I St Mid/\∀Z h,h.IsTupleIter I t 0->aK W h Z (.tup xs) (.ref t)->cE W Z h I->St 0 Z h :=
 ⟨_,_,gY (P:=λi Z h=>h.IsTupleIter I t i/\aK W h Z (.tup xs) (.ref t)) (cl:="tuple_iterator") (by decide) (by decide)
  (λst=>let ⟨o,h1,h2,h3⟩:=st.1;⟨o,_,h1,h2,h3⟩)
  (λst S tk k=>⟨let ⟨o,h1,h2⟩:=st.1;⟨o,k o h1,h2⟩,st.2.mono tk S.pre⟩)
  (λ{A E s Z J i v Q} hA ap st R sd hx hQ=>by
   refine xa st λst1 st2=>?_;have st2':=st2;refine cv st2.E λz_ o items ek e ho hc hd hxx hr=>?_;cases e;refine bO (iU hr hx) λu hu ru=>?_;exact wpAny_pyNext_tuple_item st1 ⟨o,ho,hc,ek,hd⟩ hu λh' it' sb=>hQ u h' s.toks ru sb λtk=>⟨it',st2'.mono tk (aD _)⟩)
  (λ{A E s Z J Q} hA ap st R sd hQ=>by
   refine xa st λst1 st2=>cv st2.E λz_ o items ek e ho hc hd hxx hr=>?_;cases e;have hz:items.size=xs.length:=by rw [<-bf,hr.length]
   exact od (wpAny_pyNext_tuple_end hA st1 ⟨o,ho,hc,ek,hd⟩ (Array.getElem?_eq_none (by rw [hz];exact ay _)) λh' eb hz=>hQ h' s.toks eb hz))
  (λ{A E s Z i Q} st hq=>rn st.1 hq),
 λZ h h1 h2 h3=>⟨⟨h1,h2⟩,h3⟩⟩
theorem AG{l:List (V×V)}{ek:Nat}{I d:Addr}(e₀:σb[n]?=some (.dict l ek)) :
  ∃St Mid,mC W false (l.map (·.1)) [n] σb [I] I St Mid/\∀Z h,h.IsKeyIter I d 0 l.length ek->Z[n]?=some (d,d)->cE W Z h I->St 0 Z h :=
 ⟨_,_,gY (P:=λi Z h=>h.IsKeyIter I d i l.length ek/\Z[n]?=some (d,d)) (cl:="dict_keyiterator") (by decide) (by decide)
  (λst=>let ⟨o,h1,h2,h3⟩:=st.1;⟨o,_,h1,h2,h3⟩)
  (λst S tk k=>⟨let ⟨o,h1,h2⟩:=st.1;⟨o,k o h1,h2⟩,iA S.pre st.2⟩)
  (λ{A E s Z J i v Q} hA ap st R sd hx hQ=>by
   have e:J[n]?=some (.dict l ek):=by rw [sd n (by simp)];exact e₀
   refine bM (R.dict_at (.obj st.2) e) λp ad ep hp1 hp2 he hn es ek' e' ho hr hz=>?_;cases he;subst e';rw [List.getElem?_map] at hx;obtain ⟨⟨k,u⟩,hku,rfl⟩:=b0.mp hx;refine dR (hr.at hku) λaa bb h1 z_ z_ h2 z_=>?_;exact wB (es:=es) (hz▸st.1) ho (by rw [<-Array.getElem?_toList];exact h1) λh' it' sb=>hQ _ h' s.toks h2 sb λz_=>⟨hz▸it',st.2⟩)
  (λ{A E s Z J Q} hA ap st R sd hQ=>by
   have e:J[n]?=some (.dict l ek):=by rw [sd n (by simp)];exact e₀
   refine bM (R.dict_at (.obj st.2) e) λp ad ep hp1 hp2 he hn es ek' e' ho hr hz=>?_;cases he;subst e';exact zK (es:=es) hA (hz▸st.1) ho (Array.getElem?_eq_none (by rw [hz,aM];exact ay _)) λh' eb hz=>hQ h' s.toks eb hz)
  (λ{A E s Z i Q} st hq=>wpAny_pyIter_keyiter st.1 hq),
 λZ h h1 h2 h3=>⟨⟨h1,h2⟩,h3⟩⟩
theorem oW{it:Addr}{x left step:Int}{Q:Value->Shared->Prop}(hit:IsRangeIter s.heap it x left step)(h:Q (.ref it) s):wpAny (model W.prog W.w) A (pyIter (.ref it)) Q E s:=by
 have hT:s.TypeIs (.ref it) "range_iterator":=⟨_,hit,rfl⟩
 refine wpAny_pyIter_slot hT F.slot_range_iterator_iter (wpAny_call_entry F.slot_range_iterator_iter hT F.entry_range_iterator_iter ?_ (F.args_range_iterator_iter_1 _));exact al ⟨_,rfl,"range_iterator",_,hT,F.slot_range_iterator_next.lookup,h⟩
theorem xR{m:Nat}{I:Addr} :
  ∃St Mid,mC W false ((List.range m).map λ(i:Nat)=>V.int (i:Int)) [] σb [I] I St Mid/\∀Z h,IsRangeIter h I 0 m 1->cE W Z h I->St 0 Z h :=
 ⟨_,_,gY (P:=λi Z h=>IsRangeIter h I i ((m:Int)-i) 1) (cl:="range_iterator") (by decide) (by decide)
  (λst=>⟨_,_,st,rfl,rfl⟩)
  (λst S tk k=>k _ st)
  (λ{A E s Z J i v Q} hA ap st R sd hx hQ=>by
   have hi:i<m:=by have:=(aE.mp hx).1;simpa using this
   rw [List.getElem?_map,List.getElem?_range hi] at hx;cases hx;refine wpAny_pyNext_range_item st (by omega) λh' it' sb=>hQ _ h' _ (.int _ _) sb λz_=>?_;have e1:((i+1:Nat):Int)=(i:Int)+1:=by omega
   have e2:(m:Int)-((i+1:Nat):Int)=(m:Int)-i-1:=by omega
   rw [e1] at *;rw [show (m:Int)-((i:Int)+1)=(m:Int)-i-1 by omega];exact it')
  (λ{A E s Z J Q} hA ap st R sd hQ=>by
   rw [aM,List.length_range] at st;exact od (wpAny_pyNext_range_end hA st (by omega) λh' eb hz=>hQ h' s.toks eb hz))
  (λ{A E s Z i Q} st hq=>oW st hq),
 λZ h h1 h3=>⟨by simpa using h1,h3⟩⟩
end
section
variable{prog:Program}{w:World}{E:Value->Shared->Prop}
theorem nR{it l:Addr}{items}{x:Value}{Q:Value->Shared->Prop}(hit:s.heap.IsTupleIter it l i)
  (hl:s.heap.IsTuple l items) (hx:items[i]?=some x)
  (hQ:∀h',h'.IsTupleIter it l (i+1)->Heap.SameBut it s.heap h'->Q x {s with heap:=h'}) :
  wpAny (model prog w) A (Builtin.SmallTypes.nextOf (.ref it)) Q E s:=by
 refine cG (id hit) λo ho hc hd=>z4 hl λol hol z_ nl hdl=>?_;refine af (wpAny_callSpecial?_slot (name:=Str.ofString "__next__") hit.typeIs F.slot_tuple_iterator_next
  (wpAny_call_entry F.slot_tuple_iterator_next hit.typeIs F.entry_tuple_iterator_next ?_ (F.args_tuple_iterator_next_1 _)))
 show wpAny _ _ (field (.ref it) 0 >>=_) _ _ s;refine af (wpAny_field ho hd (x:=.ref l) rfl ?_);rw [if_neg (show ¬((Value.ref l==Value.none)=true) from ca)];refine af (wpAny_field ho hd (x:=.int i 0) rfl ?_);refine af (wpAny_seqItems hol hdl ?_);dsimp only;rw [Int.toNat_natCast,hx];refine af (wpAny_setField ho hd (by simp) (al ⟨x,rfl,al (hQ _ ?_ (bu ..))⟩));exact ⟨_,Heap.get?_update_self _ ho (Obj.isFreed_of_fields (Obj.data_mapFields hd _)),(Obj.cls_mapFields ..).trans hc,by
  rw [Obj.data_mapFields hd];simp [rawInt]⟩
theorem oV{it l:Addr}{items}{Q:Value->Shared->Prop}(hh:A.handled=none)
  (hit:s.heap.IsTupleIter it l i) (hl:s.heap.IsTuple l items) (hx:items[i]?=none)
  (hE:∀h' e,Heap.ExtBut it s.heap h'->(∃o,h'.get? e=some o/\o.cls=.type "StopIteration")->E (.ref e) {s with heap:=h'}) :
  wpAny (model prog w) A (Builtin.SmallTypes.nextOf (.ref it)) Q E s:=by
 refine cG (id hit) λo ho hc hd=>z4 hl λol hol z_ nl hdl=>?_;refine af (wpAny_callSpecial?_slot (name:=Str.ofString "__next__") hit.typeIs F.slot_tuple_iterator_next
  (wpAny_call_entry F.slot_tuple_iterator_next hit.typeIs F.entry_tuple_iterator_next ?_ (F.args_tuple_iterator_next_1 _)))
 show wpAny _ _ (field (.ref it) 0 >>=_) _ _ s;refine af (wpAny_field ho hd (x:=.ref l) rfl ?_);rw [if_neg (show ¬((Value.ref l==Value.none)=true) from ca)];refine af (wpAny_field ho hd (x:=.int i 0) rfl ?_);refine af (wpAny_seqItems hol hdl ?_);dsimp only;rw [Int.toNat_natCast,hx];refine af (wpAny_rule (af (wpAny_setField ho hd (by simp) ?_)));refine af ?_;dsimp only [newExc,newTuple];refine af (wpAny_newObj_type ?_ (by size_fits));refine af (m:=firstArgMember _ _) (wpAny_of_eq (a:=Value.none) (by first | rfl | (dsimp only [firstArgMember];rfl)) ?_);refine wpAny_newObj_type ?_ (by size_fits);dsimp only [raiseNew];refine af (wpAny_handled ?_)
 first | rw [show A.in1.handled=none from hh] | rw [hh]
 refine af (al (wpAny_throw ?_));exact hE _ _ (((bu ..).extBut.push _).push _) ⟨_,br _ rfl,rfl⟩
end
theorem vG{prog:Program}{w:World}(hh:A.handled=none)(it l:Addr)(hne:l≠it)(items:Array Value) :
  Draws prog w A it [it,l] items.size (λi v=>items[i]?=some v) (λi h=>h.IsTupleIter it l i/\h.IsTuple l items) where
 live:=λz_ z_ st=>let ⟨o,ho,_⟩:=st.1;⟨o,ho⟩
 frame:=λz_ z_ z_ st hk=>⟨let ⟨o,h1,h2⟩:=st.1;⟨o,hk it (by simp) o h1,h2⟩,let ⟨o,h1,h2⟩:=st.2;⟨o,hk l (by simp) o h1,h2⟩⟩
 item:=λi s Q E hi st hQ=>by
  exact nR st.1 st.2 (x:=items[i]) (by simp [hi]) λh' hit' hs'=>hQ _ h' s.toks (by simp [hi]) ⟨hit',st.2.extBut hs'.extBut hne⟩ hs'
 done:=λs Q E st hE=>oV hh st.1 st.2 (by simp) hE
set_option tactic.hygienic true in
theorem qD(l:Addr)(o:Obj)(items:Array Value)(n:Nat)(hc:o.cls=.type "tuple")(hd:o.data=.seq items n) :
  Meets (Builtin.«enumerate.__new__» ⟨[.type "enumerate",.ref l],[]⟩) (λz_ R s=>s.heap.get? l=some o/\
   R (.ok (.ret (.ref (s.heap.push {cls:=.type "tuple_iterator",data:=.fields #[.ref l,.int 0 0]}).objs.size)))
    {s with heap:=(s.heap.push {cls:=.type "tuple_iterator",data:=.fields #[.ref l,.int 0 0]}).push {cls:=.type "enumerate",data:=.fields #[.none,.bool false,.ref s.heap.objs.size,rawInt 0,.none,.none]}}) :=
 .of_wp λprog w A R s h=>by
  obtain ⟨hp,g,d,tk,os⟩:=s;obtain ⟨hl,h⟩:=h;have hsub:=sub_enumerate;have hL:Heap.IsTuple (Shared.heap ⟨hp,g,d,tk,os⟩) l items:=⟨_,hl,hc,n,hd⟩
  obtain ⟨cc,dct,dt,sl⟩:=o;simp only at hc hd;subst hc hd;have hl':=hl
  wp_walk using AutoSeq1.wpAny_loadPart' hl
  refine wpAny_stack_any λst=>al ?_
  split
  ·rename_i c _ _ _ _ _
   cases (c==Value.type "enumerate")
   ·wp_walk using AutoSeq1.wpAny_loadPart' hl,wpAny_pyIter_tuple hL
    exact ⟨_,rfl,h⟩
   ·wp_walk using AutoSeq1.wpAny_loadPart' hl,wpAny_pyIter_tuple hL
    exact ⟨_,rfl,h⟩
  ·wp_walk using AutoSeq1.wpAny_loadPart' hl,wpAny_pyIter_tuple hL
   exact ⟨_,rfl,h⟩
section
variable{prog:Program}{w:World}{E:Value->Shared->Prop}
theorem pC{l:Addr}{Q:Value->Shared->Prop}(hL:s.heap.IsTuple l items)
  (h:∀h',IsEnum h' (s.heap.objs.size+1) s.heap.objs.size 0 .none->h'.IsTupleIter s.heap.objs.size l 0->h'.objs.size=s.heap.objs.size+2->
   (∀b o,s.heap.get? b=some o->h'.get? b=some o)->Q (.ref (s.heap.objs.size+1)) {s with heap:=h'}) :
  wpAny (model prog w) A (call (.type "enumerate") [.ref l]) Q E s:=by
 refine z4 hL λo hl hc n hd=>?_;refine callType_new F.called_enumerate (by decide) (F.typeCall_enumerate_1 _) (F.newCall_enumerate_1 _) (λobj=>F.args_object_init_2 obj _) F.entry_enumerate_new
  (qD l o items n hc hd) ⟨hl,?_⟩
 have hz:(s.heap.push {cls:=.type "tuple_iterator",data:=.fields #[.ref l,.int 0 0]}).objs.size=s.heap.objs.size+1:=bN ..;rw [hz];have he:IsEnum ((s.heap.push {cls:=.type "tuple_iterator",data:=.fields #[.ref l,.int 0 0]}).push
   {cls:=.type "enumerate",data:=.fields #[.none,.bool false,.ref s.heap.objs.size,rawInt 0,.none,.none]}) (s.heap.objs.size+1) s.heap.objs.size 0 .none:=by
  have:=br (s.heap.push {cls:=.type "tuple_iterator",data:=.fields #[.ref l,.int 0 0]})
   (o:={cls:=.type "enumerate",data:=.fields #[.none,.bool false,.ref s.heap.objs.size,rawInt 0,.none,.none]}) rfl
  rw [hz] at this;exact this
 refine ⟨⟨_,he,rfl⟩,h _ he ⟨_,aJ _ (br _ rfl),rfl,rfl⟩ (by rw [bN,hz]) λb o x=>aJ _ (aJ _ x)⟩
end
structure zc(W:Wd)(xs:List V)(ns:List Nat)(σb:Hp)(e it:Addr)(P:Nat->Rho->Heap->Prop):Prop where
 live:∀{i Z h},P i Z h->∃o,h.get? it=some o/\o.cls≠.type "tuple"
 mono:∀{i Z ρ' s s' X},P i Z s.heap->bA X Z s ρ' s'->bv W s.heap s'.heap->(∀o,s.heap.get? it=some o->s'.heap.get? it=some o)->P i ρ' s'.heap
 draws:∀{A:Around} {i:Nat} {s:Shared} {Z:Rho} {J:Hp},A.handled=none->P i Z s.heap->bU W s.heap Z J->b8 ns σb J->cE W Z s.heap it->(∀o:Obj,s.heap.get? e=some o->o.cls=.type "enumerate")->∃fp D St,Draws W.prog W.w A it fp xs.length D St/\St i s.heap/\e∉fp/\
  (∀v,D i v->∃u,xs[i]?=some u/\aK W s.heap Z u v)/\∀h',St (i+1) h'->bv W s.heap h'->P (i+1) Z h'
theorem Ik{z t x:Addr}{M:Addr->Prop}(h:x∈[z,t])(h1:M z)(h2:M t):M x:=(List.mem_cons.1 h).elim (λe=>e▸h1) λh=>List.mem_singleton.1 h▸h2
theorem Dd{z t:Addr}{h':Heap}(k:∀b o,b≠z->b≠t->h.get? b=some o->h'.get? b=some o):∀b o,b∉[z,t]->h.get? b=some o->h'.get? b=some o:=λb o n=>k b o (λq=>n (q▸ai)) λq=>n (q▸.tail _ (.head _))
structure I4(W:Wd)(e it:Addr)(P:Nat->Rho->Heap->Prop)(i j:Nat)(B:Heap->Prop)(Z:Rho)(h:Heap):Prop where
 he:B h
 p:P j Z h
 a1:cE W Z h e
 a2:cE W Z h it
section
variable{h':Heap}{e it:Addr}
theorem IB(R:bU W h Z J)(a1:cE W Z h e)(a2:cE W Z h it)(h1:∃o,h.get? e=some o/\o.cls≠.type "tuple")(h2:∃o,h.get? it=some o/\o.cls≠.type "tuple")(kk:∀b o,b∉[e,it]->h.get? b=some o->h'.get? b=some o)(hz:h.objs.size<=h'.objs.size):bv W h h'/\bU W h' Z J :=
 R.own (O:=(·∈[e,it])) (h':=h') (λa ha=>Ik ha a1 a2) (λa o ha=>Ik (M:=λa=>h.get? a=some o->o.cls≠.type "tuple") ha (λq=>h1.elim λz_ g=>a9 (g.1.symm.trans q)▸g.2) λq=>h2.elim λz_ g=>a9 (g.1.symm.trans q)▸g.2) kk hz
theorem qC{i:Int}{old:Value}(he:IsEnum h e it i old):∃o,h.get? e=some o/\o.cls≠.type "tuple":=⟨_,he,show Value.type "enumerate"≠.type "tuple" by decide⟩
theorem zl{i:Int}{old:Value}(he:IsEnum h e it i old):∀o:Obj,h.get? e=some o->o.cls=.type "enumerate":=λo q=>a9 (he.symm.trans q)▸rfl
end
theorem AH{ns:List Nat}{e it:Addr}{P:Nat->Rho->Heap->Prop}(N:zc W xs ns σb e it P)(hne:e≠it) :
  ∃St Mid,mC W true (xs.zipIdx.map λp=>.tup [.int p.2,p.1]) ns σb [e,it] e St Mid/\∀Z h,IsEnum h e it 0 .none->P 0 Z h->cE W Z h e->cE W Z h it->St 0 Z h:=by
 refine ⟨λi Z h=>I4 W e it P i i (λh=>∃old,IsEnum h e it i old) Z h,λi Z h x=>I4 W e it P i (i+1) (λh=>∃T item,x=.ref T/\IsEnumOut h e it ((i:Int)+1) item T) Z h,
  ⟨?_,?_,?_,?_,?_,?_⟩,λZ h h1 h2 h3 h4=>⟨⟨_,h1⟩,h2,h3,h4⟩⟩
 ·intro i Z h st a ha;exact Ik (M:=λa=>cE W Z h a/\∃o,h.get? a=some o/\(o.cls=.type "tuple"->W.priv a)) ha ⟨st.a1,st.he.elim λz_ q=>(qC q).imp λz_ q=>⟨q.1,λc=>absurd c q.2⟩⟩ ⟨st.a2,(N.live st.p).imp λz_ q=>⟨q.1,λc=>absurd c q.2⟩⟩
 ·intro i Z ρ' s s' X st S tk k;exact ⟨st.he.imp λz_ q=>k e (.head _) _ q,N.mono st.p S tk (k it (.tail _ (.head _))),st.a1.step S,st.a2.step S⟩
 ·intro A E s Z J i v Q hA st R sd hx hQ;refine xe st.he λold he=>fE (N.draws (A:=A.in1) hA st.p R sd st.a2 (zl he)) λfp D St dr hst hef hD hnext=>?_;rw [List.getElem?_map,List.getElem?_zipIdx] at hx;refine bO (Option.map_eq_some_iff.1 hx) λq hq hv=>bO (Option.map_eq_some_iff.1 hq) λw hw hq=>wpAny_pyNext_enum_itemD dr he hst (aE.mp hw).1 hne hef λx h' tk hP out st' hT gE keep=>?_;refine bO (hD x hP) λu hu ru=>?_;have kk:=Dd keep;have hzz:s.heap.objs.size<=h'.objs.size:=by rw [gE];exact Nat.le_succ _
  refine xa (IB R st.a1 st.a2 (qC he) (N.live st.p) kk hzz) λtk' R'=>?_;have S:bA (·∈[e,it]) Z s Z {s with heap:=h',toks:=tk+1}:=bA.priv (X:=(·∈[e,it])) kk hzz;have hv:v=.tup [.int i,u]:=by rw [<-hv,<-hq,a9 (hw.symm.trans hu),Nat.zero_add]
  subst hv;exact hQ _ _ S tk' R' (.tup hT rfl rfl ⟨rfl,rfl,λp=>(R.priv _ p).elim λz_ q=>bh _ (bW q.1)⟩ (.cons (.int _ _) (.cons (ru.mono tk' (aD _)) .nil)))
   ⟨⟨_,_,rfl,out⟩,hnext h' st' tk',st.a1.step S,st.a2.step S⟩
 ·intro A E s Z J i x Q target ht st R hQ;refine dE st.he λT item y out=>?_;subst y;refine JR (ht rfl) λelts k p r=>?_;subst r;refine wpAny_letOwnedTupleGo_enum out λh' he' sb=>?_;have kk:=Dd (t:=it) λb o z z_ q=>(sb.2 b z).trans q;have hzz:s.heap.objs.size<=h'.objs.size:=by rw [sb.1];exact ay _
  refine xa (IB R st.a1 st.a2 ⟨_,out,show Value.type "enumerate"≠.type "tuple" by decide⟩ (N.live st.p) kk hzz) λtk' R'=>?_;have S:bA (·∈[e,it]) Z s Z {s with heap:=h',toks:=s.toks}:=bA.priv (X:=(·∈[e,it])) kk hzz;exact hQ _ S tk' R' ⟨⟨_,(Int.natCast_add i 1).symm▸he'⟩,N.mono st.p S tk' (λo q=>(sb.2 it (bg hne)).trans q),st.a1.step S,st.a2.step S⟩
 ·intro A E s Z J Q hA st R sd hQ;refine xe st.he λold he=>?_;have hp:=st.p;rw [aM,List.length_zipIdx] at he hp;refine fE (N.draws (A:=A.in1) hA hp R sd st.a2 (zl he)) λfp D St dr hst hef hD hnext=>od (wpAny_pyNext_enum_endD dr he hst λh' eb hz=>?_);have kk:=Dd (z:=e) λb o z_ z q=>eb b o z q;exact xa (IB R st.a1 st.a2 (qC he) (N.live hp) kk hz) λtk' R'=>hQ _ (bA.priv (X:=(·∈[e,it])) (t:=s.toks) kk hz) tk' R'
 ·intro A E s Z i Q st hq;exact st.he.elim λz_ he=>wpAny_pyIter_enum he hq
theorem xL{e it l:Addr}(e₀:σb[n]?=some (.list xs)):zc W xs [n] σb e it (λi Z h=>h.IsListIter it l i/\Z[n]?=some (l,l)) where
 live st:=let ⟨o,h1,h2,_⟩:=st.1;⟨o,h1,by rw [h2];simp⟩
 mono st S tk k:=⟨let ⟨o,h1,h2⟩:=st.1;⟨o,k o h1,h2⟩,iA S.pre st.2⟩
 draws:=λ{A i s Z J} hA st R sd ap he=>by
  have e':J[n]?=some (.list xs):=by rw [sd n (by simp)];exact e₀
  refine bz (R.list_at (.obj st.2) e') λp ad ep hp1 hp2 hee items ek ho hr hz=>?_;cases hee;have hl:l≠it:=(ap.2.2 n _ st.2).1;refine ⟨_,_,_,hz▸Draws.list hA it l hl items,⟨st.1,⟨_,ho,rfl,ek,rfl⟩⟩,?_,λv hv=>?_,λh' st' tk=>⟨st'.1,st.2⟩⟩
  ·intro hm;simp only [List.mem_cons,aq,or_false] at hm;rcases hm with rfl | rfl
   ·refine cG st.1 λo h1 h2 z_=>?_;rw [he o h1] at h2;simp at h2
   ·have:=he _ ho;simp at this
  ·have hi:i<xs.length:=by rw [<-hz];exact (Array.getElem?_eq_some_iff.mp hv).1
   refine bO (iU hr (aA hi)) λu hu ru=>?_;rw [hv] at hu;cases hu;exact ⟨_,aA hi,ru⟩
theorem vU{e it t:Addr}:zc W xs [] σb e it (λi Z h=>h.IsTupleIter it t i/\aK W h Z (.tup xs) (.ref t)) where
 live st:=let ⟨o,h1,h2,_⟩:=st.1;⟨o,h1,by rw [h2];simp⟩
 mono st S tk k:=⟨let ⟨o,h1,h2⟩:=st.1;⟨o,k o h1,h2⟩,st.2.mono tk S.pre⟩
 draws:=λ{A i s Z J} hA st R sd ap he=>by
  refine xa st λst1 st2=>?_;have st2':=st2;refine cv st2.E λz_ o items ek e ho hc hd hxx hr=>?_;cases e;have hz:items.size=xs.length:=by rw [<-bf,hr.length]
  have hl:t≠it:=by
   rintro rfl;refine cG st1 λo' h1 h2 z_=>?_;rw [ho] at h1;cases h1;rw [hc] at h2;simp at h2
  refine ⟨_,_,_,hz▸vG hA it t hl items,⟨st1,⟨o,ho,hc,ek,hd⟩⟩,?_,λv hv=>?_,λh' st' tk=>⟨st'.1,st2'.mono tk (aD _)⟩⟩
  ·intro hm;simp only [List.mem_cons,aq,or_false] at hm;rcases hm with rfl | rfl
   ·refine cG st1 λo h1 h2 z_=>?_;rw [he o h1] at h2;simp at h2
   ·have:=he _ ho;rw [hc] at this;simp at this
  ·have hi:i<xs.length:=by rw [<-hz];exact (Array.getElem?_eq_some_iff.mp hv).1
   refine bO (iU hr (aA hi)) λu hu ru=>?_;rw [hv] at hu;cases hu;exact ⟨_,aA hi,ru⟩
noncomputable def dT(env:Env)(a:Addr):Prop:=a=env.locals\/∃n,env.cells.lookup n=some a
structure bJ(W:Wd)(env:Env)(loc:Loc)(Z:Rho)(h:Heap):Prop where
 kind:env.scope.kind=.function
 glob:env.globals=mainGlobals
 blt:env.builtins=builtinsNs
 ns:∃m,h.Ns env.locals m/\∀x v,loc x=some v->env.kindOf (Str.ofString x)=some .local->∃a,m (Str.ofString x)=some a/\aK W h Z v a
 cel:∀n,env.kindOf n=some .cell->∃c v,env.cells.lookup n=some c/\h.IsCell c v
 val:∀x v,loc x=some v->env.kindOf (Str.ofString x)=some .cell->∃c a,env.cells.lookup (Str.ofString x)=some c/\h.IsCell c (some a)/\aK W h Z v a
 apart:∀a,dT env a->cE W Z h a
 alive:∀a,dT env a->∃o,h.get? a=some o/\¬sP o
 ne:∀n c,env.cells.lookup n=some c->c≠env.locals
 inj:∀n n' c,env.cells.lookup n=some c->env.cells.lookup n'=some c->n=n'
section
variable{c:V}{x:Value}
theorem bJ.step{X:Addr->Prop}(O:bJ W env loc Z s.heap)(S:bA X Z s ρ' s')(tk:bv W s.heap s'.heap)(hX:∀a,dT env a->¬X a):bJ W env loc ρ' s'.heap:=by
 have k:∀a,dT env a->∀o,s.heap.get? a=some o->s'.heap.get? a=some o:=λa ha o e=>S.keep a o e (hX a ha) λn p en=>(O.apart a ha).2.2 n p en;refine ⟨O.kind,O.glob,O.blt,?_,?_,?_,λa ha=>(O.apart a ha).step S,λa ha=>?_,O.ne,O.inj⟩
 ·exact bO O.ns λm h1 h2=>⟨m,h1.at' λo e=>k _ (.inl rfl) o e,λx v hv hk=>bO (h2 x v hv hk) λu h3 h4=>⟨u,h3,h4.mono tk S.pre⟩⟩
 ·intro n hn;exact y8 (O.cel n hn) λc v h1 o h2 h3=>⟨c,v,h1,o,k _ (.inr ⟨n,h1⟩) o h2,h3⟩
 ·intro x v hv hk;exact cU (O.val x v hv hk) λc u h1 q h4=>bO q λo h2 h3=>⟨c,u,h1,⟨o,k _ (.inr ⟨_,h1⟩) o h2,h3⟩,h4.mono tk S.pre⟩
 ·exact bO (O.alive a ha) λo h1 h2=>⟨o,k a ha o h1,h2⟩
theorem bJ.step0(O:bJ W env loc Z s.heap)(R:bU W s.heap Z J)(S:bA gZ Z s ρ' s'):bJ W env loc ρ' s'.heap:=O.step S (S.tup0 R) λz_ z_ h=>h
theorem bJ.nocls(O:bJ W env loc Z s.heap):(env.scope.kind==.class ||(env.scope.kind==.module&&env.locals !=env.globals))=false:=by rw [O.kind];rfl
theorem bJ.load{x:String}{P:Value->Shared->Prop}(O:bJ W env loc Z s.heap)(hv:loc x=some v)(hk:env.kindOf (Str.ofString x)=some .local\/env.kindOf (Str.ofString x)=some .cell)
  (h:∀a,aK W s.heap Z v a->P a s):wpAny (model W.prog W.w) A (loadName env (Str.ofString x)) P Er s:=by
 refine Or.elim hk (λhk=>?_) (λhk=>?_)
 ·exact bO O.ns λm h1 h2=>bO (h2 x v hv hk) λu h3 h4=>wpAny_loadName_local O.kind hk h1 h3 (h u h4)
 ·exact cU (O.val x v hv hk) λc u h1 h2 h3=>wpAny_loadName_cell O.kind hk h1 h2 (h u h3)
theorem bJ.weaken(O:bJ W env loc Z s.heap)(h:∀y v,loc' y=some v->loc y=some v):bJ W env loc' Z s.heap :=
 ⟨O.kind,O.glob,O.blt,let ⟨m,h1,h2⟩:=O.ns;⟨m,h1,λx v hv hk=>h2 x v (h x v hv) hk⟩,O.cel,λx v hv hk=>O.val x v (h x v hv) hk,O.apart,O.alive,O.ne,O.inj⟩
theorem bJ.core(O:bJ W env loc Z s.heap)(R:bU W s.heap Z J)(ad:Addr)(h':Heap)(t:Nat)(ho:dT env ad)(hs:Heap.SameBut ad s.heap h'):bv W s.heap h'/\bU W h' Z J/\bA (λa=>a=ad) Z s Z {s with heap:=h',toks:=t}:=by
 obtain ⟨tk,R'⟩:=R.own' (O:=λa=>a=ad) (h':=h') (λa e=>e▸O.apart ad ho) (λa o e g=>by
  subst e;refine bO (O.alive a ho) λo' h1 h2=>?_;rw [h1] at g;cases g;exact h2) (λb o hb e=>(hs.2 b hb).trans e) (by rw [hs.1];exact ay _)
 exact ⟨tk,R',bA.priv (X:=λa=>a=ad) (λb o hb e=>(hs.2 b hb).trans e) (by rw [hs.1];exact ay _)⟩
theorem bJ.storeL{x:String}{u:Value}{P:Unit->Shared->Prop}(O:bJ W env loc Z s.heap)(R:bU W s.heap Z J)(ru:aK W s.heap Z v u)(hk:env.kindOf (Str.ofString x)=some .local)
  (h:∀s',bA (λa=>a=env.locals) Z s Z s'->bv W s.heap s'.heap->bU W s'.heap Z J->bJ W env (setL loc x v) Z s'.heap->P () s'):wpAny (model W.prog W.w) A (storeName env (Str.ofString x) u) P Er s:=by
 refine bO O.ns λm h1 h2=>wpAny_storeName_local hk h1 (λh' hn hs=>?_) O.nocls;refine o9 (O.core R env.locals h' (s.toks+1) (.inl rfl) hs) λtk R' S=>h _ S tk R' ⟨O.kind,O.glob,O.blt,⟨_,hn,λy w hw hky=>?_⟩,λn hn'=>?_,λy w hw hky=>?_,λa ha=>(O.apart a ha).step S,λa ha=>?_,O.ne,O.inj⟩
 ·by_cases hy:y=x
  ·subst hy;unfold setL at hw;rw [if_pos rfl] at hw;cases hw;exact ⟨u,by simp,ru.mono tk (aD _)⟩
  ·unfold setL at hw;rw [if_neg hy] at hw;refine bO (h2 y w hw hky) λu' h3 h4=>?_;exact ⟨u',by show (if _ then _ else _)=_;rw [if_neg (λq=>hy (dc q))];exact h3,h4.mono tk (aD _)⟩
 ·exact dE (O.cel n hn') λc v' g1 g2=>⟨c,v',g1,g2.sameBut hs (O.ne n c g1)⟩
 ·have hy:y≠x:=λe=>by rw [e,hk] at hky;simp at hky
  unfold setL at hw;rw [if_neg hy] at hw;exact cU (O.val y w hw hky) λc u' g1 g2 g3=>⟨c,u',g1,g2.sameBut hs (O.ne _ c g1),g3.mono tk (aD _)⟩
 ·by_cases e:a=env.locals
  ·subst e;refine rT hn λo es ep q1 q2 z_=>?_;exact ⟨o,q1,λz=>y6 z λz_ z_ t=>xe t λz_ q=>by rw [q2] at q;cases q⟩
  ·exact bO (O.alive a ha) λo q1 q2=>⟨o,(hs.2 a e).trans q1,q2⟩
theorem bJ.store{x:String}{u:Value}{P:Unit->Shared->Prop}(O:bJ W env loc Z s.heap)(R:bU W s.heap Z J)(ru:aK W s.heap Z v u)(hk:env.kindOf (Str.ofString x)=some .local\/env.kindOf (Str.ofString x)=some .cell)
  (h:∀s',bA (dT env) Z s Z s'->bv W s.heap s'.heap->bU W s'.heap Z J->bJ W env (setL loc x v) Z s'.heap->P () s'):wpAny (model W.prog W.w) A (storeName env (Str.ofString x) u) P Er s:=by
 refine Or.elim hk (λhk=>?_) (λhk=>?_)
 ·exact O.storeL R ru hk λs' S tk R' O'=>h s' (S.weaken λa e=>.inl e) tk R' O'
 ·refine dE (O.cel _ hk) λc v₀ g1 g2=>wpAny_storeName_cell O.kind hk g1 g2 λh' hc hs=>o9 (O.core R c h' s.toks (.inr ⟨_,g1⟩) hs) λtk R' S=>h _ (S.weaken λa e=>.inr ⟨Str.ofString x,g1.trans (congrArg some (Eq.symm e))⟩) tk R' ⟨O.kind,O.glob,O.blt,?_,λn hn'=>?_,λy w hw hky=>?_,λa ha=>(O.apart a ha).step S,λa ha=>?_,O.ne,O.inj⟩
  ·refine bO O.ns λm h1 h2=>⟨m,h1.sameBut hs (bg (O.ne _ c g1)),λy w hw hky=>?_⟩
   have hy:y≠x:=λe=>by rw [e,hk] at hky;simp at hky
   unfold setL at hw;rw [if_neg hy] at hw;exact bO (h2 y w hw hky) λu' h3 h4=>⟨u',h3,h4.mono tk (aD _)⟩
  ·by_cases e:n=Str.ofString x
   ·subst e;exact ⟨c,_,g1,hc⟩
   ·refine dE (O.cel n hn') λc' v' q1 q2=>?_;have:c'≠c:=λq=>e (O.inj _ _ c (q▸q1) g1);exact ⟨c',v',q1,q2.sameBut hs this⟩
  ·by_cases hy:y=x
   ·subst hy;unfold setL at hw;rw [if_pos rfl] at hw;cases hw;exact ⟨c,u,g1,hc,ru.mono tk (aD _)⟩
   ·unfold setL at hw;rw [if_neg hy] at hw;refine cU (O.val y w hw hky) λc' u' q1 q2 q3=>?_;have:c'≠c:=λq=>hy (dc (O.inj _ _ c (q▸q1) g1));exact ⟨c',u',q1,q2.sameBut hs this,q3.mono tk (aD _)⟩
  ·by_cases e:a=c
   ·subst e;refine bO hc λo q1 q2=>?_;exact ⟨o,q1,λz=>y6 z λz_ z_ t=>xe t λz_ q=>by rw [q2] at q;cases q⟩
   ·exact bO (O.alive a ha) λo q1 q2=>⟨o,(hs.2 a e).trans q1,q2⟩
end
theorem ft:false≠true:=ca
section
variable{β:Type}{d w:β}
theorem cP{M:Prop}{m:Nat}{f:n=m->β}(h:dite (n=m) f (λz_=>d)=w)(hd:d≠w)(k:n=m->M):M:=if q:n=m then k q else absurd ((dif_neg q).symm.trans h) hd
variable{b:β}{l:List α}{M:List α->Prop}{g:α->List α->β}
noncomputable def dO(d:β)(l:List α)(b:β):β:=List.casesOn (motive:=λz_=>β) l b λz_ z_=>d
theorem bK(h:dO d l b=w)(hd:d≠w)(k:b=w->M []):M l:=List.casesOn (motive:=λl=>dO d l b=w->M l) l k (λ_ _ (h:d=w)=>absurd h hd) h
noncomputable def di(d:β)(l:List α)(g:α->List α->β):β:=List.casesOn (motive:=λz_=>β) l d g
theorem bH(h:di d l g=w)(hd:d≠w)(k:∀x r,g x r=w->M (x::r)):M l:=List.casesOn (motive:=λl=>di d l g=w->M l) l (λ(h:d=w)=>absurd h hd) k h
end
noncomputable def uE(x:V)(g:Int->Bool):Bool:=by cases x with | int u=>exact g u | _=>exact false
theorem Bj(x:V)(g:Int->Bool):uE x g=dite (x.ctorIdx=2) (λh=>V.int.elim x h g) λh=>false:=by rcases x with _ | _<;>first | exact @rfl Bool false | exact rfl
theorem yv{M:V->Prop}{x:V}{g:Int->Bool}(h:uE x g=true)(k:∀i,g i=true->M (.int i)):M x:=cP ((Bj ..).symm.trans h) ft λq=>V.int.elim (motive_1:=λx=>uE x g=true->M x) x q k h
noncomputable def uF(x:V)(g:String->Bool):Bool:=by cases x with | str u=>exact g u | _=>exact false
theorem Bn(x:V)(g:String->Bool):uF x g=dite (x.ctorIdx=3) (λh=>V.str.elim x h g) λh=>false:=by rcases x with _ | _<;>first | exact @rfl Bool false | exact rfl
theorem yw{M:V->Prop}{x:V}{g:String->Bool}(h:uF x g=true)(k:∀i,g i=true->M (.str i)):M x:=cP ((Bn ..).symm.trans h) ft λq=>V.str.elim (motive_1:=λx=>uF x g=true->M x) x q k h
noncomputable def uG(x:V)(g:List V->Bool):Bool:=by cases x with | tup u=>exact g u | _=>exact false
theorem Bo(x:V)(g:List V->Bool):uG x g=dite (x.ctorIdx=4) (λh=>V.tup.elim x h g) λh=>false:=by rcases x with _ | _<;>first | exact @rfl Bool false | exact rfl
theorem yx{M:V->Prop}{x:V}{g:List V->Bool}(h:uG x g=true)(k:∀i,g i=true->M (.tup i)):M x:=cP ((Bo ..).symm.trans h) ft λq=>V.tup.elim (motive_1:=λx=>uG x g=true->M x) x q k h
mutual
noncomputable def V.same:V->V->Bool
 | .int a,y=>uE y λb=>a==b
 | .str a,y=>uF y λb=>a==b
 | .tup l,y=>uG y λm=>V.sames l m
 | .none,_ | .bool _,_ | .obj _,_ | .ints _,_=>false
noncomputable def V.sames:List V->List V->Bool
 | [],y=>dO false y true
 | x::l,y=>di false y λy m=>V.same x y&&V.sames l m
end
mutual
theorem V.same_eq:∀{x y:V},V.same x y=true->x=y
 | .int _,_,h=>yv (M:=λy=>V.int _=y) h λz_ h=>congrArg V.int (eq_of_beq h)
 | .str _,_,h=>yw (M:=λy=>V.str _=y) h λz_ h=>congrArg V.str (eq_of_beq h)
 | .tup _,_,h=>yx (M:=λy=>V.tup _=y) h λz_ h=>congrArg V.tup (V.sames_eq h)
 | .none,_,h | .bool _,_,h | .obj _,_,h | .ints _,_,h=>absurd h ft
theorem V.sames_eq:∀{x y:List V},V.sames x y=true->x=y
 | [],_,h=>bK (M:=λy=>[]=y) h ft λz_=>rfl
 | _::_,_,h=>bH (M:=λy=>_::_=y) h ft λz_ z_ h=>have h:=bj.1 h;List.cons_eq_cons.2 ⟨V.same_eq h.1,V.sames_eq h.2⟩
end
structure ia where
 gl:List (String×V)
 fns:List String
 clss:List String
 has:List (String×String)
 attrs:List String
noncomputable abbrev Nm:=List (Str×NameKind)
variable{nm:Nm}
noncomputable def jQ(nm:Nm)(id:Str):Bool:=decide (nm.lookup id=some .local) ||decide (nm.lookup id=some .cell)
noncomputable def oQ(nm:Nm)(id:Str):Bool:=decide (nm.lookup id=some .globalImplicit)&&!(id==("__debug__":Str))
noncomputable def dM(nm:Nm)(names:Nm):Nm:=names.map λ(n,k)=>if (k==.free&&nm.lookup n==some .cell) then (n,.cell) else (n,k)
section
variable{β:Type}{d w:β}
noncomputable def kz(d:β)(x:Expr)(g:∀(id:Str) (p:Pos),β):β:=by cases x with | Name u v=>exact g u v | _=>exact d
theorem Bf(d:β)(x:Expr)(g:∀(id:Str) (p:Pos),β):kz d x g=dite (x.ctorIdx=23) (λh=>Expr.Name.elim x h g) λh=>d:=by rcases x with _ | _<;>first | exact @rfl β d | exact rfl
theorem dB{g:∀(id:Str) (p:Pos),β}(h:kz d x g=w)(hd:d≠w)(k:∀(id:Str) (p:Pos),g id p=w->M (.Name id p)):M x:=cP ((Bf ..).symm.trans h) hd λq=>Expr.Name.elim (motive_1:=λx=>kz d x g=w->M x) x q k h
noncomputable def fN(d:β)(x:Expr)(g:∀(c:Const) (kd:Nat) (p:Pos),β):β:=by cases x with | Constant u v w=>exact g u v w | _=>exact d
theorem r9(d:β)(x:Expr)(g:∀(c:Const) (kd:Nat) (p:Pos),β):fN d x g=dite (x.ctorIdx=19) (λh=>Expr.Constant.elim x h g) λh=>d:=by rcases x with _ | _<;>first | exact @rfl β d | exact rfl
theorem eU{g:∀(c:Const) (kd:Nat) (p:Pos),β}(h:fN d x g=w)(hd:d≠w)(k:∀(c:Const) (kd:Nat) (p:Pos),g c kd p=w->M (.Constant c kd p)):M x:=cP ((r9 ..).symm.trans h) hd λq=>Expr.Constant.elim (motive_1:=λx=>fN d x g=w->M x) x q k h
noncomputable def jX(d:β)(x:Expr)(g:∀(op:UnaryOp) (e:Expr) (p:Pos),β):β:=by cases x with | UnaryOp u v w=>exact g u v w | _=>exact d
theorem uD(d:β)(x:Expr)(g:∀(op:UnaryOp) (e:Expr) (p:Pos),β):jX d x g=dite (x.ctorIdx=3) (λh=>Expr.UnaryOp.elim x h g) λh=>d:=by rcases x with _ | _<;>first | exact @rfl β d | exact rfl
theorem fB{g:∀(op:UnaryOp) (e:Expr) (p:Pos),β}(h:jX d x g=w)(hd:d≠w)(k:∀(op:UnaryOp) (e:Expr) (p:Pos),g op e p=w->M (.UnaryOp op e p)):M x:=cP ((uD ..).symm.trans h) hd λq=>Expr.UnaryOp.elim (motive_1:=λx=>jX d x g=w->M x) x q k h
noncomputable def nV(d:β)(x:Expr)(g:∀(l:Expr) (op:Operator) (r:Expr) (p:Pos),β):β:=by cases x with | BinOp u v w y=>exact g u v w y | _=>exact d
theorem yk(d:β)(x:Expr)(g:∀(l:Expr) (op:Operator) (r:Expr) (p:Pos),β):nV d x g=dite (x.ctorIdx=2) (λh=>Expr.BinOp.elim x h g) λh=>d:=by rcases x with _ | _<;>first | exact @rfl β d | exact rfl
theorem jn{g:∀(l:Expr) (op:Operator) (r:Expr) (p:Pos),β}(h:nV d x g=w)(hd:d≠w)(k:∀(l:Expr) (op:Operator) (r:Expr) (p:Pos),g l op r p=w->M (.BinOp l op r p)):M x:=cP ((yk ..).symm.trans h) hd λq=>Expr.BinOp.elim (motive_1:=λx=>nV d x g=w->M x) x q k h
noncomputable def ei(d:β)(x:Expr)(g:∀(o:Expr) (n:Str) (p:Pos),β):β:=by cases x with | Attribute u v w=>exact g u v w | _=>exact d
theorem qX(d:β)(x:Expr)(g:∀(o:Expr) (n:Str) (p:Pos),β):ei d x g=dite (x.ctorIdx=20) (λh=>Expr.Attribute.elim x h g) λh=>d:=by rcases x with _ | _<;>first | exact @rfl β d | exact rfl
theorem cQ{g:∀(o:Expr) (n:Str) (p:Pos),β}(h:ei d x g=w)(hd:d≠w)(k:∀(o:Expr) (n:Str) (p:Pos),g o n p=w->M (.Attribute o n p)):M x:=cP ((qX ..).symm.trans h) hd λq=>Expr.Attribute.elim (motive_1:=λx=>ei d x g=w->M x) x q k h
noncomputable def eV(d:β)(x:Expr)(g:∀(o sl:Expr) (p:Pos),β):β:=by cases x with | Subscript u v w=>exact g u v w | _=>exact d
theorem q7(d:β)(x:Expr)(g:∀(o sl:Expr) (p:Pos),β):eV d x g=dite (x.ctorIdx=21) (λh=>Expr.Subscript.elim x h g) λh=>d:=by rcases x with _ | _<;>first | exact @rfl β d | exact rfl
theorem cb{g:∀(o sl:Expr) (p:Pos),β}(h:eV d x g=w)(hd:d≠w)(k:∀(o sl:Expr) (p:Pos),g o sl p=w->M (.Subscript o sl p)):M x:=cP ((q7 ..).symm.trans h) hd λq=>Expr.Subscript.elim (motive_1:=λx=>eV d x g=w->M x) x q k h
noncomputable def nX(d:β)(x:Expr)(g:∀(lo hi st:Option Expr) (p:Pos),β):β:=by cases x with | Slice u v w y=>exact g u v w y | _=>exact d
theorem yt(d:β)(x:Expr)(g:∀(lo hi st:Option Expr) (p:Pos),β):nX d x g=dite (x.ctorIdx=26) (λh=>Expr.Slice.elim x h g) λh=>d:=by rcases x with _ | _<;>first | exact @rfl β d | exact rfl
theorem pn{g:∀(lo hi st:Option Expr) (p:Pos),β}(h:nX d x g=w)(hd:d≠w)(k:∀(lo hi st:Option Expr) (p:Pos),g lo hi st p=w->M (.Slice lo hi st p)):M x:=cP ((yt ..).symm.trans h) hd λq=>Expr.Slice.elim (motive_1:=λx=>nX d x g=w->M x) x q k h
noncomputable def lH(d:β)(x:Expr)(g:∀(op:BoolOp) (xs:List Expr) (p:Pos),β):β:=by cases x with | BoolOp u v w=>exact g u v w | _=>exact d
theorem wo(d:β)(x:Expr)(g:∀(op:BoolOp) (xs:List Expr) (p:Pos),β):lH d x g=dite (x.ctorIdx=0) (λh=>Expr.BoolOp.elim x h g) λh=>d:=by rcases x with _ | _<;>first | exact @rfl β d | exact rfl
theorem gk{g:∀(op:BoolOp) (xs:List Expr) (p:Pos),β}(h:lH d x g=w)(hd:d≠w)(k:∀(op:BoolOp) (xs:List Expr) (p:Pos),g op xs p=w->M (.BoolOp op xs p)):M x:=cP ((wo ..).symm.trans h) hd λq=>Expr.BoolOp.elim (motive_1:=λx=>lH d x g=w->M x) x q k h
noncomputable def jW(d:β)(x:Expr)(g:∀(l:Expr) (ops:List CmpOp) (rs:List Expr) (p:Pos),β):β:=by cases x with | Compare u v w y=>exact g u v w y | _=>exact d
theorem uu(d:β)(x:Expr)(g:∀(l:Expr) (ops:List CmpOp) (rs:List Expr) (p:Pos),β):jW d x g=dite (x.ctorIdx=15) (λh=>Expr.Compare.elim x h g) λh=>d:=by rcases x with _ | _<;>first | exact @rfl β d | exact rfl
theorem jA{g:∀(l:Expr) (ops:List CmpOp) (rs:List Expr) (p:Pos),β}(h:jW d x g=w)(hd:d≠w)(k:∀(l:Expr) (ops:List CmpOp) (rs:List Expr) (p:Pos),g l ops rs p=w->M (.Compare l ops rs p)):M x:=cP ((uu ..).symm.trans h) hd λq=>Expr.Compare.elim (motive_1:=λx=>jW d x g=w->M x) x q k h
noncomputable def pT(d:β)(x:Expr)(g:∀(t y z:Expr) (p:Pos),β):β:=by cases x with | IfExp u v w y=>exact g u v w y | _=>exact d
theorem yp(d:β)(x:Expr)(g:∀(t y z:Expr) (p:Pos),β):pT d x g=dite (x.ctorIdx=5) (λh=>Expr.IfExp.elim x h g) λh=>d:=by rcases x with _ | _<;>first | exact @rfl β d | exact rfl
theorem lJ{g:∀(t y z:Expr) (p:Pos),β}(h:pT d x g=w)(hd:d≠w)(k:∀(t y z:Expr) (p:Pos),g t y z p=w->M (.IfExp t y z p)):M x:=cP ((yp ..).symm.trans h) hd λq=>Expr.IfExp.elim (motive_1:=λx=>pT d x g=w->M x) x q k h
noncomputable def iz(d:β)(x:Expr)(g:∀(xs:List Expr) (kd:Nat) (p:Pos),β):β:=by cases x with | Tuple u v w=>exact g u v w | _=>exact d
theorem yu(d:β)(x:Expr)(g:∀(xs:List Expr) (kd:Nat) (p:Pos),β):iz d x g=dite (x.ctorIdx=25) (λh=>Expr.Tuple.elim x h g) λh=>d:=by rcases x with _ | _<;>first | exact @rfl β d | exact rfl
theorem ej{g:∀(xs:List Expr) (kd:Nat) (p:Pos),β}(h:iz d x g=w)(hd:d≠w)(k:∀(xs:List Expr) (kd:Nat) (p:Pos),g xs kd p=w->M (.Tuple xs kd p)):M x:=cP ((yu ..).symm.trans h) hd λq=>Expr.Tuple.elim (motive_1:=λx=>iz d x g=w->M x) x q k h
noncomputable def uy(d:β)(x:Expr)(g:∀(xs:List Expr) (p:Pos),β):β:=by cases x with | List u v=>exact g u v | _=>exact d
theorem Be(d:β)(x:Expr)(g:∀(xs:List Expr) (p:Pos),β):uy d x g=dite (x.ctorIdx=24) (λh=>Expr.List.elim x h g) λh=>d:=by rcases x with _ | _<;>first | exact @rfl β d | exact rfl
theorem q0{g:∀(xs:List Expr) (p:Pos),β}(h:uy d x g=w)(hd:d≠w)(k:∀(xs:List Expr) (p:Pos),g xs p=w->M (.List xs p)):M x:=cP ((Be ..).symm.trans h) hd λq=>Expr.List.elim (motive_1:=λx=>uy d x g=w->M x) x q k h
noncomputable def uw(d:β)(x:Expr)(g:∀(ks:List (Option Expr)) (vs:List Expr) (p:Pos),β):β:=by cases x with | Dict u v w=>exact g u v w | _=>exact d
theorem Bb(d:β)(x:Expr)(g:∀(ks:List (Option Expr)) (vs:List Expr) (p:Pos),β):uw d x g=dite (x.ctorIdx=6) (λh=>Expr.Dict.elim x h g) λh=>d:=by rcases x with _ | _<;>first | exact @rfl β d | exact rfl
theorem qY{g:∀(ks:List (Option Expr)) (vs:List Expr) (p:Pos),β}(h:uw d x g=w)(hd:d≠w)(k:∀(ks:List (Option Expr)) (vs:List Expr) (p:Pos),g ks vs p=w->M (.Dict ks vs p)):M x:=cP ((Bb ..).symm.trans h) hd λq=>Expr.Dict.elim (motive_1:=λx=>uw d x g=w->M x) x q k h
noncomputable def lI(d:β)(x:Expr)(g:∀(f:Expr) (args:List Expr) (kw:List Keyword) (p:Pos),β):β:=by cases x with | Call u v w y=>exact g u v w y | _=>exact d
theorem A8(d:β)(x:Expr)(g:∀(f:Expr) (args:List Expr) (kw:List Keyword) (p:Pos),β):lI d x g=dite (x.ctorIdx=16) (λh=>Expr.Call.elim x h g) λh=>d:=by rcases x with _ | _<;>first | exact @rfl β d | exact rfl
theorem gI{g:∀(f:Expr) (args:List Expr) (kw:List Keyword) (p:Pos),β}(h:lI d x g=w)(hd:d≠w)(k:∀(f:Expr) (args:List Expr) (kw:List Keyword) (p:Pos),g f args kw p=w->M (.Call f args kw p)):M x:=cP ((A8 ..).symm.trans h) hd λq=>Expr.Call.elim (motive_1:=λx=>lI d x g=w->M x) x q k h
noncomputable def iY(d:β)(x:Expr)(g:∀(y:Expr) (gs:List Comprehension) (sc:Scope) (p:Pos),β):β:=by cases x with | ListComp u v w y=>exact g u v w y | _=>exact d
theorem sa(d:β)(x:Expr)(g:∀(y:Expr) (gs:List Comprehension) (sc:Scope) (p:Pos),β):iY d x g=dite (x.ctorIdx=8) (λh=>Expr.ListComp.elim x h g) λh=>d:=by rcases x with _ | _<;>first | exact @rfl β d | exact rfl
theorem iZ{g:∀(y:Expr) (gs:List Comprehension) (sc:Scope) (p:Pos),β}(h:iY d x g=w)(hd:d≠w)(k:∀(y:Expr) (gs:List Comprehension) (sc:Scope) (p:Pos),g y gs sc p=w->M (.ListComp y gs sc p)):M x:=cP ((sa ..).symm.trans h) hd λq=>Expr.ListComp.elim (motive_1:=λx=>iY d x g=w->M x) x q k h
noncomputable def pV(d:β)(x:Stmt)(g:∀(v:Expr) (p:Pos),β):β:=by cases x with | Expr u v=>exact g u v | _=>exact d
theorem yq(d:β)(x:Stmt)(g:∀(v:Expr) (p:Pos),β):pV d x g=dite (x.ctorIdx=24) (λh=>Stmt.Expr.elim x h g) λh=>d:=by rcases x with _ | _<;>first | exact @rfl β d | exact rfl
theorem wu{M:Stmt->Prop}{x:Stmt}{g:∀(v:Expr) (p:Pos),β}(h:pV d x g=w)(hd:d≠w)(k:∀(v:Expr) (p:Pos),g v p=w->M (.Expr v p)):M x:=cP ((yq ..).symm.trans h) hd λq=>Stmt.Expr.elim (motive_2:=λx=>pV d x g=w->M x) x q k h
noncomputable def mc(d:β)(x:Stmt)(g:∀(ts:List Expr) (v:Expr) (p:Pos),β):β:=by cases x with | Assign u v w=>exact g u v w | _=>exact d
theorem uz(d:β)(x:Stmt)(g:∀(ts:List Expr) (v:Expr) (p:Pos),β):mc d x g=dite (x.ctorIdx=5) (λh=>Stmt.Assign.elim x h g) λh=>d:=by rcases x with _ | _<;>first | exact @rfl β d | exact rfl
theorem sg{M:Stmt->Prop}{x:Stmt}{g:∀(ts:List Expr) (v:Expr) (p:Pos),β}(h:mc d x g=w)(hd:d≠w)(k:∀(ts:List Expr) (v:Expr) (p:Pos),g ts v p=w->M (.Assign ts v p)):M x:=cP ((uz ..).symm.trans h) hd λq=>Stmt.Assign.elim (motive_2:=λx=>mc d x g=w->M x) x q k h
noncomputable def zG(d:β)(x:Stmt)(g:∀(t:Expr) (y z:List Stmt) (p:Pos),β):β:=by cases x with | If u v w y=>exact g u v w y | _=>exact d
theorem DD(d:β)(x:Stmt)(g:∀(t:Expr) (y z:List Stmt) (p:Pos),β):zG d x g=dite (x.ctorIdx=12) (λh=>Stmt.If.elim x h g) λh=>d:=by rcases x with _ | _<;>first | exact @rfl β d | exact rfl
theorem Bh{M:Stmt->Prop}{x:Stmt}{g:∀(t:Expr) (y z:List Stmt) (p:Pos),β}(h:zG d x g=w)(hd:d≠w)(k:∀(t:Expr) (y z:List Stmt) (p:Pos),g t y z p=w->M (.If t y z p)):M x:=cP ((DD ..).symm.trans h) hd λq=>Stmt.If.elim (motive_2:=λx=>zG d x g=w->M x) x q k h
noncomputable def nW(d:β)(x:Stmt)(g:∀(t:Expr) (y z:List Stmt) (p:Pos),β):β:=by cases x with | While u v w y=>exact g u v w y | _=>exact d
theorem wv(d:β)(x:Stmt)(g:∀(t:Expr) (y z:List Stmt) (p:Pos),β):nW d x g=dite (x.ctorIdx=11) (λh=>Stmt.While.elim x h g) λh=>d:=by rcases x with _ | _<;>first | exact @rfl β d | exact rfl
theorem uC{M:Stmt->Prop}{x:Stmt}{g:∀(t:Expr) (y z:List Stmt) (p:Pos),β}(h:nW d x g=w)(hd:d≠w)(k:∀(t:Expr) (y z:List Stmt) (p:Pos),g t y z p=w->M (.While t y z p)):M x:=cP ((wv ..).symm.trans h) hd λq=>Stmt.While.elim (motive_2:=λx=>nW d x g=w->M x) x q k h
noncomputable def uA(d:β)(x:Stmt)(g:∀(tg it:Expr) (y z:List Stmt) (p:Pos),β):β:=by cases x with | For u v w y q=>exact g u v w y q | _=>exact d
theorem Bg(d:β)(x:Stmt)(g:∀(tg it:Expr) (y z:List Stmt) (p:Pos),β):uA d x g=dite (x.ctorIdx=9) (λh=>Stmt.For.elim x h g) λh=>d:=by rcases x with _ | _<;>first | exact @rfl β d | exact rfl
theorem yr{M:Stmt->Prop}{x:Stmt}{g:∀(tg it:Expr) (y z:List Stmt) (p:Pos),β}(h:uA d x g=w)(hd:d≠w)(k:∀(tg it:Expr) (y z:List Stmt) (p:Pos),g tg it y z p=w->M (.For tg it y z p)):M x:=cP ((Bg ..).symm.trans h) hd λq=>Stmt.For.elim (motive_2:=λx=>uA d x g=w->M x) x q k h
noncomputable def me(d:β)(x:Stmt)(g:∀(v:Option Expr) (p:Pos),β):β:=by cases x with | Return u v=>exact g u v | _=>exact d
theorem uB(d:β)(x:Stmt)(g:∀(v:Option Expr) (p:Pos),β):me d x g=dite (x.ctorIdx=3) (λh=>Stmt.Return.elim x h g) λh=>d:=by rcases x with _ | _<;>first | exact @rfl β d | exact rfl
theorem sh{M:Stmt->Prop}{x:Stmt}{g:∀(v:Option Expr) (p:Pos),β}(h:me d x g=w)(hd:d≠w)(k:∀(v:Option Expr) (p:Pos),g v p=w->M (.Return v p)):M x:=cP ((uB ..).symm.trans h) hd λq=>Stmt.Return.elim (motive_2:=λx=>me d x g=w->M x) x q k h
noncomputable def jo(d:β)(x:Stmt)(g:∀(p:Pos),β):β:=by cases x with | Continue u=>exact g u | _=>exact d
theorem q6(d:β)(x:Stmt)(g:∀(p:Pos),β):jo d x g=dite (x.ctorIdx=27) (λh=>Stmt.Continue.elim x h g) λh=>d:=by rcases x with _ | _<;>first | exact @rfl β d | exact rfl
theorem pH{M:Stmt->Prop}{x:Stmt}{g:∀(p:Pos),β}(h:jo d x g=w)(hd:d≠w)(k:∀(p:Pos),g p=w->M (.Continue p)):M x:=cP ((q6 ..).symm.trans h) hd λq=>Stmt.Continue.elim (motive_2:=λx=>jo d x g=w->M x) x q k h
noncomputable def pS(d:β)(x:Const)(g:β):β:=by cases x with | none=>exact g | _=>exact d
theorem yn(d:β)(x:Const)(g:β):pS d x g=dite (x.ctorIdx=0) (λh=>Const.none.elim x h g) λh=>d:=by rcases x with _ | _<;>first | exact @rfl β d | exact rfl
theorem wr{M:Const->Prop}{x:Const}{g:β}(h:pS d x g=w)(hd:d≠w)(k:g=w->M (.none)):M x:=cP ((yn ..).symm.trans h) hd λq=>Const.none.elim (motive:=λx=>pS d x g=w->M x) x q k h
noncomputable def pR(d:β)(x:Const)(g:∀(b:Bool),β):β:=by cases x with | bool u=>exact g u | _=>exact d
theorem yl(d:β)(x:Const)(g:∀(b:Bool),β):pR d x g=dite (x.ctorIdx=1) (λh=>Const.bool.elim x h g) λh=>d:=by rcases x with _ | _<;>first | exact @rfl β d | exact rfl
theorem wq{M:Const->Prop}{x:Const}{g:∀(b:Bool),β}(h:pR d x g=w)(hd:d≠w)(k:∀(b:Bool),g b=w->M (.bool b)):M x:=cP ((yl ..).symm.trans h) hd λq=>Const.bool.elim (motive:=λx=>pR d x g=w->M x) x q k h
noncomputable def ur(d:β)(x:Const)(g:∀(i:Int),β):β:=by cases x with | int u=>exact g u | _=>exact d
theorem A9(d:β)(x:Const)(g:∀(i:Int),β):ur d x g=dite (x.ctorIdx=2) (λh=>Const.int.elim x h g) λh=>d:=by rcases x with _ | _<;>first | exact @rfl β d | exact rfl
theorem ym{M:Const->Prop}{x:Const}{g:∀(i:Int),β}(h:ur d x g=w)(hd:d≠w)(k:∀(i:Int),g i=w->M (.int i)):M x:=cP ((A9 ..).symm.trans h) hd λq=>Const.int.elim (motive:=λx=>ur d x g=w->M x) x q k h
noncomputable def uv(d:β)(x:Const)(g:∀(s:Str),β):β:=by cases x with | str u=>exact g u | _=>exact d
theorem Ba(d:β)(x:Const)(g:∀(s:Str),β):uv d x g=dite (x.ctorIdx=5) (λh=>Const.str.elim x h g) λh=>d:=by rcases x with _ | _<;>first | exact @rfl β d | exact rfl
theorem yo{M:Const->Prop}{x:Const}{g:∀(s:Str),β}(h:uv d x g=w)(hd:d≠w)(k:∀(s:Str),g s=w->M (.str s)):M x:=cP ((Ba ..).symm.trans h) hd λq=>Const.str.elim (motive:=λx=>uv d x g=w->M x) x q k h
end
noncomputable def vr(x:Expr)(g:Int->Bool):Bool:=fN false x λc z_ z_=>ur false c g
noncomputable def Jh(i:Int)(x:Expr):Bool:=vr x (λj=>i==j) ||jX false x (λop e z_=>decide (op=.USub)&&vr e λj=>i== -j) ||
 nV false x (λa op b z_=>decide (op=.Pow)&&vr a (λj=>j==10)&&vr b (λj=>j==18)&&i==1000000000000000000)
noncomputable def Jg(v:V)(x:Expr):Bool:=V.casesOn (motive_1:=λz_=>Bool) v (fN false x λc z_ z_=>pS false c true) (λb=>fN false x λc z_ z_=>pR false c λd=>b==d) (λi=>Jh i x) (λs=>fN false x λc z_ z_=>uv false c λt=>t==Str.ofString s) (λz_=>false) (λz_=>false) (λz_=>false)
noncomputable def Ae(b:Option Int)(x:Option Expr):Bool:=Option.casesOn (motive:=λz_=>Bool) b x.isNone λi=>Option.any (λe=>vr e λj=>i==j) x
noncomputable def gP(x:Expr):Bool:= !(x.ctorIdx==16)
noncomputable def Hq:jC->String | .len=>"len" | .list=>"list" | .tuple=>"tuple" | .sorted=>"sorted" | .max=>"max" | .int=>"int" | .isTuple=>"isinstance" | .sum=>"sum"
noncomputable def zJ:jC->Option String | .isTuple=>some "tuple" | _=>none
noncomputable def Fg(nm:Nm)(p:jC)(args:List Expr):Option (List Expr) :=
 match zJ p with
 | none=>some args
 | some t=>di none args λx r=>di none r λy r=>dO none r (kz none y λid z_=>if id==Str.ofString t&&oQ nm id then some [x] else none)
noncomputable def C5(nm:Nm)(x:String)(t:Expr):Bool:=kz false t λid z_=>id==Str.ofString x&&jQ nm id
noncomputable def vB(nm:Nm)(t:Tn)(x:Expr):Bool:=Tn.casesOn (motive:=λz_=>Bool) t (λy=>C5 nm y x) λy z=>iz false x λts z_ z_=>di false ts λp r=>di false r λq r=>dO false r (C5 nm y p&&C5 nm z q&&!(y==z))
noncomputable def eN(nm:Nm)(sc:Scope)(ns:List String):Bool :=
 decide (sc.kind=.function)&&(ns.all λx=>decide (sc.names.lookup (Str.ofString x)=some .local))&&sc.names.all λ(n,k)=>match k with
  | .cell=>false
  | .local=>decide (sc.names.lookup n=some .local)&&(ns.any (λx=>n==Str.ofString x) ||n==Str.ofString ".0")
  | .free=>decide (nm.lookup n=some .cell)
  | _=>true
noncomputable def ly(nm:Nm)(f:String)(x:Expr):Option (List Expr):=lI none x λg args kw z_=>kz none g λid z_=>dO none kw (if id==Str.ofString f&&oQ nm id then some args else none)
noncomputable def dL(nm:Nm)(k:oB)(x:Expr):Option (List Expr):=oB.casesOn (motive:=λz_=>Option (List Expr)) k (some [x]) (ly nm "enumerate" x) (ly nm "range" x)
 (lI none x λg args kw pos=>ei none g λo n apos=>dO none args (dO none kw (if n==Str.ofString "values"&&gP o&&(apos.endLine==pos.line) then some [o] else none)))
noncomputable def FE(t:Tn):Bool:=Tn.casesOn (motive:=λz_=>Bool) t (λz_=>true) λz_ z_=>false
noncomputable def Io(t t':Tn):Bool:=Tn.casesOn (motive:=λz_=>Bool) t (λa=>Tn.casesOn (motive:=λz_=>Bool) t' (λb=>!(a==b)) λz_ z_=>false) λz_ z_=>false
noncomputable def kl(o:Option (List Expr))(g:List Expr->Bool):Bool:=Option.casesOn (motive:=λz_=>Bool) o false g
noncomputable def Af(nm nm':Nm)(t:Tn)(k:oB)(l:List E)(g:Comprehension)(sub:List Expr->Bool):Bool:=FE t&&decide (g.is_async=0)&&decide (l.length=1)&&vB nm' t g.target&&kl (dL nm k g.iter) sub
mutual
noncomputable def cy(P:ia)(nm:Nm):E->Expr->Bool
 | .const v,x=>Jg v x
 | .var y,x=>kz false x λid z_=>id==Str.ofString y&&jQ nm id&&!(id==("__debug__":Str))
 | .glob y v,x=>kz false x λid z_=>id==Str.ofString y&&oQ nm id&&(P.gl.lookup y).any λw=>V.same w v
 | .attr e a,x=>ei false x λo n z_=>n==Str.ofString a&&P.attrs.contains a&&gP o&&cy P nm e o
 | .sub e i,x=>eV false x λo sl z_=>cy P nm e o&&cy P nm i sl
 | .cut e lo hi,x=>eV false x λo sl z_=>nX false sl λl h st z_=>st.isNone&&Ae lo l&&Ae hi h&&cy P nm e o
 | .bin op a b,x=>nV false x λl op' r z_=>op'==Iw op&&cy P nm a l&&cy P nm b r
 | .not e,x=>jX false x λop y z_=>decide (op=.Not)&&cy P nm e y
 | .and l,x=>lH false x λop xs z_=>decide (op=.And)&&cY P nm l xs
 | .or l,x=>lH false x λop xs z_=>decide (op=.Or)&&cY P nm l xs
 | .cmp op a b,x=>jW false x λl ops rs z_=>di false ops λop' r1=>dO false r1 (di false rs λr r2=>dO false r2 (op'==sI op&&!(behindInMarks op' r)&&cy P nm a l&&cy P nm b r))
 | .chain a b c,x=>jW false x λl ops rs z_=>decide (ops=[.LtE,.Lt])&&di false rs λm r1=>di false r1 λr r2=>dO false r2 (!(behindInMarks .Lt r)&&cy P nm a l&&cy P nm b m&&cy P nm c r)
 | .ite c a b,x=>pT false x λt y z z_=>cy P nm c t&&cy P nm a y&&cy P nm b z
 | .tup l,x=>iz false x λxs z_ z_=>decide (xs.length<1000)&&cY P nm l xs
 | .list l,x=>uy false x λxs z_=>decide (xs.length<1000)&&cY P nm l xs
 | .dict l,x=>uw false x λks vs z_=>decide (ks.length<=15)&&sD P nm l ks vs
 | .call f l,x=>kl (ly nm f x) λargs=>P.fns.contains f&&cY P nm l args
 | .new c l,x=>kl (ly nm c x) λargs=>P.clss.contains c&&cY P nm l args
 | .meth c e m l,x=>lI false x λg args kw pos=>ei false g λo n apos=>dO false kw (n==Str.ofString m&&P.has.contains (c,m)&&gP o&&(apos.endLine==pos.line)&&decide (args.length<20)&&cy P nm e o&&cY P nm l args)
 | .prim p l,x=>kl (ly nm (Hq p) x) λargs=>kl (Fg nm p args) λas=>cY P nm l as
 | .bm b e l,x=>lI false x λg args kw pos=>ei false g λo n apos=>dO false kw (n==Str.ofString (J9 b)&&gP o&&(apos.endLine==pos.line)&&decide (args.length<20)&&cy P nm e o&&cY P nm l args)
 | .comp elt t k l ifs,x=>iY false x λy gs sc z_=>di false gs λg r=>dO false r ((k==.over ||k==.range ||k==.values)&&eN nm sc t.names&&Af nm (dM nm sc.names) t k l g (λas=>cY P nm l as)&&cy P (dM nm sc.names) elt y&&cY P (dM nm sc.names) ifs g.ifs)
 | .comp2 elt t k l t' k' l' ifs,x=>iY false x λy gs sc z_=>di false gs λg r=>di false r λg' r'=>dO false r' (k==.over&&k'==.over&&Io t t'&&dO false g.ifs true&&eN nm sc (t.names++t'.names)&&Af nm (dM nm sc.names) t k l g (λas=>cY P nm l as)&&Af (dM nm sc.names) (dM nm sc.names) t' k' l' g' (λas=>cY P (dM nm sc.names) l' as)&&cy P (dM nm sc.names) elt y&&cY P (dM nm sc.names) ifs g'.ifs)
noncomputable def cY(P:ia)(nm:Nm):List E->List Expr->Bool
 | [],xs=>dO false xs true
 | e::r,xs=>di false xs λx xs=>cy P nm e x&&cY P nm r xs
noncomputable def sD(P:ia)(nm:Nm):List (E×E)->List (Option Expr)->List Expr->Bool
 | [],ks,vs=>dO false ks (dO false vs true)
 | p::r,ks,vs=>di false ks λk ks=>di false vs λy ys=>Option.any (λx=>cy P nm p.1 x) k&&cy P nm p.2 y&&sD P nm r ks ys
end
noncomputable def iR(nm:Nm):List String->List Expr->Bool
 | [],ts=>dO false ts true
 | x::xs,ts=>di false ts λt ts=>C5 nm x t&&iR nm xs ts
noncomputable def jy(P:ia)(nm:Nm)(e i:E)(x:Expr):Bool:=eV false x λo sl z_=>cy P nm e o&&cy P nm i sl
noncomputable def qu(P:ia)(nm:Nm)(t:T)(x:Expr):Bool:=match t with
 | .name y=>C5 nm y x
 | .attr e a=>ei false x λo n z_=>n==Str.ofString a&&P.attrs.contains a&&cy P nm e o
 | .sub e i=>jy P nm e i x
 | .names xs=>iz false x λts z_ z_=>decide (xs.length=2\/xs.length=3)&&decide (xs.Nodup)&&iR nm xs ts
 | .cut e hi=>eV false x λo sl z_=>nX false sl λl h st z_=>st.isNone&&l.isNone&&Ae (some hi) h&&cy P nm e o
 | .subs e i e' i'=>iz false x λts z_ z_=>di false ts λp r=>di false r λq r=>dO false r (jy P nm e i p&&jy P nm e' i' q)
noncomputable def qV(t x:Expr):Bool:=iz true t λz_ z_ z_=>iz true x λvs z_ z_=>(vs.all (foldedForSure 8) ||!(vs.all (constantsAlone 8)))&&!(vs.any λx=>x.ctorIdx==22)
noncomputable def qK(t:Tn):Bool:=Tn.casesOn (motive:=λz_=>Bool) t (λz_=>false) λz_ z_=>true
noncomputable def zt(e:E):Bool:=by cases e with | const v=>exact v.ctorIdx==0 | _=>exact false
theorem vW(h:zt e=true):e=.const .none:=by
 cases e with
 | const v=>exact congrArg E.const (V.none.elim (motive_1:=λv=>v=.none) v (eq_of_beq h) rfl)
 | _=>exact (ft h).elim
noncomputable def S.st(e:S):Bool:=by cases e with | stuck=>exact true | _=>exact false
mutual
noncomputable def Ji(P:ia)(nm:Nm):S->Stmt->Bool
 | .stuck,_=>true
 | .expr e,x=>pV false x λv z_=>lI false v (λz_ z_ z_ z_=>true)&&cy P nm e v
 | .assign t e,x=>mc false x λts v z_=>di false ts λtg r=>dO false r (qu P nm t tg&&qV tg v&&cy P nm e v)
 | .ite c a b,x=>zG false x λt y z z_=>cy P nm c t&&nt P nm a y&&nt P nm b z
 | .whil c b,x=>nW false x λt y z z_=>dO false z (cy P nm c t&&nt P nm b y)
 | .forr t k l b,x=>uA false x λtg it y z z_=>dO false z ((decide (l.length=1)&&(k==.over ||k==.range ||(k==.enum&&qK t)))&&vB nm t tg&&kl (dL nm k it) (λas=>cY P nm l as)&&nt P nm b y)
 | .ret e,x=>me false x λv z_=>Option.casesOn (motive:=λz_=>Bool) v (zt e) λv=>cy P nm e v
 | .cont,x=>jo false x λz_=>true
noncomputable def nt(P:ia)(nm:Nm):List S->List Stmt->Bool
 | [],xs=>dO false xs true
 | s::r,xs=>s.st ||di false xs λx xs=>Ji P nm s x&&nt P nm r xs
end
noncomputable def Ct:List (String×Value):=[("len",.builtin "len"),("list",.type "list"),("tuple",.type "tuple"),("sorted",.builtin "sorted"),("max",.builtin "max"),("int",.type "int"),("isinstance",.builtin "isinstance"),("sum",.builtin "sum"),("range",.type "range"),("enumerate",.type "enumerate")]
noncomputable def oH(x:String):Option Value:=Ct.lookup x
structure qc(W:Wd)(P:ia)(fa:String×String->Option Addr)(mg mb:Str->Option Value):Prop where
 wok:HL W P.attrs
 g:W.h₀.Ns mainGlobals mg
 b:W.h₀.Ns builtinsNs mb
 blt:∀x v,oH x=some v->mg (Str.ofString x)=none/\mb (Str.ofString x)=some v
 gl:∀x v,P.gl.lookup x=some v->∃u,mg (Str.ofString x)=some u/\aK W W.h₀ [] v u
 fn:∀f,f∈P.fns->∃a,mg (Str.ofString f)=some (.ref a)/\keepIn W.K (.ref a)=true/\fa ("",f)=some a
 meth:∀c m,(c,m)∈P.has->∃C a,W.cls c=some C/\fa (c,m)=some a/\findIn W.K (.ref C) (Str.ofString m)=some (some (.ref a))/\isFn W.K (.ref a)=true/\keepIn W.K (.ref a)=true/\plainGet W.K C (Str.ofString m)=true
 cls:∀c,c∈P.clss->∃C a,W.cls c=some C/\mg (Str.ofString c)=some (.ref C)/\makesIn W.K C=true/\keepIn W.K (.ref C)=true/\fa (c,"__init__")=some a/\findIn W.K (.ref C) "__init__"=some (some (.ref a))/\typeIn W.K (.ref a)=some (.type "function")
noncomputable abbrev Wd.at(W:Wd)(p:Addr->Prop):Wd:={W with priv:=p}
noncomputable def tE(W:Wd)(fa:String×String->Option Addr)(C:Hd)(k:Nat):Prop :=
 ∀key vs J Q,C key vs J Q->∃a,fa key=some a/\∀(A:Around) (s:Shared) (Z:Rho) (vals:List Value),A.handled=none->A.depth+3*k+5<=recursionLimit->A.units+20*k+60<=cLine->
  bU W s.heap Z J->bo W s.heap Z vs vals->codeAny (model W.prog W.w) A (.call (.ref a) ⟨vals,[]⟩) (λr s'=>∃v,r=.ok (.ret v)/\cu W Z s Q v s') s
structure fJ(W:Wd)(P:ia)(fa:String×String->Option Addr)(mg mb:Str->Option Value)(C:Hd)(k:Nat)(A:Around):Prop where
 ok:qc W P fa mg mb
 co:∀p,qc (W.at p) P fa mg mb->tE (W.at p) fa C k
 hh:A.handled=none
 depth:A.depth+3*k+7<=recursionLimit
 units:A.units+20*k+77<=cLine
noncomputable def qb(W:Wd)(Z:Rho)(s:Shared)(Q:List V->Hp->Prop)(vs:List Value)(s':Shared):Prop :=
 ∃ρ' σ' l,bA gZ Z s ρ' s'/\bU W s'.heap ρ' σ'/\bo W s'.heap ρ' l vs/\Q l σ'
noncomputable def mD(W:Wd)(Z:Rho)(s:Shared)(Q:Bool->Hp->Prop)(b:Bool)(s':Shared):Prop :=
 ∃ρ' σ',bA gZ Z s ρ' s'/\bU W s'.heap ρ' σ'/\Q b σ'
section
variable{P:ia}{k:Nat}{c:V}{x:Value}
theorem fJ.room(X:fJ W P fa mg mb C k A):A.units+20<cLine:=by have:=X.units;omega
theorem fJ.call(X:fJ W P fa mg mb C k A):tE W fa C k:=X.co W.priv X.ok
theorem mD.trans{Q:Bool->Hp->Prop}{b:Bool}{s₁:Shared}(x:bA gZ Z s ρ' s₁)(y:mD W ρ' s₁ Q b s'):mD W Z s Q b s':=by
 exact cU y λρ'' σ' h1 h2 h3=>⟨ρ'',σ',x.trans h1,h2,h3⟩
theorem lu{m:Sem Value}{K:Value->Sem α}{Q:α->Shared->Prop}{Q1:K1}(h:wpAny (model W.prog W.w) A m (cu W Z s Q1) Er s)
  (g:∀ρ' σ' a v s',bA gZ Z s ρ' s'->bU W s'.heap ρ' σ'->aK W s'.heap ρ' a v->Q1 a σ'->wpAny (model W.prog W.w) A (K v) Q Er s'):wpAny (model W.prog W.w) A (m >>=K) Q Er s :=
 af (aI h (λv s' q=>cR q λρ' σ' a h1 h2 h3 h4=>g ρ' σ' a v s' h1 h2 h3 h4) λz_ z_ e=>e)
theorem nP(hn:env.scope.names=nm){id:Str}{k:NameKind}(h:nm.lookup id=some k):env.kindOf id=some k:=by
 show env.scope.names.lookup id=_;rw [hn];exact h
theorem jR(hn:env.scope.names=nm){id:Str}(h:jQ nm id=true):env.kindOf id=some .local\/env.kindOf id=some .cell:=by
 unfold jQ at h;simp only [Bool.or_eq_true,decide_eq_true_eq] at h;exact h.imp (nP hn) (nP hn)
theorem zs(hn:env.scope.names=nm){id:Str}(h:oQ nm id=true):env.kindOf id=some .globalImplicit/\(id==("__debug__":Str))=false:=by
 unfold oQ at h;rw [Bool.and_eq_true,decide_eq_true_eq,Bool.not_eq_true'] at h;exact ⟨nP hn h.1,h.2⟩
theorem um{P':Value->Shared->Prop}{u:Value}{id:Str}{p:Pos}(X:fJ W P fa mg mb C k A)(O:bJ W env loc Z s.heap)(R:bU W s.heap Z J)(hn:env.scope.names=nm)(h:oQ nm id=true)(hv:mg id=some u)(hq:P' u s) :
  wpAny (model W.prog W.w) A (eval (.Name id p) env) P' Er s:=by
 refine xa (zs hn h) λh1 h2=>Calls.Name_function_global O.kind h1 (Calls.loadGlobal_global (mg:=mg) ?_ hv hq) h2;rw [O.glob];exact X.ok.g.at' λo e=>R.top _ o e
theorem nO{P':Value->Shared->Prop}{u:Value}{x:String}{id:Str}{p:Pos}(X:fJ W P fa mg mb C k A)(O:bJ W env loc Z s.heap)(R:bU W s.heap Z J)(hn:env.scope.names=nm)(h:oQ nm id=true)(hx:id=Str.ofString x)(hv:oH x=some u)(hq:P' u s) :
  wpAny (model W.prog W.w) A (eval (.Name id p) env) P' Er s:=by
 refine xa (zs hn h) λh1 h2=>xa (X.ok.blt x u hv) λq1 q2=>?_;subst hx;refine Calls.Name_function_global O.kind h1 (Calls.loadGlobal_builtin (mg:=mg) (mb:=mb) ?_ q1 ?_ q2 hq) h2
 ·rw [O.glob];exact X.ok.g.at' λo e=>R.top _ o e
 ·rw [O.blt];exact X.ok.b.at' λo e=>R.top _ o e
theorem aG{a b:Bool}(h:(a&&b)=true):a=true/\b=true:=bj.1 h
theorem mP{b:Bool}(h:(!b)=true):b=false:=Bool.not_eq_true' b▸h
theorem qT [BEq α] [LawfulBEq α]{l:List α}{a:α}(h:l.contains a=true):a∈l:=List.contains_iff_mem.1 h
theorem jJ{x:Expr}{g:Int->Bool}(h:vr x g=true)(k:∀i n p,g i=true->M (.Constant (.int i) n p)):M x :=
 eU h ft λc n p h=>ym (M:=λc=>M (.Constant c n p)) h ft λi h=>k i n p h
theorem KC{i:Int}{e:Expr}(h:Jh i e=true)(R:bU W s.heap Z J)(hq:Q (.int i) J):wpAny (model W.prog W.w) A (eval e env) (cu W Z s Q) Er s:=by
 refine Or.elim (cz.1 h) (λh=>?_) (λh=>?_)
 ·refine Or.elim (cz.1 h) (λh=>?_) (λh=>?_)
  ·refine jJ (M:=λe=>wpAny _ _ (eval e env) _ _ _) h λj n p h=>?_;cases eq_of_beq h;exact wpAny_Constant_int (cu.tok R _ (.int _ _) hq)
  ·refine fB (M:=λe=>wpAny _ _ (eval e env) _ _ _) h ft λop y p h=>?_;have h:=aG h;cases aB h.1;refine jJ (M:=λe=>wpAny _ _ (eval (.UnaryOp .USub e _) _) _ _ _) h.2 λj n p h=>?_;cases eq_of_beq h;exact wpAny_UnaryOp (wpAny_Constant_int (PyProof.Rows.neg_int (cu.tok R _ (.int _ _) hq)))
 ·refine jn (M:=λe=>wpAny _ _ (eval e env) _ _ _) h ft λy op z p h=>?_;have h:=aG h;have h1:=aG h.1;have h2:=aG h1.1;cases aB h2.1;cases eq_of_beq h.2;refine jJ (M:=λe=>wpAny _ _ (eval (.BinOp e .Pow _ _) _) _ _ _) h2.2 λj n p h=>?_;cases eq_of_beq h;refine jJ (M:=λe=>wpAny _ _ (eval (.BinOp _ .Pow e _) _) _ _ _) h1.2 λj n p h=>?_;cases eq_of_beq h;refine wpAny_BinOp (wpAny_Constant_int (wpAny_Constant_int ?_));exact PySem.AutoIntOps.pow_4 (by decide) (by decide) (by decide) (by decide) (by decide +kernel) (cu.tok R _ (.int _ _) hq)
theorem KA{e:Expr}(h:Jg v e=true)(R:bU W s.heap Z J)(hq:Q v J):wpAny (model W.prog W.w) A (eval e env) (cu W Z s Q) Er s:=by
 cases v with
 | none =>
  exact eU (M:=λe=>wpAny _ _ (eval e env) _ _ _) h ft λc n p h=>wr (M:=λe=>wpAny _ _ (eval (.Constant e _ _) _) _ _ _) h ft λz_=>wpAny_Constant_none (cu.here R .none hq)
 | bool b =>
  refine eU (M:=λe=>wpAny _ _ (eval e env) _ _ _) h ft λc n p h=>wq (M:=λe=>wpAny _ _ (eval (.Constant e _ _) _) _ _ _) h ft λb h=>?_;cases eq_of_beq h;exact wpAny_Constant_bool (cu.here R (.bool _) hq)
 | int i=>exact KC h R hq
 | str t =>
  refine eU (M:=λe=>wpAny _ _ (eval e env) _ _ _) h ft λc n p h=>yo (M:=λe=>wpAny _ _ (eval (.Constant e _ _) _) _ _ _) h ft λb h=>?_;cases eq_of_beq h;exact wpAny_Constant_str (cu.tok R _ (.str _ rfl) hq)
 | _=>exact bF h
theorem zh{e:Expr}{n:Str}{whole:Sem Value}(h:gP e=true):attributeBase e n env whole=whole:=by
 cases e<;>first | rfl | exact bF h
theorem Fe{a:Addr}{vs:List V}{vals:List Value}{key:String×String}(X:fJ W P fa mg mb C k A)(hk:keepIn W.K (.ref a)=true)(ha:fa key=some a)(h:C key vs J Q)(R:bU W s.heap Z J)(r:bo W s.heap Z vs vals) :
  wpAny (model W.prog W.w) A (call (.ref a) vals) (cu W Z s Q) Er s:=by
 refine bO (X.call key vs J Q h) λa' ha' f=>?_;rw [ha] at ha';cases ha';refine wpAny_call (codeAny_mono (f A s Z vals X.hh (by have:=X.depth;omega) (by have:=X.units;omega) R r) λr s' q=>bO q λv e o=>?_);subst e;exact o
end
noncomputable abbrev kI(n:Int):E:=.const (.int n)
noncomputable abbrev kS(s:String):E:=.const (.str s)
noncomputable abbrev mE(m:String)(l:List E):E:=.meth "EscapeFlow" (.var "self") m l
noncomputable abbrev EA:V:=.tup [(.str "ptr"),(.tup [(.str "int"),(.str "int")])]
noncomputable abbrev xb:E:=.glob "_law_ONE" (.tup [(.str "const"),(.tup [(.str "int"),(.str "int")]),(.int 1)])
noncomputable abbrev mT:E:=.var "instruction"
noncomputable abbrev eC:E:=.var "self"
noncomputable abbrev iD:E:=.var "source"
noncomputable abbrev jb:E:=.var "registers"
noncomputable abbrev ja:E:=.var "book"
noncomputable abbrev GE:V:=.tup [(.str "const"),(.tup [(.str "chan"),(.str "both"),EA]),(.tup [(.str "chan"),(.str "main.c")])]
noncomputable abbrev gM:E:=.const .none
noncomputable abbrev gA:E:=.var "line"
noncomputable abbrev rK:E:=.glob "_law_ROW" (.tup [(.str "slice"),EA])
noncomputable abbrev dP:E:=kI 2
noncomputable abbrev pq:E:=mE "tokens_of" [(.sub mT dP)]
noncomputable abbrev lP:E:=.var "token"
noncomputable abbrev j4:E:=.glob "_law_T" EA
noncomputable abbrev ee:E:=.var "op"
noncomputable abbrev dg:E:=kI 1
noncomputable abbrev cM:E:=kI 0
noncomputable abbrev oi:E:=.sub (.var "read") cM
noncomputable abbrev tq:E:=.glob "BEYOND" (.tup [(.str "beyond")])
noncomputable abbrev hM:E:=.var "found"
noncomputable abbrev kW:E:=.sub gA dg
noncomputable abbrev my:E:=.const (.bool true)
noncomputable abbrev eZ:E:=kS "reg"
noncomputable abbrev pr:E:=.call "_law_row" [iD]
noncomputable abbrev kX:E:=.sub mT dg
noncomputable abbrev im:E:=.var "word"
noncomputable abbrev rL:E:=.sub (.var "some") cM
noncomputable abbrev j5:E:=.var "site"
noncomputable abbrev rM:E:=.sub ja (kS "held")
noncomputable abbrev lQ:E:=.var "tokens"
noncomputable abbrev gB:E:=.dict []
noncomputable abbrev jw:E:=.var "key"
noncomputable abbrev kY:E:=.var "told"
noncomputable abbrev lS:E:=.var "codes"
noncomputable abbrev mz:E:=.var "one"
noncomputable abbrev io:E:=.list []
noncomputable abbrev EB:E:=mE "loaded" [(mE "tokens_of" [(.sub mT (kI 3))])]
noncomputable abbrev mA:E:=.var "owned"
noncomputable abbrev oj:E:=.var "handed"
noncomputable abbrev pt:E:=.var "summary"
noncomputable abbrev rN:E:=.sub lP cM
noncomputable abbrev zW:E:=.sub jb (.sub mz dg)
noncomputable abbrev xc:E:=.sub ja (kS "made")
noncomputable abbrev rP:E:=.var "operand"
noncomputable abbrev zX:E:=.glob "UNKNOWN" (.int (-1))
noncomputable abbrev xd:E:=.const (.bool false)
noncomputable abbrev tt:E:=.var "summaries"
noncomputable abbrev tu:E:=.sub lP dg
noncomputable def lp:E:=(.prim .len [kY])
noncomputable def gW:List E:=[]
noncomputable def jk:fK:=⟨["summary"],[],[.ret (.bin .add (.bin .add (.prim .len [(.attr pt "leaks")]) (.prim .len [(.attr pt "kept")])) (.prim .sum [(.comp lp (.name "told") .values [(.attr pt "told")] gW)]))]⟩
noncomputable def m7:List S:=[.assign (.sub tt jw) (.new "Summary" [])]
noncomputable def ir:E:=(.call "size_of_summary" [(.sub tt jw)])
noncomputable def iu:List E:=[]
noncomputable def m9:E:=(.cmp .ne (.var "ahead") (.prim .sum [(.comp ir (.name "key") .over [lS] iu)]))
noncomputable def tH:E:=(.call "size_of_summary" [(.sub tt jw)])
noncomputable def tI:List E:=[]
noncomputable def kb:List S:=[.assign (.sub hM j5) (.ite (.cmp .isIn j5 (.attr (.var "flow") "gone")) (.glob "HEAP" (.str "heap")) (.glob "FRAME" (.str "frame")))]
noncomputable def ka:List S:=[.assign (.name "flow") (.new "EscapeFlow" [(.sub lS jw),tt]),.expr (.meth "EscapeFlow" (.var "flow") "go_through" []),.assign (.sub tt jw) (.attr (.var "flow") "summary"),.forr (.name "site") .over [(.attr (.var "flow") "sites")] kb]
noncomputable def m8:List S:=[.assign (.name "ahead") (.prim .sum [(.comp tH (.name "key") .over [lS] tI)]),.forr (.name "key") .over [(.prim .sorted [lS])] ka]
noncomputable def sq:fK:=⟨["codes"],[],[.assign (.names ["summaries","found","ahead"]) (.tup [gB,gB,(kI (-1))]),.forr (.name "key") .over [lS] m7,.whil m9 m8,.ret hM]⟩
noncomputable def ji:fK:=⟨["script","k"],[],[.assign (.name "cell") cM,.ite (.cmp .lt (.var "k") (.prim .len [(.var "script")])) [.assign (.name "cell") (.sub (.var "script") (.var "k"))] [],.assign (.name "big") (.prim .max [(.prim .int [(.var "cell")]),(.prim .int [(.bin .sub (kI (-1)) (.var "cell"))])]),.assign (.name "mixed") (.bin .mod (.prim .int [(.bin .mul (.bin .add (.bin .add (.bin .add (.bin .mod (.prim .int [(.var "big")]) (kI 2147483629)) (.bin .mul (.bin .mul (kI 7919) (.var "k")) (.var "k"))) (.bin .mul (kI 31) (.var "k"))) (kI 17)) (kI 48271))]) (kI 2147483647)),.ret (.list [(.bin .mul (.var "big") (.prim .int [(.cmp .ge (.var "big") (kI 1000000000000000000))])),(.var "mixed")])]⟩
noncomputable def pe:fK:=⟨["source","top"],[],[.ite (.cmp .gt (.sub iD cM) cM) [.assign (.name "drawn") (.bin .mod (.prim .int [(.sub iD cM)]) (.var "top")),.assign (.sub iD cM) (.bin .div (.sub iD cM) (.var "top")),.ret (.var "drawn")] [],.assign (.sub iD dg) (.bin .mod (.prim .int [(.bin .add (.bin .mul (.sub iD dg) (kI 39373)) (kI 7))]) (kI 2147483647)),.ret (.bin .mod (.prim .int [(.bin .div (.bin .mod (.prim .int [(.bin .mul (.sub iD dg) (.sub iD dg))]) (kI 2147483629)) (kI 32))]) (.var "top"))]⟩
noncomputable def qe:fK:=⟨["source","things"],[],[.ret (.sub (.var "things") (.call "_law_take" [iD,(.prim .len [(.var "things")])]))]⟩
noncomputable def lg:fK:=⟨["source"],[],[.ret (.tup [eZ,(.call "_law_one" [iD,(.list [cM,dP,(kI 3),(kI 4),dP])])])]⟩
noncomputable def qg:fK:=⟨["source"],[],[.ret (.tup [eZ,(.call "_law_one" [iD,(.list [dg,(kI 5),(kI 6),(kI 5)])])])]⟩
noncomputable def iN:fK:=⟨["source","site"],[],[.assign (.names ["way","p","q"]) (.tup [(.call "_law_take" [iD,(kI 18)]),(.call "_law_pointer" [iD]),(.call "_law_pointer" [iD])]),.assign (.names ["d","r"]) (.tup [(.bin .add dP (.call "_law_take" [iD,(kI 3)])),(.bin .add (kI 5) (.call "_law_take" [iD,dP]))]),.assign (.name "rows") (.list [(.tup [(kS "new"),(.var "d"),j4,j5]),(.tup [(kS "new"),(.var "d"),j4,j5]),(.tup [(kS "store"),(.var "p"),(.var "q")]),(.tup [(kS "load"),(.var "d"),(.var "p")]),(.tup [(kS "move"),(.var "d"),(.var "p")]),(.tup [(kS "makeslice"),(.var "r"),rK,xb,xb,j5]),(.tup [(kS "append"),(.var "r"),pr,pr,rK,j5]),(.tup [(kS "copy"),gM,pr,pr]),(.tup [(kS "cut"),(.var "r"),pr,gM,gM,gM,rK]),(.tup [(kS "elemptr"),(.var "d"),pr,(.tup [(kS "const"),(.tup [(kS "int"),(kS "int")]),cM])]),(.tup [(kS "makemap"),(kI 7),(.tup [(kS "map"),j4,j4]),j5]),(.tup [(kS "mapset"),(.tup [eZ,(kI 7)]),(.var "p"),(.var "q")]),(.tup [(kS "mapget"),(.var "d"),gM,(.tup [eZ,(kI 7)]),(.var "p"),j4]),(.tup [(kS "struct"),(kI 8),(.tup [(.var "p"),(.var "q")])]),(.tup [(kS "part"),(.var "d"),(.tup [eZ,(kI 8)]),(.call "_law_take" [iD,dP])]),(.tup [(kS "face"),(kI 9),(.var "p"),j4]),(.call "_law_one" [iD,(.list [(.tup [(kS "send"),(.glob "_law_CHANNEL" GE),(.var "p")]),(.tup [(kS "recv"),(.var "d"),gM,(.glob "_law_CHANNEL" GE),j4])])]),(.tup [(kS "call"),(.tup [(.var "d"),(.var "r")]),(.tup [(kS "fn"),(.call "_law_one" [iD,(.list [(kS "f"),(kS "g")])])]),(.tup [(.var "p"),pr])])]),.ret (.sub (.var "rows") (.var "way"))]⟩
noncomputable def pd:fK:=⟨["key","lines","told"],[],[.ret (.new "Code" [jw,dP,(.bin .mul (.list [j4]) (kI 10)),(.list [(.list [(.var "lines"),(.tup [(kS "return"),kY])])]),cM,dP])]⟩
noncomputable def kO:E:=(.call "_law_instruction" [iD,(.tup [jw,(.var "at")])])
noncomputable def kP:List E:=[]
noncomputable def kN:List S:=[.assign (.name "lines") (.comp kO (.name "at") .range [(.bin .add (kI 3) (.call "_law_take" [iD,(kI 6)]))] kP),.assign (.sub hM jw) (.call "_law_code" [jw,(.var "lines"),(.tup [(.call "_law_pointer" [iD]),pr])])]
noncomputable def m5:fK:=⟨["source"],[],[.assign (.name "found") gB,.forr (.name "key") .over [(.list [(kS "f"),(kS "g")])] kN,.ret hM]⟩
noncomputable def fG:E:=(.cmp .ne (.var "left") io)
noncomputable def fF:List S:=[.assign (.name "here") (.bm .lpop (.var "left") []),.ite (.not (.prim .isTuple [(.var "here")])) [.cont] [],.ite (.cmp .ne (.cut (.var "here") none (some 1)) (.tup [(kS "at")])) [.expr (.bm .extend (.var "left") [(.var "here")])] [.ite (.cmp .notIn (.sub (.var "here") dg) hM) [.expr (.bm .append hM [(.sub (.var "here") dg)]),.expr (.bm .extend (.var "left") [(.bm .get rM [(.sub (.var "here") dg),io])])] []]]
noncomputable def m6:fK:=⟨["book","some"],[],[.assign (.names ["found","left"]) (.tup [io,(.prim .list [(.var "some")])]),.whil fG fF,.ret hM]⟩
noncomputable def qd:fK:=⟨["book","cells","site","owned"],[],[.assign (.sub ja (kS "made")) (.bin .add xc dg),.assign (.sub rM xc) (.var "cells"),.ite (.cmp .eq (.sub (.sub ja (kS "told")) j5) (kS "frame")) [.expr (.bm .append mA [xc])] [],.ret (.tup [(kS "at"),xc,cM])]⟩
noncomputable def mZ:fK:=⟨["book","value"],[],[.ret (.ite (.and [(.prim .isTuple [(.var "value")]),(.cmp .eq (.cut (.var "value") none (some 1)) (.tup [(kS "at")]))]) (.bm .get rM [(.sub (.var "value") dg)]) gM)]⟩
noncomputable def qf:fK:=⟨["book","goal","value"],[],[.assign (.name "cells") (.call "_law_cells" [ja,(.var "goal")]),.ite (.and [(.cmp .notNone (.var "cells") gM),(.cmp .lt (.sub (.var "goal") dP) (.prim .len [(.var "cells")]))]) [.assign (.sub (.var "cells") (.sub (.var "goal") dP)) (.var "value")] []]⟩
noncomputable def mo:E:=zW
noncomputable def mq:List E:=[(.and [(.prim .isTuple [mz]),(.cmp .eq (.cut mz none (some 1)) (.tup [eZ]))])]
noncomputable def ij:E:=(.call "_law_cells" [ja,mz])
noncomputable def ik:List E:=[]
noncomputable def dw:fK:=⟨["book","registers","line","owned"],[],[.assign (.name "word") (.sub gA cM),.assign (.name "read") (.comp mo (.name "one") .over [(.cut gA (some 1) none)] mq),.assign (.name "some") (.comp ij (.name "one") .over [(.var "read")] ik),.ite (.cmp .eq im (kS "makeslice")) [.assign (.sub jb kW) (.call "_law_new" [ja,(.list [gM]),(.sub gA (kI 5)),mA])] [.ite (.cmp .eq im (kS "append")) [.assign (.names ["whole","more"]) (.tup [(.ite (.cmp .notNone rL gM) rL io),(.prim .list [(.or [(.sub (.var "some") dg),io])])]),.ite (.and [(.cmp .ne (.var "whole") io),(.cmp .lt (.prim .len [(.var "whole")]) (kI 3)),(.cmp .eq (.bin .mod xc dP) cM)]) [.expr (.bm .extend (.var "whole") [(.var "more")]),.assign (.sub jb kW) oi] [.assign (.sub jb kW) (.call "_law_new" [ja,(.cut (.bin .add (.prim .list [(.var "whole")]) (.var "more")) none (some 6)),(.sub gA (kI 5)),mA])]] [.ite (.and [(.cmp .eq im (kS "copy")),(.cmp .notIn gM (.var "some"))]) [.assign (.cut rL 1) (.cut (.prim .list [(.sub (.var "some") dg)]) none (some 1))] [.ite (.cmp .isIn im (.list [(kS "cut"),(kS "elemptr")])) [.assign (.sub jb kW) oi] [.ite (.cmp .eq im (kS "makemap")) [.assign (.sub jb (kI 7)) (.call "_law_new" [ja,io,(.sub gA (kI 3)),mA])] [.ite (.and [(.cmp .eq im (kS "mapset")),(.cmp .notNone rL gM)]) [.expr (.bm .extend rL [(.cut (.var "read") (some 1) (some 3))])] [.ite (.cmp .eq im (kS "mapget")) [.assign (.sub jb kW) (.ite rL (.sub rL (kI (-1))) gM)] []]]]]]]]⟩
noncomputable def ga:E:=zW
noncomputable def gb:List E:=[(.and [(.prim .isTuple [mz]),(.cmp .eq (.cut mz none (some 1)) (.tup [eZ]))])]
noncomputable def qh:E:=zW
noncomputable def qj:List E:=[]
noncomputable def qi:E:=zW
noncomputable def qk:List E:=[]
noncomputable def jj:fK:=⟨["book","registers","line","owned","above"],[],[.assign (.name "word") (.sub gA cM),.assign (.name "read") (.comp ga (.name "one") .over [(.cut gA (some 1) none)] gb),.ite (.cmp .eq im (kS "new")) [.assign (.sub jb kW) (.call "_law_new" [ja,(.list [gM]),(.sub gA (kI 3)),mA])] [.ite (.cmp .eq im (kS "store")) [.expr (.call "_law_put" [ja,oi,(.sub (.var "read") dg)])] [.ite (.cmp .eq im (kS "load")) [.assign (.name "cells") (.call "_law_cells" [ja,oi]),.assign (.sub jb kW) (.ite (.var "cells") (.sub (.var "cells") (.sub oi dP)) gM)] [.ite (.cmp .isIn im (.list [(kS "move"),(kS "face")])) [.assign (.sub jb kW) oi] [.ite (.cmp .eq im (kS "struct")) [.assign (.sub jb (kI 8)) (.prim .tuple [(.comp qh (.name "one") .over [(.sub gA dP)] qj)])] [.ite (.cmp .eq im (kS "part")) [.assign (.sub jb kW) (.ite (.cmp .notNone oi gM) (.sub oi (.sub gA (kI 3))) gM)] [.ite (.cmp .eq im (kS "send")) [.expr (.bm .append (.sub rM cM) [oi])] [.ite (.cmp .eq im (kS "recv")) [.assign (.sub jb kW) (.ite (.cmp .ne (.sub rM cM) io) (.sub (.sub rM cM) (kI (-1))) gM)] [.ite (.cmp .eq im (kS "call")) [.assign (.name "given") (.comp qi (.name "one") .over [(.sub gA (kI 3))] qk),.assign (.name "told") (.call "_law_called" [ja,(.sub (.sub gA dP) dg),(.var "given"),(.bin .add (.var "above") (.list [jb]))]),.assign (.subs jb (.sub kW cM) jb (.sub kW dg)) kY] [.expr (.call "_law_rows_step" [ja,jb,gA,mA])]]]]]]]]]]⟩
noncomputable def jF:List S:=[.expr (.call "_law_step" [ja,jb,gA,mA,(.var "above")])]
noncomputable def oF:E:=(.sub jb (.sub rP dg))
noncomputable def oG:List E:=[]
noncomputable def gC:E:=(.var "value")
noncomputable def gD:List E:=[]
noncomputable def jH:E:=mz
noncomputable def jI:List E:=[(.cmp .isIn mz mA)]
noncomputable def jG:List S:=[.expr (.bm .dpop rM [mz])]
noncomputable def fx:fK:=⟨["book","key","given","above"],[],[.assign (.sub ja (kS "fuel")) (.bin .sub (.sub ja (kS "fuel")) dg),.ite (.or [(.cmp .lt (.sub ja (kS "fuel")) cM),(.cmp .gt (.prim .len [(.var "above")]) (kI 4))]) [.ret (.tup [gM,gM])] [],.assign (.names ["registers","owned"]) (.tup [(.bin .add (.prim .list [(.var "given")]) (.bin .mul (.list [gM]) (kI 8))),io]),.assign (.names ["lines","end"]) (.sub (.attr (.sub (.sub ja (kS "codes")) jw) "blocks") cM),.forr (.name "line") .over [(.var "lines")] jF,.assign (.name "told") (.prim .tuple [(.comp oF (.name "operand") .over [(.sub (.var "end") dg)] oG)]),.assign (.name "some") (.bin .add (.bin .add (.comp2 gC (.name "one") .over [(.var "above")] (.name "value") .over [mz] gD) (.prim .list [kY])) (.list [(.tup [(kS "at"),cM,cM])])),.ite (.and [(.cmp .ne mA io),(.cmp .ne (.comp jH (.name "one") .over [(.call "_law_leads" [ja,(.var "some")])] jI) io)]) [.assign (.sub ja (kS "safe")) xd] [],.forr (.name "one") .over [mA] jG,.ret kY]⟩
noncomputable def f8:E:=gA
noncomputable def f9:List E:=[]
noncomputable def eK:E:=(.sub gA (kI (-1)))
noncomputable def eL:List E:=[(.cmp .isIn (.sub gA cM) (.list [(kS "new"),(kS "makeslice"),(kS "append"),(kS "makemap")]))]
noncomputable def lc:fK:=⟨["codes","key"],[],[.assign (.name "told") (.call "escapes" [lS]),.assign (.name "made") (.comp2 f8 (.name "name") .over [lS] (.name "line") .over [(.sub (.sub (.attr (.sub lS (.var "name")) "blocks") cM) cM)] f9),.assign (.name "due") (.comp eK (.name "line") .over [(.var "made")] eL),.ite (.cmp .ne (.prim .sorted [kY]) (.prim .sorted [(.var "due")])) [.ret xd] [],.assign (.name "held") (.dict [(cM,io),(dg,(.list [gM])),(dP,(.list [(.tup [(kS "at"),dg,cM])]))]),.assign (.name "book") (.dict [((kS "codes"),lS),((kS "told"),kY),((kS "held"),(.var "held")),((kS "made"),dP),((kS "fuel"),(kI 24)),((kS "safe"),my)]),.assign (.name "handed") (.list [(.tup [(kS "at"),dg,cM]),(.tup [(kS "at"),dP,cM])]),.expr (.call "_law_called" [ja,jw,oj,(.list [oj])]),.ret (.sub ja (kS "safe"))]⟩
noncomputable def fL:fK:=⟨[],[],[.assign (.name "within") (.list [(.tup [(kS "new"),dP,j4,dg]),(.tup [(kS "makeslice"),(kI 5),rK,xb,xb,dP])]),.assign (.name "within") (.bin .add (.var "within") (.list [(.tup [(kS "elemptr"),(kI 3),(.tup [eZ,(kI 5)]),xb]),(.tup [(kS "store"),(.tup [eZ,(kI 3)]),(.tup [eZ,dP])])])),.assign (.name "within") (.bin .add (.var "within") (.list [(.tup [(kS "makemap"),(kI 7),rK,(kI 3)]),(.tup [(kS "mapset"),(.tup [eZ,(kI 7)]),(.tup [eZ,dP]),(.tup [eZ,dP])])])),.assign (.name "beyond") (.list [(.tup [(kS "new"),dP,j4,(kI 4)]),(.tup [(kS "send"),(.glob "_law_CHANNEL" GE),(.tup [eZ,dP])])]),.assign (.name "beyond") (.bin .add (.var "beyond") (.list [(.tup [(kS "new"),(kI 3),j4,(kI 5)]),(.tup [(kS "face"),(kI 9),(.tup [eZ,(kI 3)]),j4])])),.assign (.name "beyond") (.bin .add (.var "beyond") (.list [(.tup [(kS "makeslice"),(kI 5),rK,xb,xb,(kI 6)]),(.tup [(kS "new"),(kI 4),j4,(kI 7)])])),.assign (.name "beyond") (.bin .add (.var "beyond") (.list [(.tup [(kS "elemptr"),(kI 8),(.tup [eZ,(kI 5)]),xb]),(.tup [(kS "store"),(.tup [eZ,(kI 8)]),(.tup [eZ,(kI 4)])])])),.expr (.bm .append (.var "beyond") [(.tup [(kS "append"),(kI 6),(.tup [eZ,dg]),(.tup [eZ,(kI 5)]),rK,(kI 8)])]),.assign (.name "told") (.tup [(.tup [eZ,cM]),(.tup [eZ,dg])]),.assign (.name "due") (.dict [(dg,(kS "frame")),(dP,(kS "frame")),((kI 3),(kS "frame")),((kI 4),(kS "heap")),((kI 5),(kS "heap")),((kI 6),(kS "frame")),((kI 7),(kS "heap")),((kI 8),(kS "frame"))]),.ret (.cmp .eq (.call "escapes" [(.dict [((kS "f"),(.call "_law_code" [(kS "f"),(.var "within"),kY])),((kS "g"),(.call "_law_code" [(kS "g"),(.var "beyond"),kY]))])]) (.var "due"))]⟩
noncomputable def GU:fK:=⟨["script"],[],[.ite (.not (.call "_law_small_right" [])) [.ret xd] [],.assign (.name "source") (.call "_law_pool" [(.var "script"),cM]),.assign (.name "codes") (.call "_law_codes" [iD]),.ret (.and [(.call "_law_is_safe" [lS,(kS "f")]),(.call "_law_is_safe" [lS,(kS "g")])])]⟩
noncomputable def iM:fK:=⟨["self"],[],[.assign (.attr eC "leaks") gB,.assign (.attr eC "kept") gB,.assign (.attr eC "told") gB]⟩
noncomputable def jh:fK:=⟨["self","at"],[],[.ret (.bm .setdefault (.attr eC "told") [(.var "at"),gB])]⟩
noncomputable def fw:List S:=[.assign (.sub (.attr eC "held") (.var "register")) (.dict [((.tup [(kS "outer"),(.var "register")]),my)])]
noncomputable def eG:fK:=⟨["self","code","summaries"],[],[.assign (.attr eC "code") (.var "code"),.assign (.attr eC "summaries") tt,.assign (.attr eC "held") gB,.assign (.attr eC "inside") gB,.assign (.attr eC "sites") gB,.assign (.attr eC "gone") gB,.assign (.attr eC "summary") (.new "Summary" []),.assign (.attr eC "is_new") xd,.forr (.name "register") .range [(.bin .add (.attr (.var "code") "captured") (.attr (.var "code") "params"))] fw]⟩
noncomputable def f7:fK:=⟨["self","operand"],[],[.ite (.cmp .isNone rP gM) [.ret io] [],.ite (.cmp .eq (.sub rP cM) eZ) [.ret (.prim .list [(.bm .get (.attr eC "held") [(.sub rP dg),gB])])] [],.stuck]⟩
noncomputable def eh:List S:=[.expr (.bm .extend hM [(mE "tokens_of" [rP])])]
noncomputable def eR:fK:=⟨["self","operands"],[],[.assign (.name "found") io,.forr (.name "operand") .over [(.var "operands")] eh,.ret hM]⟩
noncomputable def fR:E:=(.cmp .ne (.var "waiting") io)
noncomputable def fQ:List S:=[.assign (.name "token") (.bm .lpop (.var "waiting") []),.ite (.cmp .notIn lP hM) [.assign (.sub hM lP) my,.expr (.bm .extend (.var "waiting") [(mE "loaded" [(.list [lP])])])] []]
noncomputable def gV:fK:=⟨["self","tokens"],[],[.assign (.names ["found","waiting"]) (.tup [gB,(.prim .list [lQ])]),.whil fR fQ,.ret (.prim .list [hM])]⟩
noncomputable def eo:List S:=[.ite (.cmp .eq lP (.tup [(kS "outer"),(.var "outer")])) [.assign (.sub hM (.ite (.cmp .eq (.var "inner") zX) tq (.tup [(kS "outer"),(.var "inner")]))) my] []]
noncomputable def f6:List S:=[.assign (.sub hM (.var "inner")) my]
noncomputable def cN:List S:=[.ite (.cmp .ne rN (kS "site")) [.assign (.sub hM lP) my,.forr (.pair "inner" "outer") .over [(.attr (.attr eC "summary") "kept")] eo,.cont] [],.forr (.name "inner") .over [(.bm .get (.attr eC "inside") [tu,gB])] f6,.ite (.cmp .isIn tu (.attr eC "gone")) [.assign (.sub hM tq) my] []]
noncomputable def ig:fK:=⟨["self","tokens"],[],[.assign (.name "found") gB,.forr (.name "token") .over [lQ] cN,.ret (.prim .list [hM])]⟩
noncomputable def jg:fK:=⟨["self","table","key"],[],[.ite (.cmp .notIn jw (.var "table")) [.assign (.sub (.var "table") jw) my,.assign (.attr eC "is_new") my] []]⟩
noncomputable def gT:List S:=[.expr (mE "note" [(.var "held"),lP])]
noncomputable def jd:fK:=⟨["self","register","tokens"],[],[.ite (.cmp .notNone (.var "register") gM) [.assign (.name "held") (.bm .setdefault (.attr eC "held") [(.var "register"),gB]),.forr (.name "token") .over [lQ] gT] []]⟩
noncomputable def jf:fK:=⟨["self","register","site"],[],[.expr (mE "note" [(.attr eC "sites"),j5]),.expr (mE "give" [(.var "register"),(.list [(.tup [(kS "site"),j5])])])]⟩
noncomputable def k9:List S:=[.ite (.cmp .eq rN (kS "site")) [.expr (mE "note" [(.attr eC "gone"),tu])] [.ite (.cmp .eq rN (kS "outer")) [.expr (mE "note" [(.attr (.attr eC "summary") "leaks"),tu])] []]]
noncomputable def je:fK:=⟨["self","tokens"],[],[.forr (.name "token") .over [(mE "reached" [lQ])] k9]⟩
noncomputable def mn:List S:=[.expr (mE "note" [(.var "held"),lP])]
noncomputable def mm:List S:=[.ite (.cmp .eq (.var "target") tq) [.expr (mE "leak" [lQ])] [.ite (.cmp .eq (.sub (.var "target") cM) (kS "outer")) [.expr (mE "put_out" [(.sub (.var "target") dg),lQ])] [.assign (.name "held") (.bm .setdefault (.attr eC "inside") [(.sub (.var "target") dg),gB]),.forr (.name "token") .over [lQ] mn,.ite (.cmp .isIn (.sub (.var "target") dg) (.attr eC "gone")) [.expr (mE "leak" [lQ])] []]]]
noncomputable def jD:fK:=⟨["self","targets","tokens"],[],[.forr (.name "target") .over [(.var "targets")] mm]⟩
noncomputable def jE:List S:=[.ite (.cmp .eq rN (kS "site")) [.expr (mE "leak" [(.list [lP])])] [],.expr (mE "note" [(.attr (.attr eC "summary") "kept"),(.tup [(.ite (.cmp .eq rN (kS "outer")) tu zX),(.var "outer")])])]
noncomputable def gU:fK:=⟨["self","outer","tokens"],[],[.forr (.name "token") .over [(mE "reached" [lQ])] jE]⟩
noncomputable def eQ:E:=(.attr eC "is_new")
noncomputable def iK:List S:=[.expr (mE "look" [mT])]
noncomputable def eP:List S:=[.forr (.name "instruction") .over [(.var "instructions")] iK,.expr (mE "leave" [(.var "terminator")])]
noncomputable def eO:List S:=[.assign (.attr eC "is_new") xd,.forr (.pair "instructions" "terminator") .over [(.attr (.attr eC "code") "blocks")] eP]
noncomputable def fP:fK:=⟨["self"],[],[.assign (.attr eC "is_new") my,.whil eQ eO]⟩
noncomputable def gy:List S:=[.expr (mE "note" [kY,(.ite (.cmp .eq rN (kS "outer")) tu zX)])]
noncomputable def eH:E:=lP
noncomputable def eI:List E:=[(.cmp .eq rN (kS "site"))]
noncomputable def gx:List S:=[.assign (.names ["told","tokens"]) (.tup [(.meth "Summary" (.attr eC "summary") "told_by" [(.var "at")]),(mE "tokens_of" [rP])]),.forr (.name "token") .over [lQ] gy,.expr (mE "leak" [(.comp eH (.name "token") .over [lQ] eI)])]
noncomputable def iL:fK:=⟨["self","terminator"],[],[.ite (.cmp .eq (.sub (.var "terminator") cM) (kS "panic")) [.stuck] [.ite (.cmp .eq (.sub (.var "terminator") cM) (kS "return")) [.forr (.pair "at" "operand") .enum [(.sub (.var "terminator") dg)] gx] []]]⟩
noncomputable def bw:fK:=⟨["self","instruction"],[],[.assign (.name "op") (.sub mT cM),.ite (.cmp .isIn ee (.tup [(kS "new"),(kS "makeslice"),(kS "makemap"),(kS "makechan"),(kS "closure"),(kS "bound"),(kS "append")])) [.expr (mE "look_at_making" [ee,mT])] [.ite (.cmp .isIn ee (.tup [(kS "call"),(kS "go"),(kS "defer")])) [.expr (mE "look_at_call" [ee,mT])] [.ite (.cmp .isIn ee (.tup [(kS "store"),(kS "mapset"),(kS "send"),(kS "select"),(kS "face"),(kS "copy")])) [.expr (mE "look_at_putting" [ee,mT])] [.ite (.cmp .isIn ee (.tup [(kS "move"),(kS "convert"),(kS "fieldptr"),(kS "elemptr"),(kS "part"),(kS "elem"),(kS "cut"),(kS "iter")])) [.expr (mE "give" [kX,pq]),.ite (.cmp .eq ee (kS "convert")) [.stuck] []] [.ite (.cmp .isIn ee (.tup [(kS "struct"),(kS "array")])) [.expr (mE "give" [kX,(mE "tokens_of_all" [(.sub mT dP)])])] [.expr (mE "look_at_reading" [ee,mT])]]]]]]⟩
noncomputable def cH:fK:=⟨["self","op","instruction"],[],[.ite (.cmp .eq ee (kS "load")) [.expr (mE "give" [kX,(mE "loaded" [pq])])] [.ite (.cmp .eq ee (kS "mapget")) [.expr (mE "give" [kX,EB])] [.ite (.cmp .eq ee (kS "next")) [.stuck] [.ite (.cmp .eq ee (kS "assert")) [.stuck] [.ite (.or [(.cmp .eq ee (kS "recv")),(.cmp .eq ee (kS "recover"))]) [.expr (mE "give" [kX,(.list [tq])])] []]]]]]⟩
noncomputable def cp:fK:=⟨["self","op","instruction"],[],[.assign (.name "site") (.sub mT (kI (-1))),.expr (mE "make" [kX,j5]),.ite (.cmp .eq ee (kS "append")) [.assign (.names ["rows","more"]) (.tup [pq,EB]),.expr (mE "give" [kX,(.var "rows")]),.expr (mE "put" [(.bin .add (.var "rows") (.list [(.tup [(kS "site"),j5])])),(.var "more")]),.expr (mE "put" [(.list [(.tup [(kS "site"),j5])]),(mE "loaded" [(.var "rows")])])] [.ite (.cmp .eq ee (kS "closure")) [.stuck] [.ite (.cmp .eq ee (kS "bound")) [.stuck] []]]]⟩
noncomputable def b9:fK:=⟨["self","op","instruction"],[],[.ite (.cmp .eq ee (kS "store")) [.expr (mE "put" [(mE "tokens_of" [kX]),pq])] [.ite (.cmp .eq ee (kS "mapset")) [.expr (mE "put" [(mE "tokens_of" [kX]),(mE "tokens_of_all" [(.cut mT (some 2) (some 4))])])] [.ite (.cmp .eq ee (kS "copy")) [.expr (mE "put" [pq,EB])] [.ite (.cmp .eq ee (kS "send")) [.expr (mE "leak" [pq])] [.ite (.cmp .eq ee (kS "select")) [.stuck] [.expr (mE "leak" [pq]),.expr (mE "give" [kX,pq])]]]]]]⟩
noncomputable def fq:fK:=⟨["self","op","instruction"],[],[.assign (.names ["called","operands"]) (.ite (.cmp .eq ee (kS "call")) (.tup [(.sub mT dP),(.sub mT (kI 3))]) (.tup [kX,(.sub mT dP)])),.assign (.name "registers") (.ite (.cmp .eq ee (kS "call")) (.prim .list [kX]) io),.assign (.name "summary") (.ite (.and [(.cmp .eq (.sub (.var "called") cM) (kS "fn")),(.cmp .ne ee (kS "go"))]) (.bm .get (.attr eC "summaries") [(.sub (.var "called") dg)]) gM),.ite (.cmp .notNone pt gM) [.expr (mE "follow" [pt,(.var "operands"),jb]),.ret gM] [],.stuck]⟩
noncomputable def j8:E:=(mE "reached" [(mE "tokens_of" [rP])])
noncomputable def j9:List E:=[]
noncomputable def fY:List S:=[.ite (.cmp .lt (.var "outer") (.prim .len [oj])) [.expr (mE "leak" [(.sub oj (.var "outer"))])] []]
noncomputable def fZ:List S:=[.ite (.cmp .lt (.var "outer") (.prim .len [oj])) [.expr (mE "put" [(.sub oj (.var "outer")),(.ite (.chain cM (.var "inner") (.prim .len [oj])) (.sub oj (.var "inner")) (.list [tq]))])] []]
noncomputable def f5:List S:=[.expr (mE "give" [(.var "register"),(.ite (.cmp .eq kY zX) (.list [tq]) (.sub oj kY))])]
noncomputable def f0:List S:=[.forr (.name "told") .over [(.bm .get (.attr pt "told") [(.var "at"),gB])] f5]
noncomputable def fv:fK:=⟨["self","summary","operands","registers"],[],[.assign (.name "handed") (.comp j8 (.name "operand") .over [(.var "operands")] j9),.forr (.name "outer") .over [(.prim .sorted [(.attr pt "leaks")])] fY,.forr (.pair "inner" "outer") .over [(.prim .sorted [(.attr pt "kept")])] fZ,.forr (.pair "at" "register") .enum [jb] f0]⟩
noncomputable def kM:fK:=⟨["self","key","params","registers","blocks","captured","results","recovery"],[(.int 0),(.int 0),.none],[.assign (.attr eC "key") jw,.assign (.attr eC "params") (.var "params"),.assign (.attr eC "registers") (.prim .list [jb]),.assign (.attr eC "blocks") (.var "blocks"),.assign (.attr eC "captured") (.var "captured"),.assign (.attr eC "results") (.var "results"),.assign (.attr eC "recovery") (.var "recovery")]⟩
noncomputable def I0(a b:String):Bool:=@decide (a=b) (instDecidableEqString a b)
noncomputable def vJ(k:String×String):List ((String×String)×Nat×fK)->Option (Nat×fK)
 | []=>none
 | r::t=>bif I0 r.1.1 k.1&&I0 r.1.2 k.2 then some r.2 else vJ k t
noncomputable def kh:List ((String×String)×Nat×fK):=[(("","size_of_summary"),211,jk),(("","escapes"),216,sq),(("","_law_pool"),266,ji),(("","_law_take"),273,pe),(("","_law_one"),280,qe),(("","_law_pointer"),299,lg),(("","_law_row"),306,qg),(("","_law_instruction"),313,iN),(("","_law_code"),320,pd),(("","_law_codes"),325,m5),(("","_law_leads"),332,m6),(("","_law_new"),339,qd),(("","_law_cells"),346,mZ),(("","_law_put"),353,qf),(("","_law_rows_step"),358,dw),(("","_law_step"),363,jj),(("","_law_called"),368,fx),(("","_law_is_safe"),373,lc),(("","_law_small_right"),380,fL),(("","law"),387,GU),(("Summary","__init__"),44,iM),(("Summary","told_by"),51,jh),(("EscapeFlow","__init__"),72,eG),(("EscapeFlow","tokens_of"),79,f7),(("EscapeFlow","tokens_of_all"),86,eR),(("EscapeFlow","reached"),93,gV),(("EscapeFlow","loaded"),100,ig),(("EscapeFlow","note"),107,jg),(("EscapeFlow","give"),114,jd),(("EscapeFlow","make"),121,jf),(("EscapeFlow","leak"),128,je),(("EscapeFlow","put"),135,jD),(("EscapeFlow","put_out"),142,gU),(("EscapeFlow","go_through"),149,fP),(("EscapeFlow","leave"),154,iL),(("EscapeFlow","look"),161,bw),(("EscapeFlow","look_at_reading"),168,cH),(("EscapeFlow","look_at_making"),175,cp),(("EscapeFlow","look_at_putting"),187,b9),(("EscapeFlow","look_at_call"),194,fq),(("EscapeFlow","follow"),199,fv),(("Code","__init__"),231,kM)]
noncomputable def a0:Tab:=λk=>(vJ k kh).map (·.2)
noncomputable def Cd:String×String->Option Nat:=λk=>(vJ k kh).map (·.1)
theorem Au{k:String×String}{l:List ((String×String)×Nat×fK)}{p:Nat×fK}(h:vJ k l=some p):(k,p)∈l:=by
 induction l with
 | nil=>cases h
 | cons r t ih =>
  have h:(bif I0 r.1.1 k.1&&I0 r.1.2 k.2 then some r.2 else vJ k t)=some p:=h
  cases e:I0 r.1.1 k.1&&I0 r.1.2 k.2 with
  | false=>rw [e] at h;exact aj _ (ih h)
  | true =>
   rw [e] at h;have e:=Bool.and_eq_true_iff.mp e;have q:(k,p)=r:=Prod.ext (Prod.ext (aB e.1).symm (aB e.2).symm) (a9 h).symm;exact q▸ai
theorem Av{k:String×String}{d:fK}(h:a0 k=some d):∃a,Cd k=some a/\(k,a,d)∈kh:=by
 obtain ⟨p,h1,rfl⟩:=b0.mp h;exact ⟨p.1,Option.map_eq_some_iff.mpr ⟨p,h1,rfl⟩,Au h1⟩
noncomputable def J4:List (String×V):=[("BEYOND",(.tup [(.str "beyond")])),("UNKNOWN",(.int (-1))),("HEAP",(.str "heap")),("FRAME",(.str "frame")),("_law_T",EA),("_law_ROW",(.tup [(.str "slice"),EA])),("_law_ONE",(.tup [(.str "const"),(.tup [(.str "int"),(.str "int")]),(.int 1)])),("_law_CHANNEL",GE)]
noncomputable def kQ:ia:=⟨J4,["size_of_summary","escapes","_law_pool","_law_take","_law_one","_law_pointer","_law_row","_law_instruction","_law_code","_law_codes","_law_leads","_law_new","_law_cells","_law_put","_law_rows_step","_law_step","_law_called","_law_is_safe","_law_small_right","law"],["Summary","EscapeFlow","Code"],[("Summary","told_by"),("EscapeFlow","tokens_of"),("EscapeFlow","tokens_of_all"),("EscapeFlow","reached"),("EscapeFlow","loaded"),("EscapeFlow","note"),("EscapeFlow","give"),("EscapeFlow","make"),("EscapeFlow","leak"),("EscapeFlow","put"),("EscapeFlow","put_out"),("EscapeFlow","go_through"),("EscapeFlow","leave"),("EscapeFlow","look"),("EscapeFlow","look_at_reading"),("EscapeFlow","look_at_making"),("EscapeFlow","look_at_putting"),("EscapeFlow","look_at_call"),("EscapeFlow","follow")],["blocks","captured","code","gone","held","inside","is_new","kept","key","leaks","params","recovery","registers","results","sites","summaries","summary","told"]⟩
noncomputable abbrev gO(ps:List String)(vals:List Value):List (Str×Value):=(ps.map Str.ofString).zip vals
noncomputable def CU(d:Data):Option FuncData:=match d with
 | .func fd=>some fd
 | _=>none
noncomputable def Jn(K:Frag)(a:Addr):Option FuncData:=(K.lookup a).bind λo=>CU o.data
noncomputable def Cv(b:FuncBody):Option (List Stmt):=match b with
 | .stmts body=>some body
 | _=>none
noncomputable def CR(K:Frag)(P:ia)(a:Addr)(d:fK):Bool :=
 (Jn K a).any λfd=>(Cv fd.body).any λbody=>fd.globals==mainGlobals&&fd.builtins==builtinsNs&&fd.closure.isEmpty&&decide (fd.scope.kind=.function)&&!fd.scope.isCoroutine&&!fd.scope.isGenerator&&codeIn K fd.code fd.qualname&&d.params.all (λx=>jQ fd.scope.names (Str.ofString x))&&decide d.params.Nodup&&nt P fd.scope.names d.body body
noncomputable def xo(K:Frag)(S:Setting)(a:Addr)(vals:List Value):Option (List (Str×Value)):=(Jn K a).bind λfd=>peek K S (bindArgs fd ⟨vals,[]⟩)
noncomputable def Hj(x:Value)(g:Int->Bool):Bool:=match x with | .int i _=>g i | _=>false
noncomputable def Hm(x:Value)(g:Str->Bool):Bool:=match x with | .str i _=>g i | _=>false
noncomputable def Hk(x:Value)(g:Addr->Bool):Bool:=match x with | .ref a=>g a | _=>false
noncomputable def Hi(x:Data)(g:Array Value->Bool):Bool:=match x with | .seq i _=>g i | _=>false
mutual
noncomputable def yG(K:Frag):V->Value->Bool
 | .int i,x=>Hj x λj=>i==j
 | .str s,x=>Hm x λy=>y==Str.ofString s
 | .tup l,x=>Hk x λa=>(K.lookup a).any λo=>Hi o.data λitems=>decide (o.cls=.type "tuple")&&o.dict.isNone&&o.slots.isEmpty&&uN K l items.toList
 | .none,_ | .bool _,_ | .obj _,_ | .ints _,_=>false
noncomputable def uN(K:Frag):List V->List Value->Bool
 | [],x=>dO false x true
 | v::l,x=>di false x λx xs=>yG K v x&&uN K l xs
end
noncomputable def qq:List String:=Ct.map (·.1)
noncomputable def DL(K:Frag)(P:ia)(fa:String×String->Option Addr)(cls:String->Option Addr):Bool :=
 (P.gl.all λp=>(nsIn K mainGlobals (Str.ofString p.1)).any λo=>o.any λu=>yG K p.2 u) &&
 (P.fns.all λf=>(fa ("",f)).any λa=>decide (nsIn K mainGlobals (Str.ofString f)=some (some (.ref a)))&&keepIn K (.ref a)) &&
 (P.has.all λp=>(cls p.1).any λC=>(fa p).any λa=>decide (findIn K (.ref C) (Str.ofString p.2)=some (some (.ref a)))&&isFn K (.ref a)&&keepIn K (.ref a)&&plainGet K C (Str.ofString p.2)) &&
 (P.clss.all λc=>(cls c).any λC=>(fa (c,"__init__")).any λa=>decide (nsIn K mainGlobals (Str.ofString c)=some (some (.ref C)))&&makesIn K C&&keepIn K (.ref C)&&decide (findIn K (.ref C) "__init__"=some (some (.ref a)))&&decide (typeIn K (.ref a)=some (.type "function"))) &&
 (qq.all λx=>decide (nsIn K mainGlobals (Str.ofString x)=some none))
noncomputable def tN(K:Frag)(C:Addr)(attrs:List String):Bool :=
 (attrs.all λa=>plainGet K C (Str.ofString a)&&decide (findIn K (.ref C) (Str.ofString a)=some none))&&hasDictIn K C&&decide (findIn K (.ref C) "__setattr__"=some (some (.builtin "object.__setattr__")))&&plainOver K C
noncomputable def Cs:Bool:=qq.all λx=>decide (bootBuiltins (Str.ofString x)=oH x)&&decide (Str.ofString x≠"__name__")
noncomputable def Cc(c:String):Option Addr:=[("Summary",54),("EscapeFlow",202),("Code",255)].lookup c
noncomputable def HT(d:fK):List Nat:=(List.range (d.dflts.length+1)).map λi=>d.params.length-d.dflts.length+i
noncomputable abbrev Bd:=Setting->Value->Value->Value->Value->Value->Value->Value->Value->List (List (Option (List (Str×Value))))
noncomputable def Ao(d:fK):List Value:=match d.dflts with | []=>[] | _=>[.int 0 511,.int 0 512,.none]
noncomputable abbrev Fc(xs:List Value)(d:fK):List (Option (List (Str×Value))):=(HT d).map λj=>some (gO d.params (xs.take j++(Ao d).drop (j+(Ao d).length-d.params.length)))
noncomputable def Kd(xs:List Value):List ((String×String)×Nat×fK)->List (List (Option (List (Str×Value))))
 | []=>[]
 | r::t=>Fc xs r.2.2::Kd xs t
noncomputable def EZ(K:Frag):Bd:=λS x0 x1 x2 x3 x4 x5 x6 x7=>kh.map λr=>(HT r.2.2).map λj=>xo K S r.2.1 ([x0,x1,x2,x3,x4,x5,x6,x7].take j)
noncomputable def HM:Bd:=λS x0 x1 x2 x3 x4 x5 x6 x7=>Kd [x0,x1,x2,x3,x4,x5,x6,x7] kh
noncomputable def Cb(K:Frag):Bool:=(kh.all λr=>CR K kQ r.2.1 r.2.2)&&DL K kQ Cd Cc&&tN K 54 kQ.attrs&&tN K 202 kQ.attrs&&tN K 255 kQ.attrs&&(K.lookup 387).isSome
noncomputable def tU(as:List Addr)(h:Heap):Frag:=as.filterMap λa=>(h.get? a).map λo=>(a,o)
theorem oL{h:Heap}:∀{as:List Addr},(tU as h).In h
 | [],a,o,e=>nomatch e
 | b::as,a,o,e=>by
  unfold tU at e;rw [List.filterMap_cons] at e;refine Or.elim (Option.eq_none_or_eq_some (h.get? b)) (λhb=>?_) (λw=>xe w λob hb=>?_)
  ·rw [hb] at e;exact oL (as:=as) a o e
  ·rw [hb] at e;dsimp only [Option.map_some,List.lookup_cons] at e;by_cases q:(a==b)=true
   ·rw [q] at e;cases e;rw [eq_of_beq q];exact hb
   ·rw [Bool.eq_false_iff.2 q] at e;exact oL (as:=as) a o e
noncomputable def Jb(as:List Addr)(chk:Frag->Bool)(bd:Frag->Bd)(bx:Bd):Hook :=
 ⟨Bool×Bd,λs=>(chk (tU as s.heap),bd (tU as s.heap)),λz_=>(true,bx),λz_ h=>∃K:Frag,K.In h/\chk K=true/\bd K=bx,
  λw s e=>⟨_,oL,(Prod.mk.inj e).1,(Prod.mk.inj e).2⟩,λw h h' q hk=>bO q λK k1 k2=>⟨K,λa o e=>hk a o (k1 a o e),k2⟩⟩
noncomputable def J3:List Addr:=[2,3,15,17,18,20,21,22,23,25,26,28,29,30,38,40,41,43,44,45,47,48,50,51,52,53,54,55,56,66,68,69,71,72,73,75,76,78,79,80,82,83,85,86,87,89,90,92,93,94,96,97,99,100,101,103,104,106,107,108,110,111,113,114,115,117,118,120,121,122,124,125,127,128,129,131,132,134,135,136,138,139,141,142,143,145,146,148,149,150,153,154,155,157,158,160,161,162,164,165,167,168,169,171,172,174,175,176,179,180,181,183,184,186,187,188,190,191,193,194,195,198,199,200,201,202,203,204,207,210,211,212,215,216,224,225,227,228,230,231,232,234,235,237,238,239,241,242,244,245,246,248,249,251,252,253,254,255,256,257,260,262,263,265,266,267,269,270,272,273,274,276,277,279,280,281,282,283,284,285,286,287,288,289,290,291,292,293,295,296,298,299,300,302,303,305,306,307,309,310,312,313,314,316,317,319,320,321,324,325,326,328,329,331,332,333,335,336,338,339,340,342,343,345,346,347,349,350,352,353,354,357,358,359,362,363,364,367,368,369,372,373,374,376,377,379,380,381,383,384,386,387]
noncomputable abbrev Ce:Hook:=Jb J3 Cb EZ HM
noncomputable def HN:List Nat:=[0,2,3,5,6,7,8,9,10,11,12,14,16,17,18,19,20,21,22,23,24,25,26,27,28,29,30,31,32,33,34,35,36,37]
noncomputable def Ch:Program:=view PySem.Challenge.pw_on0033_02 HN
noncomputable abbrev a_row:=PySem.Challenge.rw_on0033_02.row
theorem J5:LeftO PySem.Challenge.pw_on0033_02 Ch [] (λs=>xlAt Ch [] s&&recOk (RowW.records a_row.toRowW) s) (Hook.obs Ce) (Hook.val Ce) 4676:=by
 intro w;unfold openEnds fencedOpening topFrom;rw [Fast.te10274390034422433532,Fast.te14289696077712309145,Fast.te14082659384304107361,Fast.te4187177175401517315,Fast.te1435165496053646825,Fast.te14364793385576792824];kernel_rfl
theorem J6:PySem.Challenge.rw_on0033_02.wellSaid=true:=by
 rw [Fast.te9446332074065402090];kernel_rfl
section
variable{P:ia}{k:Nat}{c:V}{x:Value}
theorem iP{f:String}{x:Expr}{as:List Expr}(h:ly nm f x=some as)(k:∀id p pos,id=Str.ofString f->oQ nm id=true->M (.Call (.Name id p) as [] pos)):M x:=by
 refine gI h cr λg args kw pos h=>dB (M:=λg=>M (.Call g args kw pos)) h cr λid p h=>bK (M:=λkw=>M (.Call _ args kw pos)) h cr λh=>Or.elim (Classical.em ((id==Str.ofString f&&oQ nm id)=true)) (λhc=>?_) (λhc=>?_)
 ·cases (if_pos hc).symm.trans h;exact k id p pos (eq_of_beq (aG hc).1) (aG hc).2
 ·cases (if_neg hc).symm.trans h
theorem pW{o:Option (List Expr)}{g:List Expr->Bool}{M:Option (List Expr)->Prop}(h:kl o g=true)(k:∀as,g as=true->M (some as)):M o:=by
 cases o with
 | none=>exact bF h
 | some as=>exact k as h
theorem fS{f:String}{x:Expr}{g:List Expr->Bool}(h:kl (ly nm f x) g=true)(k:∀id p args pos,id=Str.ofString f->oQ nm id=true->g args=true->M (.Call (.Name id p) args [] pos)):M x :=
 pW (M:=λo=>ly nm f x=o->M x) h (λas hg e=>iP e λid p pos h1 h2=>k id p as pos h1 h2 hg) rfl
noncomputable def sX(x:Expr):Bool:=Nat.rec true (λn z_=>!(n==6 ||n==8 ||n==9 ||n==21)) x.ctorIdx
theorem Je{x:Expr}{g:Int->Bool}(h:vr x g=true):sX x=true:=jJ (M:=λx=>sX x=true) h λz_ z_ z_ z_=>rfl
theorem oJ{x:Expr}(h:cy P nm e x=true):sX x=true:=by
 cases e with
 | const v =>
  cases v with
  | int i=>exact (cz.1 h).elim (λh=>(cz.1 h).elim Je λh=>fB (M:=λx=>sX x=true) h ft λz_ z_ z_ z_=>rfl) λh=>jn (M:=λx=>sX x=true) h ft λz_ z_ z_ z_ z_=>rfl
  | none | bool | str=>exact eU (M:=λx=>sX x=true) h ft λz_ z_ z_ z_=>rfl
  | _=>exact bF h
 | call f l | new f l | prim f l=>exact fS (M:=λx=>sX x=true) h λz_ z_ z_ z_ z_ z_ z_=>rfl
 | var | glob=>exact dB (M:=λx=>sX x=true) h ft λz_ z_ z_=>rfl
 | attr=>exact cQ (M:=λx=>sX x=true) h ft λz_ z_ z_ z_=>rfl
 | sub | cut=>exact cb (M:=λx=>sX x=true) h ft λz_ z_ z_ z_=>rfl
 | bin=>exact jn (M:=λx=>sX x=true) h ft λz_ z_ z_ z_ z_=>rfl
 | not=>exact fB (M:=λx=>sX x=true) h ft λz_ z_ z_ z_=>rfl
 | and | or=>exact gk (M:=λx=>sX x=true) h ft λz_ z_ z_ z_=>rfl
 | cmp | chain=>exact jA (M:=λx=>sX x=true) h ft λz_ z_ z_ z_ z_=>rfl
 | ite=>exact lJ (M:=λx=>sX x=true) h ft λz_ z_ z_ z_ z_=>rfl
 | tup=>exact ej (M:=λx=>sX x=true) h ft λz_ z_ z_ z_=>rfl
 | list=>exact q0 (M:=λx=>sX x=true) h ft λz_ z_ z_=>rfl
 | dict=>exact qY (M:=λx=>sX x=true) h ft λz_ z_ z_ z_=>rfl
 | meth | bm=>exact gI (M:=λx=>sX x=true) h ft λz_ z_ z_ z_ z_=>rfl
 | comp | comp2=>exact iZ (M:=λx=>sX x=true) h ft λz_ z_ z_ z_ z_=>rfl
theorem mj{y:Expr}{ys:List Expr}(h:cy P nm e y=true):starEach (y::ys) env=(false,eval y env)::starEach ys env:=by
 have h:=oJ h;cases y<;>first | rfl | exact bF h
theorem eY:∀{l:List E} {ys:List Expr},cY P nm l ys=true->∀{pos:Pos},(backTo pos (starEach ys env)).any (·.1)=false/\(starEach ys env).all (!·.1)=true
 | [],ys,h,pos=>bK (M:=λys=>(backTo pos (starEach ys env)).any (·.1)=false/\(starEach ys env).all (!·.1)=true) h ft λz_=>⟨rfl,rfl⟩
 | e::r,ys,h,pos=>bH (M:=λys=>(backTo pos (starEach ys env)).any (·.1)=false/\(starEach ys env).all (!·.1)=true) h ft λy ys h=>by
  have h:=aG h;rw [mj h.1];have:=eY h.2 (pos:=pos);exact ⟨by show (false ||_)=false;rw [Bool.false_or];exact this.1,by show (true&&_)=true;rw [Bool.true_and];exact this.2⟩
theorem lV{f:Value}{args:List (Bool×Sem Value)}{Q:Args->Shared->Prop}(hp:args.any (·.1)=false)(h:wpAny (model W.prog W.w) A (spliced args) (λvs s'=>Q ⟨vs,[]⟩ s') Er s):wpAny (model W.prog W.w) A (evalArgs f true args []) Q Er s:=by
 cases args with
 | nil =>
  refine af (aI h (λvs s' h'=>?_) λz_ z_ x=>x);exact aT (af (al (af (al (al h')))))
 | cons p r =>
  obtain ⟨b,t⟩:=p;have:b=false:=by simpa using (Bool.or_eq_false_iff.mp (by simpa using hp:(b ||r.any (·.1))=false)).1
  subst this;exact Calls.evalArgs_plain h
theorem IP{Q1:K1}{Q:Bool->Hp->Prop}{m:Sem Value}{e:Expr}(he:isTrue e env m=(do let v <-m;standAt e.pos;holding [v] (truthy v)))(h:wpAny (model W.prog W.w) A m (cu W Z s Q1) Er s)(hq:∀v σ',Q1 v σ'->∃b,xf σ' v=some b/\Q b σ') :
  wpAny (model W.prog W.w) A (isTrue e env m) (mD W Z s Q) Er s:=by
 refine wpAny_isTrue_value (aI h (λv s' q=>cR q λρ' σ' a h1 h2 h3 h4=>?_) λz_ z_ e=>e) he;exact bO (hq _ _ h4) λb hb hQ=>uZ h2 h3 hb λt=>⟨ρ',σ',h1.trans (bA.toks ..),h2,hQ⟩
theorem j2{Q1:K1}{Q:Value->Shared->Prop}{m:Sem Value}(h:wpAny (model W.prog W.w) A m (cu W Z s Q1) Er s)
  (g:∀ρ' σ' a v s',bA gZ Z s ρ' s'->bU W s'.heap ρ' σ'->bv W s.heap s'.heap->aK W s'.heap ρ' a v->Q1 a σ'->Q v s') (R:bU W s.heap Z J):wpAny (model W.prog W.w) A m Q Er s :=
 aI h (λv s' q=>cR q λρ' σ' a h1 h2 h3 h4=>g ρ' σ' a v s' h1 h2 (h1.tup0 R) h3 h4) λz_ z_ e=>e
end
section
variable{P:ia}{k:Nat}{c:V}{x:Value}
theorem oU{o:Expr}{n:Str}{apos:Pos}{args:List Expr}{Q:Value->Shared->Prop}(hn:gP o=true)(hline:(apos.endLine==pos.line)=true)(hlen:args.length<20)(hall:(backTo pos (starEach args env)).all (!·.1)=true)
  (h:wpAny (model W.prog W.w) A (eval o env) (λov s₁=>∀pl,wpAny (model W.prog W.w) A (getMethod ov n pl) (λfr s₂=>wpAny (model W.prog W.w) A (callWith pos fr.1 fr.2 (backTo pos (starEach args env)) []) Q Er s₂) Er s₁) Er s) :
  wpAny (model W.prog W.w) A (eval (.Call (.Attribute o n apos) args [] pos) env) Q Er s:=by
 rw [arm_eval_Call,zh hn];refine af (aI h (λov s₁ h₁=>af (wpAny_standAt ?_)) λz_ z_ e=>e);have hform:methodCallForm (args.length+([]:List Keyword).length) (backTo pos (starEach args env)) (backToKw pos (keywordEach [] env))=true:=by
  delta methodCallForm;simp only [Bool.and_eq_true,decide_eq_true_eq];refine ⟨⟨hall,rfl⟩,?_⟩;show args.length+0+0<30;omega
 have hpos:methodCallPos true o env apos pos=pure pos:=by unfold methodCallPos;simp [hline]
 delta methodCall;rw [hform];refine af (aT ?_);exact aI (h₁ _) (λfr s₂ h₂=>af (wpAny_of_eq hpos h₂)) λz_ z_ e=>e
theorem vn{l:List (Bool×Sem Value)}(h:l.all (!·.1)=true):(backTo pos l).all (!·.1)=true:=by
 delta backTo;rw [List.all_map];exact h
theorem z2{ad:Addr}{vs0:List V}{first:List Value}{key:String×String}{args:List Expr}{Q1:List V->Hp->Prop}(X:fJ W P fa mg mb C k A)(R:bU W s.heap Z J)(hk:keepIn W.K (.ref ad)=true)(ha:fa key=some ad)(hp:(backTo pos (starEach args env)).any (·.1)=false)
  (r0:bo W s.heap Z vs0 first) (h:wpAny (model W.prog W.w) A (spliced (backTo pos (starEach args env))) (qb W Z s Q1) Er s) (hq:∀l σ',Q1 l σ'->C key (vs0++l) σ' Q) :
  wpAny (model W.prog W.w) A (callWith pos (.ref ad) first (backTo pos (starEach args env)) []) (cu W Z s Q) Er s:=by
 refine callWith_of (P:=W.K.In) (by rw [hp];rfl) (keeps_K hk) (lV hp (aI h (λvs s' h'=>?_) λz_ z_ e=>e));exact cR h' λρ' σ' l S R' r hQ=>⟨R'.K X.ok.wok,aI (Fe X hk ha (hq _ _ hQ) R' ((r0.mono (S.tup0 R) S.pre).append r)) (λv s'' h''=>h''.trans S) λz_ z_ e=>e⟩
theorem EM{id:String}{xs0 first:List Value}{vs0:List V}{args:List Expr}{Q1:List V->Hp->Prop}(R:bU W s.heap Z J)(hp:(backTo pos (starEach args env)).any (·.1)=false)
  (r0:bo W s.heap Z vs0 first) (h:wpAny (model W.prog W.w) A (spliced (backTo pos (starEach args env))) (qb W Z s Q1) Er s)
  (hq:∀l vs ρ' σ' s',Q1 l σ'->bA gZ Z s ρ' s'->bU W s'.heap ρ' σ'->bo W s'.heap ρ' (vs0++l) (first++vs)->wpAny (model W.prog W.w) A (call (.builtin id) (first++vs)) (cu W ρ' s' Q) Er s') :
  wpAny (model W.prog W.w) A (callWith pos (.builtin id) first (backTo pos (starEach args env)) []) (cu W Z s Q) Er s:=by
 refine Calls.callWith_builtin hp (lV hp (aI h (λvs s' h'=>?_) λz_ z_ e=>e));exact cR h' λρ' σ' l S R' r hQ=>aI (hq l vs ρ' σ' s' hQ S R' ((r0.mono (S.tup0 R) S.pre).append r)) (λv s'' h''=>h''.trans S) λz_ z_ e=>e
theorem HS{bm:BM}{o:Expr}{apos:Pos}{args:List Expr}{Q1:K1}{Q2:V->List V->Hp->Prop}(X:fJ W P fa mg mb C k A)(R:bU W s.heap Z J)(hn:gP o=true)(hline:(apos.endLine==pos.line)=true)(hlen:args.length<20)(hall:(starEach args env).all (!·.1)=true)(hp:(backTo pos (starEach args env)).any (·.1)=false)
  (ho:wpAny (model W.prog W.w) A (eval o env) (cu W Z s Q1) Er s)
  (hargs:∀a ρ' σ' s',Q1 a σ'->bA gZ Z s ρ' s'->bU W s'.heap ρ' σ'->Iu bm σ' a=true/\wpAny (model W.prog W.w) A (spliced (backTo pos (starEach args env))) (qb W ρ' s' (Q2 a)) Er s')
  (hq:∀a l σ',Q2 a l σ'->xp bm a l σ' Q):wpAny (model W.prog W.w) A (eval (.Call (.Attribute o (Str.ofString (J9 bm)) apos) args [] pos) env) (cu W Z s Q) Er s:=by
 refine oU hn hline hlen (vn hall) (aI ho (λov s₁ h₁ pl=>?_) λz_ z_ e=>e);refine cR h₁ λρa σa a S Ra ra hQ=>xa (hargs a ρa σa s₁ hQ S Ra) λhb ha=>xa (Jd Ra ra hb) λhT hd=>getMethod_builtin hT (Cu bm) (Fa bm) (Fb bm) hd (aI (EM (vs0:=[a]) (xs0:=[]) Ra hp (.cons ra .nil) ha λl vs ρ' σ' s' hQ' S' R' r=>?_) (λv s'' h''=>h''.trans S) λz_ z_ e=>e);refine cU r.E λz_ z_ e0 r1 r2=>?_;cases e0;exact Jc X.ok.wok.sys X.room R' r1 r2 (hq _ _ _ hQ')
theorem Dv{cl m:String}{o:Expr}{apos:Pos}{args:List Expr}{Q1:K1}{Q2:V->List V->Hp->Prop}(X:fJ W P fa mg mb C k A)(R:bU W s.heap Z J)(hm:(cl,m)∈P.has)(hn:gP o=true)(hline:(apos.endLine==pos.line)=true)(hlen:args.length<20)(hall:(starEach args env).all (!·.1)=true)(hp:(backTo pos (starEach args env)).any (·.1)=false)
  (ho:wpAny (model W.prog W.w) A (eval o env) (cu W Z s Q1) Er s)
  (hargs:∀a ρ' σ' s',Q1 a σ'->bA gZ Z s ρ' s'->bU W s'.heap ρ' σ'->∃n at',a=.obj n/\σ'[n]?=some (.inst cl at')/\nC at' m=none/\wpAny (model W.prog W.w) A (spliced (backTo pos (starEach args env))) (qb W ρ' s' (Q2 a)) Er s')
  (hq:∀a l σ',Q2 a l σ'->C (cl,m) (a::l) σ' Q):wpAny (model W.prog W.w) A (eval (.Call (.Attribute o (Str.ofString m) apos) args [] pos) env) (cu W Z s Q) Er s:=by
 refine oU hn hline hlen (vn hall) (aI ho (λov s₁ h₁ pl=>?_) λz_ z_ e=>e);refine cR h₁ λρa σa a S Ra ra hQ=>ib (hargs a ρa σa s₁ hQ S Ra) λn at' q hat hnone ha=>?_;subst q;refine gu (X.ok.meth cl m hm) λCC ad c1 c2 c3 c4 c5 c6=>mW (Ra.inst_at ra hat) λp ep x C' es kk h1 h2 h3 h4=>?_;subst x;rw [c1] at h1;cases h1;have hl:=(vR (n:=m) h4).2 hnone;exact method_fn (Ra.K X.ok.wok) (InstAt.mk' h2 h3) (plainGet_of c6).1 (plainGet_of c6).2 c3 (beq_iff_eq.mp c4) (by show (lookIn _ (dictOf es kk)).map _=_;rw [lookIn_dict,hl];rfl) (aI (z2 (vs0:=[.obj n]) X Ra c5 c2 hp (.cons ra .nil) ha λl σ' h'=>hq _ l σ' h') (λv s'' h''=>h''.trans S) λz_ z_ e=>e)
end
theorem BY(C:Addr)(args:List Value)(kw:List (Str×Value)):(Code.builtin "type.__call__" ⟨.ref C::args,kw⟩).weight=1:=rfl
theorem Ex(C:Addr)(args:List Value)(kw:List (Str×Value)):(Code.builtin "type.__call__" ⟨.ref C::args,kw⟩).cUnits=1:=rfl
section
variable{P:ia}{k:Nat}{c:V}{x:Value}
theorem Ip{cl:String}{CC:Addr}{vs:List V}{vals:List Value}(X:fJ W P fa mg mb C k A)(hc:cl∈P.clss)(hC:W.cls cl=some CC)(R:bU W s.heap Z J)(r:bo W s.heap Z vs vals)
  (h:C (cl,"__init__") (.obj J.length::vs) (J++[.inst cl []]) λv σ'=>v=.none/\Q (.obj J.length) σ'):wpAny (model W.prog W.w) A (call (.ref CC) vals) (cu W Z s Q) Er s:=by
 refine tC (X.ok.cls cl hc) λC' ad c1 c2 c3 c4 c5 c6 c7=>?_;rw [hC] at c1;cases c1;have KX:=R.K X.ok.wok;refine bO (X.call _ _ _ _ h) λad' ha' f=>?_;rw [c5] at ha';cases ha';obtain ⟨hp,g,d,t,os⟩:=s;refine wpAny_call (make_core (makes_of KX c3) (looks_findIn KX c6) (λself=>bind_fn KX self c7) (.inl (by rfl)) ?_);have hk:∀b o,hp.get? b=some o->((hp.push emptyDict).push (instObj CC hp.objs.size)).get? b=some o:=λb o e=>aJ _ (aJ _ e);have hz:hp.objs.size<=((hp.push emptyDict).push (instObj CC hp.objs.size)).objs.size:=by rw [bN,bN];omega
 have e1:((hp.push emptyDict).push (instObj CC hp.objs.size)).get? (hp.objs.size+1)=some (instObj CC hp.objs.size):=by
  have:=br (hp.push emptyDict) (o:=instObj CC hp.objs.size) rfl;rw [bN] at this;exact this
 have e2:((hp.push emptyDict).push (instObj CC hp.objs.size)).get? hp.objs.size=some (dictOf [] 0):=aJ _ (br _ rfl);have R':bU W ((hp.push emptyDict).push (instObj CC hp.objs.size)) (Z++[(hp.objs.size+1,hp.objs.size)]) (J++[.inst cl []]) :=
  R.grow (o:=.inst cl []) hk hz (Nat.le_succ _) (ay _) ⟨CC,[],0,hC,e1,e2,.nil,by decide⟩
 have S:bA gZ Z ⟨hp,g,d,t,os⟩ (Z++[(hp.objs.size+1,hp.objs.size)]) ⟨(hp.push emptyDict).push (instObj CC hp.objs.size),g,d,t,os⟩:=o6 (s:=⟨hp,g,d,t,os⟩) (t:=t) hk hz (Nat.le_succ _) (ay _);have self:aK W ((hp.push emptyDict).push (instObj CC hp.objs.size)) (Z++[(hp.objs.size+1,hp.objs.size)]) (.obj J.length) (.ref (hp.objs.size+1)):=by
  refine .obj (d:=hp.objs.size) ?_;rw [<-R.len,aL (ay _)];simp
 refine codeAny_mono (f _ _ _ (.ref (hp.objs.size+1)::vals) ?_ ?_ ?_ R' (.cons self (r.mono (λb o e z_ z_=>hk b o e) (cw ..)))) λr s' q=>bO q λv e o=>?_
 ·exact X.hh
 ·have:=BY CC vals [];have:=X.depth;show A.depth+(Code.builtin "type.__call__" ⟨.ref CC::vals,[]⟩).weight+3*k+5<=_;omega
 ·have:=Ex CC vals [];have:=X.units;show A.units+(Code.builtin "type.__call__" ⟨.ref CC::vals,[]⟩).cUnits+20*k+60<=_;omega
 ·subst e;refine fE o λρ'' σ'' a' S' R'' ra x hQ=>?_;subst x;cases ra;exact ⟨rfl,ρ'',σ'',.obj J.length,S.trans S',R'',self.mono (S'.tup0 R') S'.pre,hQ⟩
theorem FW{cl:String}{CC:Addr}{args:List Expr}{Q1:List V->Hp->Prop}(X:fJ W P fa mg mb C k A)(R:bU W s.heap Z J)(hc:cl∈P.clss)(hC:W.cls cl=some CC)(hk:keepIn W.K (.ref CC)=true)(hp:(backTo pos (starEach args env)).any (·.1)=false)
  (h:wpAny (model W.prog W.w) A (spliced (backTo pos (starEach args env))) (qb W Z s Q1) Er s) (hq:∀l σ',Q1 l σ'->C (cl,"__init__") (.obj σ'.length::l) (σ'++[.inst cl []]) λv σ''=>v=.none/\Q (.obj σ'.length) σ'') :
  wpAny (model W.prog W.w) A (callWith pos (.ref CC) [] (backTo pos (starEach args env)) []) (cu W Z s Q) Er s:=by
 refine callWith_of (P:=W.K.In) (by rw [hp];rfl) (keeps_K hk) (lV hp (aI h (λvs s' h'=>?_) λz_ z_ e=>e));exact cR h' λρ' σ' l S R' r hQ=>⟨R'.K X.ok.wok,aI (Ip X hc hC R' r (hq _ _ hQ)) (λv s'' h''=>h''.trans S) λz_ z_ e=>e⟩
theorem GA{o sl:Expr}{Q1:K1}{Q2:V->K1}(X:fJ W P fa mg mb C k A)(R:bU W s.heap Z J)
  (ho:wpAny (model W.prog W.w) A (eval o env) (cu W Z s Q1) Er s)
  (hi:∀a ρ' σ' s',Q1 a σ'->bA gZ Z s ρ' s'->bU W s'.heap ρ' σ'->wpAny (model W.prog W.w) A (eval sl env) (cu W ρ' s' (Q2 a)) Er s')
  (hq:∀a i σ',Q2 a i σ'->∃w,jT σ' a i=some w/\Q w σ'):wpAny (model W.prog W.w) A (eval (.Subscript o sl pos) env) (cu W Z s Q) Er s:=by
 rw [eval_Subscript];refine lu ho λρa σa a v s₁ S Ra ra hQ=>af (aT (aI (hi a ρa σa s₁ hQ S Ra) (λi s₂ h₂=>?_) λz_ z_ e=>e));refine cR h₂ λρb σc b Sa Rb rb hQa=>bO (hq _ _ _ hQa) λw hw hQw=>?_;have ra':=ra.mono (Sa.tup0 Ra) Sa.pre;refine af (wpAny_standAt (af (qI Rb ra' (vX hw) ?_)));have key:wpAny (model W.prog W.w) A (getItem v i) (λr s₃=>wpAny (model W.prog W.w) A (letTemporaryGo o v r >>=λz_=>pure r) (cu W Z s Q) Er s₃) Er s₂ :=
  aI (FH X.ok.wok.sys X.room Rb ra' rb hw hQw) (λr s₃ h₃=>af (wpAny_letTemporaryGo (al (h₃.trans (S.trans Sa))))) λz_ z_ e=>e
 unfold subscripted;refine af ?_
 split
 ·exact wpAny_operating key
 ·contradiction
 ·exact wpAny_operating key
end
noncomputable def xC{α:Type}(l:List α)(lo hi:Option Int):List α :=
 let a:=match lo with | some x=>x.toNat | none=>0
 match hi with
 | some y=>(l.take y.toNat).drop a
 | none=>l.drop a
theorem bo.cut{as:List Value}(lo hi:Option Int)(r:bo W h Z l as):bo W h Z (xD l lo hi) (xC as lo hi):=by
 cases lo<;>cases hi
 ·exact r.drop 0
 ·exact (r.take _).drop _
 ·exact r.drop _
 ·exact (r.take _).drop _
theorem Gb(xs:Array α)(a p:Nat):((List.range p).filterMap λ(k:Nat)=>xs[((a:Int)+(k:Int)*1).toNat]?)=(xs.toList.drop a).take p:=by
 have e:(λ(k:Nat)=>xs[((a:Int)+(k:Int)*1).toNat]?)=(λx=>xs[x]?) ∘ λx=>a+x:=by
  funext k
  have:((a:Int)+(k:Int)*1).toNat=a+k:=by rw [Int.mul_one,<-Int.natCast_add,Int.toNat_natCast]
  show xs[((a:Int)+(k:Int)*1).toNat]?=xs[a+k]?;rw [this]
 rw [e,<-List.filterMap_map];exact pick_run xs a p
theorem FU{a b:Nat}:min (min b n-min a n) (n-a)=min (b-a) (n-a):=by
 refine Or.elim (Nat.le_total a n) (λh=>?_) (λh=>?_)
 ·rw [Nat.min_eq_left h];refine Or.elim (Nat.le_total b n) (λq=>?_) (λq=>?_)
  ·rw [Nat.min_eq_left q]
  ·rw [Nat.min_eq_right q,Nat.min_self,Nat.min_eq_right (Nat.sub_le_sub_right q a)]
 ·rw [Nat.sub_eq_zero_of_le h,Nat.min_zero,Nat.min_zero]
theorem qy(l:List α)(a b:Nat):(l.drop (min a l.length)).take (min b l.length-min a l.length)=(l.take b).drop a:=by
 rw [List.drop_take];have e:l.drop (min a l.length)=l.drop a:=by
  refine Or.elim (Nat.le_total a l.length) (λh=>?_) (λh=>?_)
  ·rw [Nat.min_eq_left h]
  ·rw [Nat.min_eq_right h,List.drop_length,List.drop_of_length_le h]
 rw [e,List.take_eq_take_iff,List.length_drop];exact FU
noncomputable def B5(o:Option Int)(n:Nat):Nat:=match o with | some x=>min x.toNat n | none=>0
noncomputable def IW(o:Option Int)(n:Nat):Nat:=match o with | some x=>min x.toNat n | none=>n
set_option tactic.hygienic true in
theorem zj(l:List α)(lo hi:Option Int):(l.drop (B5 lo l.length)).take (IW hi l.length-B5 lo l.length)=xC l lo hi:=by
 cases lo<;>cases hi
 ·exact (List.take_of_length_le (ay _)).trans rfl
 ·rename_i y
  have:=qy l 0 y.toNat;rw [Nat.zero_min] at this;exact this
 ·rename_i x
  have:=qy l x.toNat l.length;rw [Nat.min_self,List.take_length] at this;exact this
 ·exact qy l _ _
theorem z5{lo hi:Option Int}(h1:jl lo=true)(h2:jl hi=true)(n:Nat):Builtin.Slice.sliceAdjust lo hi 1 (n:Int)=((B5 lo n:Int),(IW hi n:Int)):=by
 unfold Builtin.Slice.sliceAdjust;have h0:¬((1:Int)<0):=by decide
 simp only [h0,if_false];have key:∀x:Int,0<=x->(if x<0 then max (x+n) 0 else min x (n:Int))=((min x.toNat n:Nat):Int):=λx hx=>by
  refine xe (Int.eq_ofNat_of_zero_le hx) λm q=>?_;subst q;rw [if_neg (Int.not_lt.mpr hx),Int.toNat_natCast];exact (Lean.Omega.Int.ofNat_min m n).symm
 cases lo<;>cases hi
 ·rfl
 ·exact congrArg _ (key _ (aB h2).1)
 ·exact congrArg (·,_) (key _ (aB h1).1)
 ·exact congr (congrArg Prod.mk (key _ (aB h1).1)) (key _ (aB h2).1)
theorem Br(a b:Nat):Builtin.Slice.slicePlaces (a:Int) (b:Int) 1=b-a:=by
 unfold Builtin.Slice.slicePlaces;have h1:(1:Int)>0:=by decide
 simp only [h1,if_true,Int.ediv_one];by_cases h:(a:Int)<b
 ·rw [if_pos h,Int.sub_add_cancel,Int.toNat_sub]
 ·rw [if_neg h,Nat.sub_eq_zero_of_le (Int.ofNat_le.mp (Int.not_lt.mp h))];rfl
section
variable{P:ia}{k:Nat}{x vl vu:Value}{lo hi:Option Int}{prog:Program}{w:World}{E:Value->Shared->Prop}
theorem oe{v:Value}{o:Option Int}{Q:Option Int->Shared->Prop}(p:IsPart v o)(h:Q o s):wpAny (model prog w) A (Builtin.Slice.slicePartIndex v) Q E s:=by
 cases p with
 | none=>exact slicePart_none h
 | int i t=>exact slicePart_int h
theorem pJ{sl:Addr}{Q:Int×Int×Nat->Shared->Prop}(h1:jl lo=true)(h2:jl hi=true)(hs:s.heap.IsSliceOf sl vl vu .none)(pl:IsPart vl lo)(pu:IsPart vu hi)
  (h:Q ((B5 lo n:Int),1,IW hi n-B5 lo n) s):wpAny (model prog w) A (Builtin.Slice.sliceApplied (.ref sl) (pure (n:Int))) Q E s:=by
 refine cG (id hs) λos hos hcs hds=>?_;unfold Builtin.Slice.sliceApplied Builtin.Slice.sliceFields;refine af (af (wpAny_field hos hds (x:=vl) rfl (af (wpAny_field hos hds (x:=vu) rfl (af (wpAny_field hos hds (x:=.none) rfl (al ?_)))))));refine af (slicePart_none ?_);show wpAny _ _ (if ((1:Int)==0)=true then _ else _) _ _ s;rw [if_neg (by decide)];refine af (oe pl (af (oe pu (af (al ?_)))));show wpAny _ _ (match Builtin.Slice.sliceAdjust lo hi 1 (n:Int) with | (lo,hi)=>pure (lo,(1:Int),Builtin.Slice.slicePlaces lo hi 1)) _ _ s;rw [z5 h1 h2];show wpAny _ _ (pure ((B5 lo n:Int),(1:Int),Builtin.Slice.slicePlaces (B5 lo n:Int) (IW hi n:Int) 1)) _ _ s;rw [Br];exact al h
theorem B0{t sl:Addr}{Q:Value->Shared->Prop}(h1:jl lo=true)(h2:jl hi=true)(ht:IsTup s.heap t items)(hs:s.heap.IsSliceOf sl vl vu .none)(pl:IsPart vl lo)(pu:IsPart vu hi)
  (gE:items.size<=sizeLine) (hw:xC items.toList lo hi=items.toList->Q (.ref t) s)
  (h:Q (.ref s.heap.objs.size) {s with heap:=s.heap.push {cls:=.type "tuple",data:=.seq (xC items.toList lo hi).toArray}}):wpAny (model prog w) A (getItem (.ref t) (.ref sl)) Q E s:=by
 have e:=zj items.toList lo hi;rw [bf] at e;have hdrop:sizeOk (.seq (xC items.toList lo hi).toArray):=by
  show (xC items.toList lo hi).toArray.size<=sizeLine;rw [List.size_toArray,<-e];exact am (List.length_take_le' _ _) (by rw [List.length_drop,bf];exact am (Nat.sub_le _ _) gE)
 refine cG (id hs) λos hos hcs hds=>?_;have hTs:s.TypeIs (.ref sl) "slice":=⟨os,hos,hcs⟩
 unfold getItem
 try with_reducible refine aT ?_
 first | refine af (al ?_) | skip
 refine af (wpAny_sequenceKey ht.typeIs (by decide) ?_);refine af (wpAny_callSpecial?_slot (name:=Str.ofString "__getitem__") ht.typeIs slot_tuple_getitem
  (wpAny_call_entry slot_tuple_getitem ht.typeIs entry_tuple_getitem ?_ (args_tuple_getitem _ _)))
 show wpAny _ _ (Builtin.Tuple.tupleItemsOf (.ref t) >>=_) _ _ s;refine af (tupleItemsOf_ ht ?_);refine af (wpAny_typeOf hTs ?_);rw [if_pos (by decide)];refine af (pJ (n:=items.size) h1 h2 hs pl pu ?_);show wpAny _ _ (if ((B5 lo items.size:Int)==0&&(1:Int)==1&&(IW hi items.size-B5 lo items.size)==items.size)=true then _ else _) _ _ s;by_cases c:((B5 lo items.size:Int)==0&&(1:Int)==1&&(IW hi items.size-B5 lo items.size)==items.size)=true
 ·rw [if_pos c];have c':=c;rw [Bool.and_eq_true,Bool.and_eq_true,beq_iff_eq,beq_iff_eq] at c';have z:B5 lo items.size=0:=Int.ofNat.inj c'.1.1;have hq:Q (.ref t) s:=hw (by rw [<-e,beq_iff_eq.mp c'.2,z,List.drop_zero,<-bf,List.take_length]);refine af (m:=Builtin.Tuple.tupleIsExact _) (af (wpAny_typeOf ht.typeIs (al ?_)));rw [if_pos (by decide)];refine af (wpAny_rule ?_);exact al ⟨_,rfl,al hq⟩
 ·rw [if_neg c,Gb items,e]
  first
   | exact af (m:=Builtin.Tuple.tupleExact _) (wpAny_newObj_type (al ⟨_,rfl,al h⟩) hdrop)
   | exact af (m:=Builtin.Tuple.tupleExact _) (wpAny_newObj_type (af (al (al ⟨_,rfl,al h⟩))) hdrop)
   | exact af (af (m:=Builtin.Tuple.tupleExact _) (wpAny_newObj_type (al (al ⟨_,rfl,al h⟩)) hdrop))
   | exact af (af (m:=Builtin.Tuple.tupleExact _) (wpAny_newObj_type (al ⟨_,rfl,al h⟩) hdrop))
theorem uJ{x:Option Expr}{b:Option Int}{Q:Value->Shared->Prop}(hc:Ae b x=true)(h:∀v t,IsPart v b->Q v {s with toks:=t}):wpAny (model prog w) A (evalPart x env) Q E s:=by
 cases b with
 | none =>
  cases Option.isNone_iff_eq_none.mp (show x.isNone=true from hc);rw [evalPart_none];exact al (h .none s.toks .none)
 | some i =>
  refine bO ((Option.any_eq_true ..).mp (show Option.any (λe=>vr e λj=>i==j) x=true from hc)) λe he hi=>?_;subst he;rw [evalPart_some];refine jJ (M:=λe=>wpAny (model prog w) A (eval e env) Q E s) hi λj n p hj=>?_;cases eq_of_beq hj;exact wpAny_Constant_int (h (.int i s.toks) (s.toks+1) (.int i _))
theorem DJ(h1:jl lo=true)(h2:jl hi=true):slicePick items lo hi none=(xC items.toList lo hi).toArray:=by
 have c:∀x:Int,0<=x->clipAt items.size x=min x.toNat items.size:=λx hx=>by
  have:=clipAt_nat items.size x.toNat
  rwa [Int.toNat_of_nonneg hx] at this
 have e:=zj items.toList lo hi;rw [bf] at e;rw [slicePick_plain,<-e];cases lo<;>cases hi
 ·rfl
 ·exact congrArg List.toArray (congr (congrArg List.take (congrArg (·- 0) (c _ (aB h2).1))) rfl)
 ·simp only [Option.elim,c _ (aB h1).1];rfl
 ·simp only [Option.elim,c _ (aB h1).1,c _ (aB h2).1];rfl
set_option tactic.hygienic true in
theorem Fj{o:Expr}{lower upper:Option Expr}{p:Pos}(R:bU W s.heap Z J)(hl:Ae lo lower=true)(hh:Ae hi upper=true)
  (ho:wpAny (model W.prog W.w) A (eval o env) (cu W Z s (Jt lo hi Q)) Er s):wpAny (model W.prog W.w) A (eval (.Subscript o (.Slice lower upper none p) pos) env) (cu W Z s Q) Er s:=by
 rw [eval_Subscript];refine lu ho λρa σa a v s₁ S Ra ra hQ=>af (aT (wpAny_Slice (uJ hl λvl t1 pl=>uJ hh λvu t2 pu=>?_)));rw [evalPart_none];refine al ?_;have k:∀b o,s₁.heap.get? b=some o->(s₁.heap.push {cls:=.type "slice",data:=.fields #[vl,vu,.none]}).get? b=some o:=λz_ z_ e=>aJ _ e;have z:s₁.heap.objs.size<=(s₁.heap.push {cls:=.type "slice",data:=.fields #[vl,vu,.none]}).objs.size:=by rw [bN];exact Nat.le_succ _
 have Rb:=Ra.keep k z;have Sa:bA gZ ρa s₁ ρa {s₁ with heap:=s₁.heap.push {cls:=.type "slice",data:=.fields #[vl,vu,.none]},toks:=t2}:=cW k z;have ra':=ra.mono (Sa.tup0 Ra) Sa.pre;have c1:jl lo=true:=hQ.1;have c2:jl hi=true:=hQ.2.1;have hs:∀v i,subscripted (.Slice lower upper none p) false v i=operate [i,v] (getItem v i):=λz_ z_=>by with_unfolding_all rfl
 refine af (wpAny_standAt (af ?_))
 cases a with
 | tup l =>
  refine cv ra'.E λad o' items ek e1 h1 h2 h3 z_ hr=>?_;subst e1;have hz:items.size=l.length:=by rw [<-bf,hr.length]
  have ht:IsTup (s₁.heap.push {cls:=.type "slice",data:=.fields #[vl,vu,.none]}) ad items:=⟨o',h1,h2,ek,h3⟩
  refine qI (a:=.tup l) (s:={s₁ with heap:=s₁.heap.push {cls:=.type "slice",data:=.fields #[vl,vu,.none]},toks:=t2}) Rb ra' rfl ?_;rw [hs];refine af ?_
  ·refine wpAny_operating (B0 (s:={s₁ with heap:=s₁.heap.push {cls:=.type "slice",data:=.fields #[vl,vu,.none]},toks:=t2}) c1 c2 ht (Heap.IsSliceOf.new ..) pl pu (hz▸fH hQ.2.2.1) (λe=>?_) ?_)
   ·refine af (wpAny_letTemporaryGo (al (cu.trans (S.trans Sa) (cu.here Rb ?_ hQ.2.2.2))));have:=hr.cut lo hi;rw [e] at this;exact .tup h1 h2 h3 ‹_› this
   ·exact af (wpAny_letTemporaryGo (al (cu.trans (S.trans Sa) (cu.tup Rb (l:=xD l lo hi) (by rw [List.toList_toArray];exact hr.cut lo hi) hQ.2.2.2))))
 | obj n =>
  refine pN hQ.2.2 (λl e hm=>?_) λz_ z_ z_ h=>h.elim;refine dR (Rb.list_at ra' e) λp ad e1 e2 e3 e4 q=>?_;subst e4;refine cU q λitems ep h3 h4 hz=>qI (a:=.obj n) (s:={s₁ with heap:=s₁.heap.push {cls:=.type "slice",data:=.fields #[vl,vu,.none]},toks:=t2}) Rb ra' (congrArg Option.isSome (cF e)) ?_;rw [hs];refine af ?_
  ·refine wpAny_operating (wpAny_getItem_list_slice (s:={s₁ with heap:=s₁.heap.push {cls:=.type "slice",data:=.fields #[vl,vu,.none]},toks:=t2}) (items:=items) ⟨_,h3,rfl,ep,rfl⟩ (Heap.IsSliceOf.new ..) pl pu .none (λh=>nomatch h) ?_ (hz▸fH hm.1));refine af (wpAny_letTemporaryGo (al (cu.trans (S.trans Sa) ?_)));rw [DJ c1 c2];exact cu.list Rb (l:=xD l lo hi) (by rw [List.toList_toArray];exact h4.cut lo hi) hm.2
 | _=>exact hQ.2.2.elim
end
section
variable{E:Value->Shared->Prop}{x:Value}
theorem Am{m:Nat}{lx lm:List V}{hi:Int}{t:Tok}{sl:Addr}{Q':Unit->Shared->Prop}(R:bU W s.heap Z J)(ra:aK W s.heap Z (.obj n) x)(rm:aK W s.heap Z (.obj m) z)
  (e:J[n]?=some (.list lx)) (e2:J[m]?=some (.list lm)) (hne:n≠m) (h0:0<=hi) (h1:hi<100) (hb:lx.length+lm.length<big) (hs:s.heap.IsSliceOf sl .none (.int hi t) .none)
  (hQ:∀h',bA gZ Z s Z {s with heap:=h',toks:=s.toks}->bU W h' Z (J.set n (.list (lm++lx.drop hi.toNat)))->Q' () {s with heap:=h'}) :
  wpAny (model W.prog W.w) A (setItem x (.ref sl) z) Q' E s:=by
 refine bz (R.list_at ra e) λp ad ep hp1 hp2 y items ek ho hr hz=>?_;subst y;refine bz (R.list_at rm e2) λp2 ad2 ep2 hq1 hq2 u its ek2 ho2 hr2 hz2=>?_;subst u;have hap:ad≠ad2:=λq=>(R.apart n m p p2 hne ep ep2).1 (by rw [hp1,hq1];exact q);have hl:s.heap.IsList ad items:=⟨_,ho,rfl,ek,rfl⟩
 have hl2:s.heap.IsList ad2 its:=⟨_,ho2,rfl,ek2,rfl⟩
 have hbl:items.size+its.size<=sizeLine:=by rw [hz,hz2];exact fH hb
 refine cG (id hs) λos hos hcs hds=>?_;have hTs:s.TypeIs (.ref sl) "slice":=⟨os,hos,hcs⟩
 delta setItem
 try with_reducible refine aT ?_
 first | refine af (al ?_) | skip
 refine af (wpAny_sequenceKey hl.typeIs (by decide) ?_);refine af (wpAny_callSpecial?_slot (name:=Str.ofString "__setitem__") hl.typeIs slot_list_setitem
  (wpAny_call_entry slot_list_setitem hl.typeIs entry_list_setitem ?_ (args_list_setitem _ _ _)))
 show wpAny _ _ (Builtin.List.listSubscript? (.ref sl) >>=_) _ _ s;refine af ?_;unfold Builtin.List.listSubscript?;refine af (wpAny_specialOf hTs slice_no_index ?_);rw [if_pos (show (Option.none:Option Value).isNone=true from rfl)];refine al ?_;show wpAny _ _ (typeOf (.ref sl) >>=_) _ _ s;refine af (wpAny_typeOf hTs ?_);rw [if_neg (by decide)];rw [listSliceParts_eq];refine af (af (wpAny_field hos hds (x:=.none) rfl (af (wpAny_listPart .none ?_))));rw [if_neg (by decide)];refine af (wpAny_field hos hds (x:=.none) rfl (af (wpAny_listPart .none ?_)));refine af (wpAny_field hos hds (x:=.int hi t) rfl (af (wpAny_listPart (.int hi t) (al ?_))));dsimp only;rw [if_neg (show ¬Builtin.List.listSameRef (.ref ad) (.ref ad2)=true from λq=>hap (eq_of_beq q))];refine af ?_;unfold Builtin.List.listAllItems;refine af (wpAny_typeOf hl2.typeIs ?_);rw [if_pos (by decide)];unfold Builtin.List.listItems;refine af (wpAny_seqItems ho2 rfl (al ?_));refine af (af (wpAny_seqItems ho rfl (al ?_)));refine af (wpAny_of_eq (sliceIndices_raw none (some hi) none items.size (by simp)) ?_);rw [sliceBounds_plain];dsimp only [Option.elim];rw [if_pos (by decide)];refine af (wpAny_rule ?_);rw [if_neg (by unfold Builtin.List.listTooLong;simpa using hbl)];have c:clipAt items.size hi=min hi.toNat items.size:=by
  have:=clipAt_nat items.size hi.toNat
  rwa [Int.toNat_of_nonneg h0] at this
 have hf:((items.extract 0 (((0:Nat):Int)).toNat++its++items.extract (max (((0:Nat):Int)) ((clipAt items.size hi:Nat):Int)).toNat)).toList=its.toList++items.toList.drop hi.toNat:=by
  rw [c];have e0:(max (((0:Nat):Int)) ((min hi.toNat items.size:Nat):Int)).toNat=min hi.toNat items.size:=by rw [Int.max_eq_right (Int.ofNat_le.mpr (aC _)),Int.toNat_natCast]
  rw [e0];simp only [Array.toList_append,Array.toList_extract,Int.toNat_natCast,List.extract_eq_take_drop,Nat.sub_zero,List.take_zero,List.nil_append]
  congr 1
  rw [List.take_of_length_le (by simp),List.drop_eq_drop_iff,bf];exact Nat.min_eq_left (Nat.min_le_right _ _)
 have hz':(items.extract 0 (((0:Nat):Int)).toNat++its++items.extract (max (((0:Nat):Int)) ((clipAt items.size hi:Nat):Int)).toNat).size<=sizeLine+1:=by
  rw [<-bf,hf,aH,List.length_drop,bf,bf];exact bT (am (cn (Nat.sub_le _ _) _) (am (Nat.le_of_eq (Nat.add_comm _ _)) hbl))
 refine o9 (rR (f:=λxs=>xs.extract 0 (((0:Nat):Int)).toNat++its++xs.extract (max (((0:Nat):Int)) ((clipAt items.size hi:Nat):Int)).toNat) (l':=lm++lx.drop hi.toNat) R ep hp1 hp2 ho (by rw [hf];exact hr2.append (hr.drop _)) s.toks) λz_ S R'=>?_;have fin:=hQ _ S R';refine af (wpAny_updateSeq ho rfl ?_ (by omega) hz');refine af (wpAny_letGo ?_)
 first
  | exact al ⟨.none,rfl,al fin⟩
  | exact af (al (al ⟨.none,rfl,al fin⟩))
end
theorem AL{u:V}{hi:Int}{Q:Loc->Hp->Prop}{G:Prop}(h:Da v hi loc Q u J)
  (k:∀n m l l',u=.obj n->v=.obj m->J[n]?=some (.list l)->J[m]?=some (.list l')->n≠m->0<=hi->hi<100->l.length+l'.length<big->Q loc (J.set n (.list (l'++l.drop hi.toNat)))->G):G:=by
 exact pU (M:=λw=>u=w->G) h (λn h eu=>pU (M:=λw=>v=w->G) h (λm h ev=>kj h λl e1 h=>kj h λl' e2 h=>k n m l l' eu ev e1 e2 h.1 h.2.1 h.2.2.1 h.2.2.2.1 h.2.2.2.2) rfl) rfl
theorem DE{f:V->V->Prop}{M:V->Prop}(h:JM v f)(k:∀a b,f a b->M (.tup [a,b])):M v:=by
 cases v with
 | tup l=>rcases l with _ | ⟨a,_ | ⟨b,_ | _⟩⟩<;>first | exact k _ _ h | exact h.elim
 | _=>exact h.elim
theorem Cq{i e' i':E}{Q:Loc->Hp->Prop}{G:Prop}(h:HP C (.subs e i e' i') v loc J Q)
  (k:∀a b,v=.tup [a,b]->(ev C e loc J λu J=>ev C i loc J λj J=>ds u j a J λJ=>ev C e' loc J λu J=>ev C i' loc J λj J=>ds u j b J λJ=>Q loc J)->G):G:=by
 exact DE (M:=λw=>v=w->G) h (λa b h e=>k a b e h) rfl
section
variable{E:Value->Shared->Prop}
theorem EL{d:Addr}{es:Array DictEntry}{ep:Nat}{Q:Value->Shared->Prop}(hd:(d==sysModules)=false)(ho:ip s.heap d es ep)
  (hQ:Q (.ref s.heap.objs.size) {s with heap:=s.heap.push {cls:=.type "dict_values",data:=.fields #[.ref d]}}) :
  wpAny (model W.prog W.w) A (call (.builtin "dict.values") [.ref d]) Q E s:=by
 have hT:s.TypeIs (.ref d) "dict":=⟨_,ho,rfl⟩
 refine wpAny_call_entry F.slot_dict_values hT F.entry_dict_values ?_ (F.args_dict_values_1 _);refine af (af (wpAny_notOrdered_dict hT ?_));refine al ?_;refine af (gX (λq=>absurd q (by rw [hd];simp)) λz_=>al ?_);exact af (wpAny_newObj_type (al ⟨_,rfl,hQ⟩))
theorem EK{v d:Addr}{es:Array DictEntry}{ep:Nat}{Q:Value->Shared->Prop}(hv:s.heap.IsValuesView v d)(ho:ip s.heap d es ep)
  (hQ:Q (.ref s.heap.objs.size) {s with heap:=s.heap.push {cls:=.type "dict_valueiterator",data:=.fields #[.ref d,.int 0 0,.int es.size 0,.int ep 0]}}) :
  wpAny (model W.prog W.w) A (pyIter (.ref v)) Q E s:=by
 refine cG (id hv) λov hov hcv hdv=>wpAny_pyIter_slot hv.typeIs F.slot_dict_values_iter (wpAny_call_entry F.slot_dict_values_iter hv.typeIs F.entry_dict_values_iter ?_ (F.args_dict_values_iter_1 _));refine af (al ?_);refine af (af (wpAny_field hov hdv (x:=.ref d) rfl (al ?_)));refine af (af (wpAny_dictEntries ho rfl ?_));refine af (wpAny_dictEpoch ho rfl ?_);have hown:Builtin.Dict_items.ownsTuple "dict_valueiterator"=false:=by decide
 simp only [hown,Bool.false_eq_true,if_false];exact wpAny_newObj_type (al ⟨_,rfl,"dict_valueiterator",_,⟨_,br _ rfl,rfl⟩,F.slot_dict_valueiterator_next.lookup,hQ⟩)
theorem rq{it d:Addr}{ep:Nat}{Q:Value->Shared->Prop}(hit:s.heap.IsValIter it d i n ep)(h:Q (.ref it) s):wpAny (model W.prog W.w) A (pyIter (.ref it)) Q E s:=by
 refine wpAny_pyIter_slot hit.typeIs F.slot_dict_valueiterator_iter (wpAny_call_entry F.slot_dict_valueiterator_iter hit.typeIs entry_dict_valueiterator_iter ?_ (F.args_dict_valueiterator_iter_1 _));exact al ⟨_,rfl,"dict_valueiterator",_,hit.typeIs,F.slot_dict_valueiterator_next.lookup,h⟩
theorem EJ{it d:Addr}{ep:Nat}{es:Array DictEntry}{e:DictEntry}{Q:Option Value->Shared->Prop}(hit:s.heap.IsValIter it d i es.size ep)
  (hod:ip s.heap d es ep) (hx:es[i]?=some e)
  (hQ:∀h',h'.IsValIter it d (i+1) es.size ep->Heap.SameBut it s.heap h'->Q (some e.val) {s with heap:=h'}) :
  wpAny (model W.prog W.w) A (pyNext (.ref it)) Q E s:=by
 refine cG (id hit) λo ho hc hd=>?_;refine af (wpAny_attempt (wpAny_callSpecial?_slot (name:=Str.ofString "__next__") hit.typeIs F.slot_dict_valueiterator_next
  (wpAny_call_entry F.slot_dict_valueiterator_next hit.typeIs F.entry_dict_valueiterator_next ?_ (F.args_dict_valueiterator_next_1 _))))
 refine af (al (af (af ?_)))
 first | refine af (wpAny_typeNameOfWhole_valiter hit.typeIs (al ?_)) | refine af (wpAny_typeNameOf_valiter hit.typeIs (al ?_))
 refine af (wpAny_fieldsOf ho hd ?_);have hown:Builtin.Dict_items.ownsTuple "dict_valueiterator"=false:=by decide
 rw [hown,if_neg ca];show wpAny _ _ (if (Value.ref d==Value.none)=true then _ else _) _ _ s;rw [if_neg (show ¬((Value.ref d==Value.none)=true) from ca)];refine af (al (af (wpAny_dictEntries hod rfl ?_)));rw [if_neg (by simp)];refine af (al (af (wpAny_dictEpoch hod rfl ?_)));rw [if_neg (by simp)];refine al ?_;dsimp only;rw [if_neg (Int.not_lt.2 (Int.natCast_nonneg i)),Int.toNat_natCast,hx];refine af ?_
 first | refine af (wpAny_typeNameOfWhole_valiter hit.typeIs (al ?_)) | refine af (wpAny_typeNameOf_valiter hit.typeIs (al ?_))
 refine af (wpAny_isOneOf_valiter hit.typeIs ?_);show wpAny _ _ (setField (.ref it) 1 (rawInt ((i:Int)+1)) >>=_) _ _ s;refine af (wpAny_setField ho hd (by simp) ?_);have hit':(s.heap.update it (Obj.mapFields (·.setIfInBounds 1 (rawInt ((i:Int)+1))))).IsValIter it d (i+1) es.size ep :=
  ⟨_,Heap.get?_update_self _ ho (Obj.isFreed_of_fields (Obj.data_mapFields hd _)),(Obj.cls_mapFields ..).trans hc,by rw [Obj.data_mapFields hd];simp [rawInt]⟩
 refine af (aT ?_);refine af (wpAny_isOneOf_valiter (s:={s with heap:=s.heap.update it (Obj.mapFields (·.setIfInBounds 1 (rawInt ((i:Int)+1))))}) hit'.typeIs ?_);refine af (wpAny_isOneOf_valiter (s:={s with heap:=s.heap.update it (Obj.mapFields (·.setIfInBounds 1 (rawInt ((i:Int)+1))))}) hit'.typeIs ?_);exact al (al ⟨_,rfl,al (hQ _ hit' (bu ..))⟩)
theorem GO{it d:Addr}{ep:Nat}{es:Array DictEntry}{Q:Option Value->Shared->Prop}(hh:A.handled=none)(hit:s.heap.IsValIter it d i es.size ep)
  (hod:ip s.heap d es ep) (hx:es[i]?=none)
  (hQ:∀h',Heap.ExtBut it s.heap h'->s.heap.objs.size<=h'.objs.size->Q none {s with heap:=h'}):wpAny (model W.prog W.w) A (pyNext (.ref it)) Q E s:=by
 refine cG (id hit) λo ho hc hd=>?_;refine af (wpAny_attempt (wpAny_callSpecial?_slot (name:=Str.ofString "__next__") hit.typeIs F.slot_dict_valueiterator_next
  (wpAny_call_entry F.slot_dict_valueiterator_next hit.typeIs F.entry_dict_valueiterator_next ?_ (F.args_dict_valueiterator_next_1 _))))
 refine af (al (af (af ?_)))
 first | refine af (wpAny_typeNameOfWhole_valiter hit.typeIs (al ?_)) | refine af (wpAny_typeNameOf_valiter hit.typeIs (al ?_))
 refine af (wpAny_fieldsOf ho hd ?_);have hown:Builtin.Dict_items.ownsTuple "dict_valueiterator"=false:=by decide
 rw [hown,if_neg ca];show wpAny _ _ (if (Value.ref d==Value.none)=true then _ else _) _ _ s;rw [if_neg (show ¬((Value.ref d==Value.none)=true) from ca)];refine af (al (af (wpAny_dictEntries hod rfl ?_)));rw [if_neg (by simp)];refine af (al (af (wpAny_dictEpoch hod rfl ?_)));rw [if_neg (by simp)];refine al ?_;dsimp only;rw [if_neg (Int.not_lt.2 (Int.natCast_nonneg i)),Int.toNat_natCast,hx];refine af ?_
 first | refine af (wpAny_typeNameOfWhole_valiter hit.typeIs (al ?_)) | refine af (wpAny_typeNameOf_valiter hit.typeIs (al ?_))
 show wpAny _ _ (setField (.ref it) 0 .none >>=_) _ _ s;refine af (wpAny_setField ho hd (by simp) ?_);refine af ?_;dsimp only [newExc,newTuple];refine af (wpAny_newObj_type ?_ (by size_fits));refine af (m:=firstArgMember _ _) (wpAny_of_eq (a:=Value.none) (by first | rfl | (dsimp only [firstArgMember];rfl)) ?_);refine wpAny_newObj_type ?_ (by size_fits);dsimp only [raiseNew];refine af (wpAny_handled ?_);rw [show A.in1.handled=none from hh];refine af (al (wpAny_throw ?_));refine af (wpAny_isInstance (T:="StopIteration") (b:=true) ⟨_,br _ rfl,rfl⟩ isSubtype_stop ?_);refine al (hQ _ (((bu ..).extBut.push _).push _) ?_);rw [bN,bN,(bu ..).1];omega
end
section
variable{E:Value->Shared->Prop}{c:V}{x:Value}
theorem AJ{l:List (V×V)}{ek:Nat}{I d:Addr}(e₀:σb[n]?=some (.dict l ek)) :
  ∃St Mid,mC W false (l.map (·.2)) [n] σb [I] I St Mid/\∀Z h,h.IsValIter I d 0 l.length ek->Z[n]?=some (d,d)->cE W Z h I->St 0 Z h :=
 ⟨_,_,gY (P:=λi Z h=>h.IsValIter I d i l.length ek/\Z[n]?=some (d,d)) (cl:="dict_valueiterator") (by decide) (by decide)
  (λst=>let ⟨o,h1,h2,h3⟩:=st.1;⟨o,_,h1,h2,h3⟩)
  (λst S tk k=>⟨let ⟨o,h1,h2⟩:=st.1;⟨o,k o h1,h2⟩,iA S.pre st.2⟩)
  (λ{A E s Z J i v Q} hA ap st R sd hx hQ=>by
   have e:J[n]?=some (.dict l ek):=by rw [sd n (by simp)];exact e₀
   refine bM (R.dict_at (.obj st.2) e) λp ad ep hp1 hp2 he hn es ek' e' ho hr hz=>?_;cases he;subst e';rw [List.getElem?_map] at hx;obtain ⟨⟨k,u⟩,hku,rfl⟩:=b0.mp hx;refine dR (hr.at hku) λaa bb h1 z_ z_ z_ h2=>?_;exact EJ (es:=es) (hz▸st.1) ho (by rw [<-Array.getElem?_toList];exact h1) λh' it' sb=>hQ _ h' s.toks h2 sb λz_=>⟨hz▸it',st.2⟩)
  (λ{A E s Z J Q} hA ap st R sd hQ=>by
   have e:J[n]?=some (.dict l ek):=by rw [sd n (by simp)];exact e₀
   refine bM (R.dict_at (.obj st.2) e) λp ad ep hp1 hp2 he hn es ek' e' ho hr hz=>?_;cases he;subst e';exact GO (es:=es) hA (hz▸st.1) ho (Array.getElem?_eq_none (by rw [hz,aM];exact ay _)) λh' eb hz=>hQ h' s.toks eb hz)
  (λ{A E s Z i Q} st hq=>rq st.1 hq),
 λZ h h1 h2 h3=>⟨⟨h1,h2⟩,h3⟩⟩
end
noncomputable def sk(W:Wd)(b₀:Nat)(Z:Rho)(J:Hp)(s:Shared)(own':Bool)(xs:List V)(ns:List Nat)(xv:Value):Prop :=
 ∀(A:Around) (E:Value->Shared->Prop) (Q:Value->Shared->Prop),A.handled=none->
  (∀I s' own St Mid,bA gZ Z s Z s'->bU W s'.heap Z J->mC W own' xs ns J own I St Mid->St 0 Z s'.heap->(∀a∈own,b₀<=a)->Q (.ref I) s')->wpAny (model W.prog W.w) A (pyIter xv) Q E s
noncomputable def EX(W:Wd)(Z:Rho)(s:Shared)(own':Bool)(Q:List V->List Nat->Hp->Prop)(xv:Value)(s':Shared):Prop :=
 ∃ρ' σ' xs ns,bA gZ Z s ρ' s'/\bU W s'.heap ρ' σ'/\Q xs ns σ'/\sk W s.heap.objs.size ρ' σ' s' own' xs ns xv
section
variable{P:ia}{k:Nat}{c:V}{x:Value}
theorem cJ(ob:Obj)(b:Addr)(o:Obj)(e:h.get? b=some o):(h.push ob).get? b=some o:=aJ _ e
theorem dQ(ob:Obj):h.objs.size<=(h.push ob).objs.size:=by rw [bN];exact Nat.le_succ _
theorem i5{ob:Obj}(R:bU W s.heap Z J):cE W Z (s.heap.push ob) s.heap.objs.size:=cE.new R (ay _) (by rw [bN];exact bX _)
theorem q8{m:Nat}(h:n<=m):∀b∈[m],n<=b:=λb hb=>an.mp hb▸h
theorem pX{ad:Addr}(ep:Z[n]?=some p)(h1:p.1=ad)(h2:p.2=ad):Z[n]?=some (ad,ad):=ep.trans (congrArg some (Prod.ext h1 h2))
set_option tactic.hygienic true in
theorem rt{p:List V×List Nat}{b₀:Nat}(hs:sysModules<W.h₀.objs.size)(R:bU W s.heap Z J)(hb:b₀<=s.heap.objs.size)(ra:aK W s.heap Z a x)(h:eA .over [a] J=some p):sk W b₀ Z J s false p.1 p.2 x:=by
 refine xQ (M:=λa p=>aK W s.heap Z a x->sk W b₀ Z J s false p.1 p.2 x) h (λl ra A E Q hA hQ=>?_) (λn l e ra A E Q hA hQ=>?_) (λn l ekk e ra A E Q hA hQ=>?_) ra
 ·have ra':=ra;refine cv ra.E λad o items ek q ho hc hd hx hr=>?_;subst q;refine dE (xS (W:=W) (xs:=l) (σb:=J) (I:=s.heap.objs.size) (t:=ad)) λSt Mid it hst=>wpAny_pyIter_tuple ⟨o,ho,hc,ek,hd⟩ (hQ _ _ [s.heap.objs.size] St Mid (cW (t:=s.toks) (cJ _) (dQ _)) (R.keep (cJ _) (dQ _)) it (hst _ _ ⟨_,br _ rfl,rfl,rfl⟩ (ra'.mono (λb o e z_ z_=>cJ _ b o e) (aD _)) (i5 R)) (q8 hb))
 ·refine bz (R.list_at ra e) λp ad ep hp1 hp2 w items ek ho hr hzz=>?_;subst w;refine dE (AI (W:=W) (I:=s.heap.objs.size) (l:=ad) e) λSt Mid it hst=>wpAny_pyIter_list ⟨_,ho,rfl,ek,rfl⟩ (hQ _ _ [s.heap.objs.size] St Mid (cW (t:=s.toks) (cJ _) (dQ _)) (R.keep (cJ _) (dQ _)) it (hst _ _ ⟨_,br _ rfl,rfl,rfl⟩ (pX ep hp1 hp2) (i5 R)) (q8 hb))
 ·refine bM (R.dict_at ra e) λp ad ep hp1 hp2 y hn es ek ekq ho hr hzz=>?_;subst y;subst ekq;refine dE (AG (W:=W) (I:=s.heap.objs.size) (d:=ad) e) λSt Mid it hst=>?_;exact wC (beq_eq_false_iff_ne.mpr (bC (ak hs hn))) ho (hQ _ _ [s.heap.objs.size] St Mid (cW (t:=s.toks) (cJ _) (dQ _)) (R.keep (cJ _) (dQ _)) it (hst _ _ ⟨_,br _ rfl,rfl,by rw [hzz];rfl⟩ (pX ep hp1 hp2) (i5 R)) (q8 hb))
theorem uL{l:List (V×V)}{ek:Nat}{d v:Addr}{b₀:Nat}(R:bU W s.heap Z J)(hb:b₀<=s.heap.objs.size)(e:J[n]?=some (.dict l ek))(ep:Z[n]?=some (d,d))(hv:s.heap.IsValuesView v d):sk W b₀ Z J s false (l.map (·.2)) [n] (.ref v):=by
 intro A E Q hA hQ;refine bM (R.dict_at (.obj ep) e) λp ad ep' hp1 hp2 he hn es ek' ekq ho hr hzz=>?_;cases he;subst ekq;refine dE (AJ (W:=W) (I:=s.heap.objs.size) (d:=d) e) λSt Mid it hst=>?_;exact EK hv ho (hQ _ _ [s.heap.objs.size] St Mid (cW (t:=s.toks) (cJ _) (dQ _)) (R.keep (cJ _) (dQ _)) it (hst _ _ ⟨_,br _ rfl,rfl,by rw [hzz];rfl⟩ ep (i5 R)) (q8 hb))
theorem wE{n:Int}{ns:List Nat}{b₀:Nat}{u t v:Tok}{r:Addr}(R:bU W s.heap Z J)(hb:b₀<=s.heap.objs.size)(hr:IsRange s.heap r 0 n 1 u t v)(h:eA .range [.int n] J=some (xs,ns)):sk W b₀ Z J s false xs ns (.ref r):=by
 intro A E Q hA hQ;have h:(if 0<=n/\n<1000000 then some ((List.range n.toNat).map λ(i:Nat)=>V.int (i:Int),[]) else none)=some (xs,ns):=h
 split at h
 ·rename_i hn
  cases h;have e1:Builtin.Range.rangeSize 0 n 1=((n.toNat:Nat):Int):=by
   delta Builtin.Range.rangeSize;rw [if_pos (by decide)];refine Or.elim (Classical.em ((0:Int)<n)) (λh0=>?_) (λh0=>?_)
   ·rw [if_pos h0,Int.sub_zero,Int.ediv_one,Int.sub_add_cancel];exact (Int.toNat_of_nonneg (Int.le_of_lt h0)).symm
   ·rw [if_neg h0,Int.le_antisymm (Int.not_lt.mp h0) hn.1];rfl
  have hsm:Builtin.Range.small 0 n 1=true:=by
   delta Builtin.Range.small;rw [e1];dsimp only [Builtin.Range.rangeFitsLong,Bool.and_eq_true,Bool.or_eq_true,decide_eq_true_eq,beq_iff_eq];have h1:(1:Int)>0:=by decide
   skip;simp;exact Ig hn
  refine dE (xR (W:=W) (m:=n.toNat) (σb:=J) (I:=s.heap.objs.size)) λSt Mid it hst=>?_;exact wpAny_pyIter_range hr hsm (hQ _ _ [s.heap.objs.size] St Mid (cW (t:=s.toks) (cJ _) (dQ _)) (R.keep (cJ _) (dQ _)) it (hst _ _ (by rw [e1];exact br _ rfl) (i5 R)) (q8 hb))
 ·exact cr h
end
section
variable{P:ia}{k:Nat}{c:V}{x:Value}
set_option tactic.hygienic true in
theorem CJ{Q2:List V->List Nat->Hp->Prop}{ρa:Rho}{s₁:Shared}{p:List V×List Nat}(R:bU W s₁.heap ρa J)(ra:aK W s₁.heap ρa a x)(h:eA .enum [a] J=some p)(hq:Q2 p.1 p.2 J)(S:bA gZ Z s ρa s₁) :
  wpAny (model W.prog W.w) A (call (.type "enumerate") [x]) (EX W Z s true Q2) Er s₁:=by
 have fin:∀(h':Heap) (e it:Addr) {xs ys:List V} {ns:List Nat} {N:Nat->Rho->Heap->Prop} (hxs:xs=ys.zipIdx.map λp=>.tup [.int p.2,p.1]),(∀b o,s₁.heap.get? b=some o->h'.get? b=some o)->h'.objs.size=s₁.heap.objs.size+2->e=s₁.heap.objs.size+1->it=s₁.heap.objs.size->IsEnum h' e it 0 .none->
   zc W ys ns J e it N->N 0 ρa h'->Q2 xs ns J->EX W Z s true Q2 (.ref e) {s₁ with heap:=h'}:=λh' e it xs ys ns N hxs kk gE he hi hE I hN hq=>by
  have hz:s₁.heap.objs.size<=h'.objs.size:=by rw [gE];exact aN _ _
  refine ⟨ρa,J,xs,ns,S.trans (cW (t:=s₁.toks) kk hz),R.keep kk hz,hq,λA E Q hA hQ=>?_⟩;subst hxs;refine dE (AH I (by rw [he,hi];exact Nat.succ_ne_self _)) λSt Mid it' hst=>wpAny_pyIter_enum hE (hQ _ _ [e,it] St Mid (bA.refl ..) (R.keep kk hz) it' (hst _ _ hE hN ?_ ?_) ?_)
  ·exact cE.new R (by rw [he];exact Nat.le_succ _) (by rw [he,gE];exact bX _)
  ·exact cE.new R (by rw [hi];exact ay _) (by rw [hi,gE];exact Nat.lt_add_of_pos_right (by decide))
  ·intro a ha;have:=S.size;simp only [List.mem_cons,aq,or_false] at ha;rcases ha with rfl | rfl
   ·rw [he];exact bT this
   ·rw [hi];exact this
 refine xP (M:=λa p=>aK W s₁.heap ρa a x->Q2 p.1 p.2 J->wpAny (model W.prog W.w) A (call (.type "enumerate") [x]) (EX W Z s true Q2) Er s₁) h (λl ra hq=>?_) (λn l e ra hq=>?_) ra hq
 ·have ra':=ra;refine cv ra.E λad o items ek q ho hc hd hx hr=>?_;subst q;exact pC ⟨o,ho,hc,ek,hd⟩ λh' hE hI gE kk=>fin h' _ _ rfl kk gE rfl rfl hE vU ⟨hI,ra'.mono (λb o e z_ z_=>kk b o e) (aD _)⟩ hq
 ·refine bz (R.list_at ra e) λp ad ep hp1 hp2 y items ek ho hr hzz=>?_;subst y;exact call_enumerate_list ⟨_,ho,rfl,ek,rfl⟩ λh' hE hI gE kk=>fin h' _ _ rfl kk gE rfl rfl hE (xL e) ⟨hI,pX ep hp1 hp2⟩ hq
noncomputable def Ga:oB->Bool | .enum=>true | _=>false
theorem pi{it:Expr}{as:List Expr}{M:Expr->List Expr->Prop}(h:dL nm .values it=some as)(k:∀o apos pos,gP o=true->(apos.endLine==pos.line)=true->M (.Call (.Attribute o (Str.ofString "values") apos) [] [] pos) [o]):M it as:=by
 refine gI (M:=λe=>M e as) h cr λg args kw pos h=>cQ (M:=λg=>M (.Call g args kw pos) as) h cr λo n apos h=>bK (M:=λe=>M (.Call _ e kw pos) as) h cr λh=>bK (M:=λe=>M (.Call _ _ e pos) as) h cr λh=>Or.elim (Classical.em ((n==Str.ofString "values"&&gP o&&(apos.endLine==pos.line))=true)) (λhc=>?_) (λhc=>?_)
 ·cases (if_pos hc).symm.trans h;have h1:=aG hc;have h2:=aG h1.1;cases eq_of_beq h2.1;exact k o apos pos h2.2 h1.2
 ·cases (if_neg hc).symm.trans h
set_option tactic.hygienic true in
theorem Gx{kk:oB}{it x':Expr}{Q1:K1}{Q2:List V->List Nat->Hp->Prop}(X:fJ W P fa mg mb C k A)(hn:env.scope.names=nm)(R:bU W s.heap Z J)(O:bJ W env loc Z s.heap)(hit:dL nm kk it=some [x'])(hst:starEach [x'] env=[(false,eval x' env)])(hk:kk=.over\/kk=.range\/kk=.enum\/kk=.values)
  (h:∀{Er},wpAny (model W.prog W.w) A (eval x' env) (cu W Z s Q1) Er s) (hq:∀v σ',Q1 v σ'->dn (eA kk [v] σ') λp=>Q2 p.1 p.2 σ') :
  wpAny (model W.prog W.w) A (eval it env) (EX W Z s (Ga kk) Q2) Er s:=by
 have one:∀(pos:Pos) (T:String) (Qf:Value->Shared->Prop),(∀ρa σa a v s₁,bA gZ Z s ρa s₁->bU W s₁.heap ρa σa->aK W s₁.heap ρa a v->Q1 a σa->wpAny (model W.prog W.w) A (call (.type T) [v]) Qf Er s₁)->
   wpAny (model W.prog W.w) A (callWith pos (.type T) [] (backTo pos (starEach [x'] env)) []) Qf Er s:=λpos T Qf g=>by
  rw [hst];refine PySem.callWith_type (by rfl) (Calls.evalArgs_plain ?_);refine Calls.spliced_cons (aI h (λv s₁ q=>cR q λρa σa a S Ra ra hQ=>?_) λz_ z_ e=>e);exact al (g ρa σa a v s₁ S Ra ra hQ)
 rcases hk with rfl | rfl | rfl | rfl
 ·cases hit;refine aI h (λv s₁ x=>cR x λρa σa a S Ra ra hQ=>?_) λz_ z_ e=>e;exact cf (hq _ _ hQ) λp hi hQ2=>⟨ρa,σa,p.1,p.2,S,Ra,hQ2,rt X.ok.wok.sys Ra S.size ra hi⟩
 ·refine iP (M:=λit=>wpAny _ _ (eval it env) _ _ _) hit λid p pos hid hg=>wpAny_Call_NameR (nO X O R hn hg hid rfl (one pos "range" _ λρa σa a v s₁ S Ra ra hQ=>?_));refine cf (hq _ _ hQ) λp hi hQ2=>vY (M:=λa=>aK W s₁.heap ρa a v->_) hi (λn hi ra=>?_) ra;refine xe ra.E λt y=>?_;subst y;refine call_range_1 ?_;have S2:=S.trans (cW (s:=s₁) (Z:=ρa) (t:=s₁.toks+1+1) (cJ {cls:=.type "range",data:=.fields #[.int 0 s₁.toks,.int n t,.int 1 (s₁.toks+1)]}) (dQ _));exact ⟨ρa,σa,p.1,p.2,S2,Ra.keep (cJ _) (dQ _),hQ2,wE (Ra.keep (cJ _) (dQ _)) S2.size (br _ rfl) hi⟩
 ·refine iP (M:=λit=>wpAny _ _ (eval it env) _ _ _) hit λid p pos hid hg=>wpAny_Call_NameR (nO X O R hn hg hid rfl (one pos "enumerate" _ λρa σa a v s₁ S Ra ra hQ=>?_));exact cf (hq _ _ hQ) λp hi hQ2=>CJ Ra ra hi hQ2 S
 ·generalize hx:[x']=as at hit;refine pi (M:=λit as=>[x']=as->wpAny _ _ (eval it env) _ _ _) hit (λo apos pos h1 h2 he=>?_) hx;cases he;refine oU h1 h2 (by decide) rfl (aI h (λv s₁ z pl=>cR z λρa σa a S Ra ra hQ=>?_) λz_ z_ e=>e);refine cf (hq _ _ hQ) λp hi hQ2=>t8 (M:=λa p=>aK W s₁.heap ρa a v->Q2 p.1 p.2 σa->_) hi (λn l ek e ra hQ2=>?_) ra hQ2;refine bM (Ra.dict_at ra e) λp ad ep hp1 hp2 u hn' es ek' ekq ho hr hzz=>?_;subst u;have q1:(ad==sysModules)=false:=beq_eq_false_iff_ne.mpr (bC (ak X.ok.wok.sys hn'));refine getMethod_builtin (T:="dict") ⟨_,ho,rfl⟩ F.plainAttrs_dict F.slot_dict_values F.type_dict_values (λb hb=>by cases hb;exact ⟨_,ho,rfl⟩) (Calls.callWith_builtin (by rfl) (lV (by rfl) ?_));refine al (EL q1 ho ?_);have S2:=S.trans (cW (s:=s₁) (Z:=ρa) (t:=s₁.toks) (cJ {cls:=.type "dict_values",data:=.fields #[.ref ad]}) (dQ _));exact ⟨ρa,σa,_,_,S2,Ra.keep (cJ _) (dQ _),hQ2,uL (Ra.keep (cJ _) (dQ _)) S2.size e (pX ep hp1 hp2) ⟨_,br _ rfl,rfl,rfl⟩⟩
end
section
variable{P:ia}{k:Nat}{c:V}{x:Value}
structure dS(W:Wd)(env:Env)(D:Addr)(loc:Loc)(Z:Rho)(J:Hp)(s:Shared)(acc:List V):Prop where
 rep:bU W s.heap Z J
 eok:bJ W env loc Z s.heap
 apart:cE W Z s.heap D
 ne:¬dT env D
 obj:∃items ep,s.heap.get? D=some ⟨.type "list",none,.seq items ep,#[]⟩/\bo W s.heap Z acc items.toList
theorem dS.step{X:Addr->Prop}{D:Addr}{acc:List V}{σ':Hp}(H:dS W env D loc Z J s acc)(S:bA X Z s ρ' s')(tk:bv W s.heap s'.heap)(R':bU W s'.heap ρ' σ')(hX:∀a,X a->a≠D/\¬dT env a):dS W env D loc ρ' σ' s' acc where
 rep:=R'
 eok:=H.eok.step S tk λa ha hx=>(hX a hx).2 ha
 apart:=H.apart.step S
 ne:=H.ne
 obj:=by
  exact dE H.obj λitems ep h1 h2=>⟨items,ep,S.keep _ _ h1 (λhx=>(hX _ hx).1 rfl) H.apart.2.2,h2.mono tk S.pre⟩
theorem dS.app{D:Addr}{acc:List V}{Q:Value->Shared->Prop}(H:dS W env D loc Z J s acc)(ra:aK W s.heap Z a x)(hz:acc.length<big)
  (h:∀s',bA (λz=>z=D) Z s Z s'->bv W s.heap s'.heap->dS W env D loc Z J s' (acc++[a])->Q .none s'):wpAny (model W.prog W.w) A (call (.builtin "list.append") [.ref D,x]) Q Er s:=by
 refine dE H.obj λitems ep h1 h2=>?_;have gE:items.size=acc.length:=by rw [<-bf,h2.length]
 refine call_meets F.slot_list_append ⟨_,h1,rfl⟩ F.entry_list_append (F.args_list_append_2 _ _) (PySem.list_append D items ep _ (by rw [gE];exact fH hz)) ⟨h1,?_⟩;have sb:Heap.SameBut D s.heap (s.heap.update D (Obj.mapSeq λl=>l.push x)):=bu ..;refine xa (H.rep.own (O:=λz=>z=D) (h':=s.heap.update D (Obj.mapSeq λl=>l.push x)) (λz e=>e▸H.apart) (λz o e g=>by subst e;rw [h1] at g;cases g;simp) (λb o hb e=>(sb.2 b hb).trans e) (by rw [sb.1];exact ay _)) λtk R'=>?_;have S:bA (λz=>z=D) Z s Z {s with heap:=s.heap.update D (Obj.mapSeq λl=>l.push x),toks:=s.toks}:=bA.priv (X:=λz=>z=D) (λb o hb e=>(sb.2 b hb).trans e) (by rw [sb.1];exact ay _);refine h _ S tk ⟨R',H.eok.step S tk λz hz e=>H.ne (e▸hz),H.apart.step S,H.ne,xe (Obj.data_mapSeq (o:=⟨.type "list",none,.seq items ep,#[]⟩) rfl λl=>l.push x) λq hq=>?_⟩;have fr:(Obj.mapSeq (λl=>l.push x) ⟨.type "list",none,.seq items ep,#[]⟩).isFreed=false:=Obj.isFreed_of_seq hq;refine ⟨_,q,?_,by rw [Array.toList_push];exact (h2.mono tk (aD _)).append (.cons (ra.mono tk (aD _)) .nil)⟩;rw [Heap.get?_update_self _ h1 fr];dsimp only [Obj.mapSeq] at hq ⊢
 simpa using hq
theorem Ck{D:Addr}{o:Ob}(R:bU W h Z J)(ap:cE W Z h D)(r:ml W h (Z++[(D,D)]) (D,D) o):bU W h (Z++[(D,D)]) (J++[o]) where
 len:=by simp [R.len]
 ob n o' p e ep:=by
  refine Or.elim (cS n J.length) (λhn=>?_) (λhn=>?_)
  ·rw [au hn] at e;rw [au (by rw [R.len];exact hn)] at ep;exact (R.ob n o' p e ep).mono (bv.refl _ _) (cw ..) (λz_ e=>e) (λz_ e=>e)
  ·have:n=J.length:=by
    have:=(aE.mp e).1;simp at this;omega
   subst this;rw [aL (ay _)] at e;rw [aL (by rw [R.len];exact ay _),R.len] at ep;simp at e ep;subst e ep;exact r
 apart m n p q hmn ep eq:=by
  have newp:∀(m:Nat) (p:Addr×Addr),¬m<Z.length->(Z++[(D,D)])[m]?=some p->m=Z.length/\p=(D,D):=λm p hm e=>by
   have l:=(aE.mp e).1;simp at l;have:m=Z.length:=by omega
   subst this;rw [aL (ay _)] at e;simp at e;exact ⟨rfl,e.symm⟩
  by_cases hm:m<Z.length<;>rcases Classical.em (n<Z.length) with hn | hn
  ·rw [au hm] at ep;rw [au hn] at eq;exact R.apart m n p q hmn ep eq
  ·refine xa (newp n q hn eq) λz_ w=>?_;subst w;rw [au hm] at ep;have:=ap.2.2 m p ep;exact ⟨this.1,this.1,this.2,this.2⟩
  ·refine xa (newp m p hm ep) λz_ x=>?_;subst x;rw [au hn] at eq;have:=ap.2.2 n q eq;exact ⟨this.1.symm,this.2.symm,this.1.symm,this.2.symm⟩
  ·exact absurd ((newp m p hm ep).1.trans (newp n q hn eq).1.symm) hmn
 new n p ep:=by
  refine Or.elim (cS n Z.length) (λhn=>?_) (λhn=>?_)
  ·rw [au hn] at ep;exact R.new n p ep
  ·have l:=(aE.mp ep).1;simp at l;have:n=Z.length:=by omega
   subst this;rw [aL (ay _)] at ep;simp at ep;subst ep;exact ⟨ap.1,ap.1⟩
 size:=R.size
 top:=R.top
 priv:=R.priv
theorem mS{D:Addr}(S:bA X Z s ρ' s')(hD:s.heap.objs.size<=D):bA X Z s (ρ'++[(D,D)]) s' where
 pre:=S.pre.trans (cw ..)
 fresh n p hn e:=by
  refine Or.elim (cS n ρ'.length) (λh=>?_) (λh=>?_)
  ·rw [au h] at e;exact S.fresh n p hn e
  ·rw [aL h] at e;have:n-ρ'.length=0:=by
    have:=(aE.mp e).1;simp at this;omega
   rw [this] at e;simp at e;subst e;exact ⟨hD,hD⟩
 keep a o e hx hp:=S.keep a o e hx hp
 same:=S.same
 size:=S.size
end
noncomputable abbrev jv(ifs:List Expr)(env:Env):Sem Bool:=forIn ifs true λc r=>if r=true then do let ok <-isTrue c env (eval c env);pure (ForInStep.yield ok) else pure (ForInStep.yield r)
section
variable{P:ia}{k:Nat}{c:V}{x:Value}
theorem pD{elt t1 i1 target iter:Expr}{ifs:List Expr}{scope:Scope}{it acc:Value}:compTurn (.ListComp elt [⟨t1,i1,[],0⟩,⟨target,iter,ifs,0⟩] scope pos) 1 it acc env=(do
  standAt iter.pos
  match <-pyNext it with
  | none=>pure (.done .next)
  | some v =>
    letOwnedTupleGo target it v
    assign target env v
    let mut ok:=true
    for c in ifs do
     if ok then ok <-isTrue c env (eval c env)
    if ok then
     (do let _ <-call (.builtin "list.append") [acc,<-eval elt env])
    again (.compLoop (.ListComp elt [⟨t1,i1,[],0⟩,⟨target,iter,ifs,0⟩] scope pos) 1 it acc env)):=by rfl
theorem qw{elt target iter t2 i2:Expr}{ifs:List Expr}{scope:Scope}{it acc:Value}:compTurn (.ListComp elt [⟨target,iter,[],0⟩,⟨t2,i2,ifs,0⟩] scope pos) 0 it acc env=(do
  standAt iter.pos
  match <-pyNext it with
  | none=>pure (.done .next)
  | some v =>
    letOwnedTupleGo target it v
    assign target env v
    let x <-eval i2 env
    standAt i2.pos
    let x <-foldedSetIterable i2 env x
    let _ <-runOwn (.compStart (.ListComp elt [⟨target,iter,[],0⟩,⟨t2,i2,ifs,0⟩] scope pos) 1 (<-holding [x] (pyIter x)) acc env) env
    again (.compLoop (.ListComp elt [⟨target,iter,[],0⟩,⟨t2,i2,ifs,0⟩] scope pos) 0 it acc env)):=by rfl
theorem wi{elt t1 i1 target iter:Expr}{ifs:List Expr}{scope:Scope}{it acc:Value}{R:Result->Shared->Prop}(I:Nat->Shared->Prop)
  (turn:∀n s,I n s->wpAny (model W.prog W.w) A (pyNext it) (λr s₁=>match r with
   | none=>R (.ok .next) s₁
   | some v=>wpAny (model W.prog W.w) A (assign target env v) (λz_ s₂ =>
     wpAny (model W.prog W.w) A (jv ifs env) (λok s₃ =>
      if ok=true then wpAny (model W.prog W.w) A (eval elt env) (λx s₄ =>
       wpAny (model W.prog W.w) A (call (.builtin "list.append") [acc,x]) (λz_ s₅=>∃m,m<n/\I m s₅) (notedBy (model W.prog W.w) A env λe s'=>R (.error e) s') s₄) (notedBy (model W.prog W.w) A env λe s'=>R (.error e) s') s₃
      else ∃m,m<n/\I m s₃) (notedBy (model W.prog W.w) A env λe s'=>R (.error e) s') s₂) (notedBy (model W.prog W.w) A env λe s'=>R (.error e) s') s₁) (notedBy (model W.prog W.w) A env λe s'=>R (.error e) s') s)
  (n:Nat) (h:I n s) (ht:∀v,letOwnedTupleGo target it v=pure ():=by intro _;rfl) :
  codeAny (model W.prog W.w) A (.compLoop (.ListComp elt [⟨t1,i1,[],0⟩,⟨target,iter,ifs,0⟩] scope pos) 1 it acc env) R s:=by
 refine codeAny_loop rfl I (λn s hI=>?_) n h;show wpAny _ A ((compTurn (.ListComp elt [⟨t1,i1,[],0⟩,⟨target,iter,ifs,0⟩] scope pos) 1 it acc env).onRaise (λx=>do noteFrame x env;theTreesLotGoes x)) _ _ s;refine wpAny_noted ?_;rw [pD];refine af (wpAny_standAt (af (aI (turn n s hI) (λr s₁ h₁=>?_) λz_ z_ h'=>h')))
 cases r with
 | none=>exact al h₁
 | some v =>
  refine af (wpAny_of_eq (ht v) ?_);refine af (aI h₁ (λz_ s₂ h₂=>af (aI h₂ (λok s₃ h₃=>?_) λz_ z_ h'=>h')) λz_ z_ h'=>h')
  cases ok with
  | false=>exact al ⟨rfl,h₃⟩
  | true =>
   exact af (af (aI h₃ (λx s₄ h₄=>af (aI h₄ (λz_ s₅ h₅=>al (al ⟨rfl,h₅⟩)) λz_ z_ h'=>h')) λz_ z_ h'=>h'))
theorem yc{elt target iter t2 i2:Expr}{ifs:List Expr}{scope:Scope}{it acc:Value}{R:Result->Shared->Prop}(I:Nat->Shared->Prop)(hs:∀x,foldedSetIterable i2 env x=pure x)
  (turn:∀n s,I n s->wpAny (model W.prog W.w) A (pyNext it) (λr s₁=>match r with
   | none=>R (.ok .next) s₁
   | some v=>wpAny (model W.prog W.w) A (assign target env v) (λz_ s₂ =>
     wpAny (model W.prog W.w) A (eval i2 env) (λx s₃=>wpAny (model W.prog W.w) A (pyIter x) (λit2 s₄ =>
      codeAny (model W.prog W.w) A (.compStart (.ListComp elt [⟨target,iter,[],0⟩,⟨t2,i2,ifs,0⟩] scope pos) 1 it2 acc env) (λr s₅=>(∃f,r=.ok f)/\∃m,m<n/\I m s₅) s₄)
      (notedBy (model W.prog W.w) A env λe s'=>R (.error e) s') s₃) (notedBy (model W.prog W.w) A env λe s'=>R (.error e) s') s₂) (notedBy (model W.prog W.w) A env λe s'=>R (.error e) s') s₁) (notedBy (model W.prog W.w) A env λe s'=>R (.error e) s') s)
  (n:Nat) (h:I n s) (ht:∀v,letOwnedTupleGo target it v=pure ():=by intro _;rfl) :
  codeAny (model W.prog W.w) A (.compLoop (.ListComp elt [⟨target,iter,[],0⟩,⟨t2,i2,ifs,0⟩] scope pos) 0 it acc env) R s:=by
 refine codeAny_loop rfl I (λn s hI=>?_) n h;show wpAny _ A ((compTurn (.ListComp elt [⟨target,iter,[],0⟩,⟨t2,i2,ifs,0⟩] scope pos) 0 it acc env).onRaise (λx=>do noteFrame x env;theTreesLotGoes x)) _ _ s;refine wpAny_noted ?_;rw [qw];refine af (wpAny_standAt (af (aI (turn n s hI) (λr s₁ h₁=>?_) λz_ z_ h'=>h')))
 cases r with
 | none=>exact al h₁
 | some v =>
  refine af (wpAny_of_eq (ht v) ?_);refine af (aI h₁ (λz_ s₂ h₂=>af (aI h₂ (λx s₃ h₃=>af (wpAny_standAt (af (wpAny_of_eq (hs x) ?_)))) λz_ z_ h'=>h')) λz_ z_ h'=>h');refine af (aT (aI h₃ (λit2 s₄ h₄=>?_) λz_ z_ h'=>h'));refine af (wpAny_runOwn (h:=none) ?_);refine codeAny_mono (R:=λr s₅=>(∃f,r=.ok f)/\∃m,m<n/\I m s₅) ?_ λr s₅ q=>xa q λy hm=>xe y λf e=>?_
  ·have:A.mark none=A:=by obtain ⟨hd,d,fr,gs,u⟩:=A;rfl
   rw [this];exact h₄
  ·subst e;exact al ⟨rfl,hm⟩
end
theorem ty{M:Model}{m:Sem α}{Q':α->Shared->Prop}{E E':Value->Shared->Prop}{P':Prop}{Q:Unit->Shared->Prop}(h:wpAny M A (pure ()) Q E s)(hq:Q () s->P')(g:P'->wpAny M A m Q' E' s):wpAny M A m Q' E' s :=
 λΓ p hΓ=>g (hq (h Γ p hΓ)) Γ p hΓ
noncomputable abbrev oq(C:Hd)(elt:E)(ifs:List E):Nat->Loc->Hp->(List V->Hp->Prop)->Prop:=dY (hO C ifs) (ev C elt)
section
variable{P:ia}{k:Nat}{c:V}{x:Value}
theorem mC.kept{owned:Bool}{ns:List Nat}{own:List Addr}{I:Addr}{St:Nat->Rho->Heap->Prop}(It:mC W owned xs ns σb own I St Mid)(st:St i Z s.heap)(S:bA X Z s ρ' s')(tk:bv W s.heap s'.heap)(hX:∀a∈own,¬X a):St i ρ' s'.heap :=
 It.mono st S tk λa ha o e=>S.keep a o e (hX a ha) (It.apart st a ha).1.2.2
theorem dS.store{D:Addr}{acc:List V}{x:String}{u:Value}{P':Unit->Shared->Prop}(H:dS W env D loc Z J s acc)(ru:aK W s.heap Z v u)(hk:env.kindOf (Str.ofString x)=some .local)
  (h:∀s',bA (λa=>a=env.locals) Z s Z s'->bv W s.heap s'.heap->dS W env D (setL loc x v) Z J s' acc->P' () s'):wpAny (model W.prog W.w) A (storeName env (Str.ofString x) u) P' Er s :=
 H.eok.storeL H.rep ru hk λs' S tk R' O'=>h s' S tk ⟨R',O',H.apart.step S,H.ne,by
  refine dE H.obj λitems ep h1 h2=>?_;exact ⟨items,ep,S.keep _ _ h1 (λhx=>H.ne (.inl hx)) H.apart.2.2,h2.mono tk (aD _)⟩⟩
theorem dS.weaken{D:Addr}{acc:List V}{loc':Loc}(H:dS W env D loc Z J s acc)(h:∀y v,loc' y=some v->loc y=some v):dS W env D loc' Z J s acc :=
 ⟨H.rep,H.eok.weaken h,H.apart,H.ne,H.obj⟩
noncomputable abbrev XX(env:Env)(D:Addr)(own:List Addr):Addr->Prop:=λa=>a=D\/a=env.locals\/a∈own
noncomputable def tD(W:Wd)(env:Env)(D:Addr)(L:Loc)(own:List Addr)(St:Nat->Rho->Heap->Prop)(xs:List V)(gd:Hp->Prop)(x:String)(turn:Nat->Loc->Hp->(List V->Hp->Prop)->Prop)(acc0:List V)(Q:List V->Hp->Prop)(ρd:Rho)(s₀:Shared)(n:Nat)(s':Shared):Prop :=
 ∃ρ' σ' acc i,i<=xs.length/\n=xs.length-i/\bA (XX env D own) ρd s₀ ρ' s'/\bv W s₀.heap s'.heap/\dS W env D L ρ' σ' s' (acc0++acc)/\St i ρ' s'.heap/\dH gd (.name x) L turn acc0.length (xs.drop i) acc σ' Q
noncomputable def ET(W:Wd)(env:Env)(D:Addr)(L:Loc)(own:List Addr)(acc0:List V)(Q:List V->Hp->Prop)(ρd:Rho)(s₀:Shared)(s':Shared):Prop :=
 ∃ρ' σ' acc,bA (XX env D own) ρd s₀ ρ' s'/\bv W s₀.heap s'.heap/\dS W env D L ρ' σ' s' (acc0++acc)/\Q acc σ'
variable{D I:Addr}{L:Loc}{own:List Addr}{ns:List Nat}{St:Nat->Rho->Heap->Prop}{xn:String}{p:Pos}{acc0:List V}{Qc:List V->Hp->Prop}{ρd:Rho}{s₀:Shared}
theorem tw{turn:Nat->Loc->Hp->(List V->Hp->Prop)->Prop}(It:mC W false xs ns σb own I St Mid)(hown:∀a∈own,a≠D/\¬dT env a)(hx:env.kindOf (Str.ofString xn)=some .local)(hh:A.handled=none)
  {n:Nat} (h:tD W env D L own St xs (b8 ns σb) xn turn acc0 Qc ρd s₀ n s)
  {Rn:Shared->Prop} {Rs:Shared->Prop} (h0:∀s₁,ET W env D L own acc0 Qc ρd s₀ s₁->Rn s₁)
  (h1:∀ρa s₁ σa acc i v,n=xs.length-i->i<xs.length->bA (XX env D own) ρd s₀ ρa s₁->bv W s₀.heap s₁.heap->dS W env D (setL L xn v) ρa σa s₁ (acc0++acc)->St (i+1) ρa s₁.heap->
   (turn (acc0.length+acc.length) (setL L xn v) σa λys J=>acc0.length+acc.length+ys.length<big/\dH (b8 ns σb) (.name xn) L turn acc0.length (xs.drop (i+1)) (acc++ys) J Qc)->Rs s₁) :
  wpAny (model W.prog W.w) A (pyNext (.ref I)) (λr s₁=>match r with
   | none=>Rn s₁
   | some v=>wpAny (model W.prog W.w) A (assign (.Name (Str.ofString xn) p) env v) (λz_ s₂=>Rs s₂) Er s₁) Er s:=by
 refine pB h λρa σa acc i hi hn S tk H st hw=>?_;have Bq:∀a∈own,¬(a=env.locals):=λa ha e=>(hown a ha).2 (.inl e);refine Or.elim (cS i xs.length) (λhlt=>?_) (λhge=>?_)
 ·rw [List.drop_eq_getElem_cons hlt] at hw;refine xa hw λsd hw=>It.item hh st H.rep sd (aA hlt) λu s₁ S1 tk1 R1 ru mid=>?_;have H1:dS W env D L ρa σa s₁ (acc0++acc):=H.step S1 tk1 R1 λa ha=>hown a ha;have gg:=It.go (A:=A) (E:=λz_ z_=>True) (target:=.Name (Str.ofString xn) p) (Q:=λz_ s'=>s'=s₁->St (i+1) ρa s₁.heap) (λe=>by exact bF e) mid R1 λs' z_ z_ z_ st' e=>e▸st';refine ty gg (λe=>e rfl) λst1=>wpAny_assign_Name (H1.store ru hx λs₂ S2 tk2 H2=>?_);refine h1 ρa s₂ σa acc i _ hn hlt ((S.trans (S1.weaken λa ha=>.inr (.inr ha))).trans (S2.weaken λa ha=>.inr (.inl ha))) ((tk.trans tk1).trans tk2) H2 (It.kept st1 S2 tk2 Bq) hw
 ·have hi':i=xs.length:=Nat.le_antisymm hi hge;subst hi';rw [List.drop_length] at hw;exact It.done hh st H.rep hw.1 λs₁ S1 tk1 R1=>h0 s₁ ⟨ρa,σa,acc,S.trans (S1.weaken λa ha=>.inr (.inr ha)),tk.trans tk1,H.step S1 tk1 R1 λa ha=>hown a ha,hw.2⟩
theorem sH{elt:E}{ifs:List E}{elt':Expr}{ifs':List Expr}(It:mC W false xs ns σb own I St Mid)(hown:∀a∈own,a≠D/\¬dT env a)(hx:env.kindOf (Str.ofString xn)=some .local)(hL:L xn=none)(hh:A.handled=none)
  (hts:∀{Z J s loc' Q Er},bJ W env loc' Z s.heap->bU W s.heap Z J->hO C ifs loc' J Q->wpAny (model W.prog W.w) A (jv ifs' env) (mD W Z s Q) Er s)
  (helt:∀{Z J s loc' Q Er},bJ W env loc' Z s.heap->bU W s.heap Z J->ev C elt loc' J Q->wpAny (model W.prog W.w) A (eval elt' env) (cu W Z s Q) Er s)
  {RR:Shared->Prop} (hRR:∀s₁,ET W env D L own acc0 Qc ρd s₀ s₁->RR s₁) (n:Nat) (s:Shared) (h:tD W env D L own St xs (b8 ns σb) xn (oq C elt ifs) acc0 Qc ρd s₀ n s) :
  wpAny (model W.prog W.w) A (pyNext (.ref I)) (λr s₁=>match r with
   | none=>RR s₁
   | some v=>wpAny (model W.prog W.w) A (assign (.Name (Str.ofString xn) p) env v) (λz_ s₂ =>
     wpAny (model W.prog W.w) A (jv ifs' env) (λok s₃ =>
      if ok=true then wpAny (model W.prog W.w) A (eval elt' env) (λx s₄ =>
       wpAny (model W.prog W.w) A (call (.builtin "list.append") [.ref D,x]) (λz_ s₅=>∃m,m<n/\tD W env D L own St xs (b8 ns σb) xn (oq C elt ifs) acc0 Qc ρd s₀ m s₅) Er s₄) Er s₃
      else ∃m,m<n/\tD W env D L own St xs (b8 ns σb) xn (oq C elt ifs) acc0 Qc ρd s₀ m s₃) Er s₂) Er s₁) Er s:=by
 have hid:∀v y w,L y=some w->setL L xn v y=some w:=λv y w e=>by
  unfold setL;refine Or.elim (Classical.em (y=xn)) (λq=>?_) (λq=>?_)
  ·subst q;rw [hL] at e;exact cr e
  ·rw [if_neg q];exact e
 have Bq:∀a∈own,¬(a=D):=λa ha e=>(hown a ha).1 e;refine tw It hown hx hh h hRR λρa s₁ σa acc i v hn hlt S tk H st ht=>aI (hts H.eok H.rep ht) (λok s₂ z=>cU z λρb σc S2 R2 hq=>?_) λz_ z_ e=>e;have tk2:=S2.tup0 H.rep;have H2:dS W env D (setL L xn v) ρb σc s₂ (acc0++acc):=H.step S2 tk2 R2 λa ha=>ha.elim;have st2:St (i+1) ρb s₂.heap:=It.kept st S2 tk2 λz_ z_ e=>e
 cases ok with
 | false =>
  rw [if_neg (by decide)];refine xa hq λz_ hq=>?_;rw [bn] at hq;exact ⟨xs.length-(i+1),Dt hn hlt,ρb,σc,acc,i+1,hlt,rfl,S.trans S2.any,tk.trans tk2,H2.weaken (hid v),st2,hq⟩
 | true =>
  rw [if_pos rfl];refine aI (helt H2.eok R2 hq) (λy s₃ u=>cR u λρc σd w S3 R3 rw' hq=>?_) λz_ z_ e=>e;have tk3:=S3.tup0 R2;have H3:dS W env D (setL L xn v) ρc σd s₃ (acc0++acc):=H2.step S3 tk3 R3 λa ha=>ha.elim;have st3:St (i+1) ρc s₃.heap:=It.kept st2 S3 tk3 λz_ z_ e=>e;refine xa hq λhb hq=>?_;refine H3.app rw' (by rw [aH];dsimp only [List.length_singleton] at hb;exact Nat.lt_of_succ_lt hb) λs₄ S4 tk4 H4=>⟨xs.length-(i+1),Dt hn hlt,ρc,σd,acc++[w],i+1,hlt,rfl,((S.trans S2.any).trans S3.any).trans (S4.weaken λa ha=>.inl ha),((tk.trans tk2).trans tk3).trans tk4,?_,It.kept st3 S4 tk4 Bq,hq⟩
  rw [<-bi];exact H4.weaken (hid v)
end
noncomputable def fW(env:Env):List (Str×NameKind)->List (Str×Addr)->List (Str×Addr)
 | [],cs=>cs
 | (n,k)::r,cs=>fW env r (if (k==NameKind.free)=true then (match env.cells.lookup n with | some c=>(n,c)::cs | none=>cs) else cs)
theorem mI{env:Env}:∀{names:List (Str×NameKind)} {cs:List (Str×Addr)},(∀n,(n,NameKind.free)∈names->∃c,env.cells.lookup n=some c)->
  (forIn names cs λx r=>if (x.2==NameKind.free)=true then do let c <-cellOf env x.1;pure (ForInStep.yield ((x.1,c)::r)) else pure (ForInStep.yield r))=(pure (fW env names cs):Sem (List (Str×Addr)))
 | [],cs,_=>rfl
 | (n,k)::r,cs,h=>by
  rw [List.forIn_cons]
  cases hk:(k==NameKind.free) with
  | true =>
   have:k=.free:=by simpa using hk
   subst this;refine xe (h n ai) λc hc=>?_;have ih:=mI (env:=env) (names:=r) (cs:=(n,c)::cs) λm hm=>h m (aj _ hm);dsimp only [cellOf,fW];rw [hc];exact ih
  | false =>
   have ih:=mI (env:=env) (names:=r) (cs:=cs) λm hm=>h m (aj _ hm);dsimp only [fW];rw [hk];exact ih
theorem xy{sc:Scope}(h:∀n,(n,NameKind.free)∈sc.names->∃c,env.cells.lookup n=some c):closureFor sc env=pure (fW env sc.names []):=by
 have:=mI (env:=env) (names:=sc.names) (cs:=[]) h;refine Eq.trans (congrArg (·>>=_) (?_:_=(pure (fW env sc.names []):Sem (List (Str×Addr))))) rfl;exact this
theorem jK{env:Env}:∀{names:List (Str×NameKind)} {cs:List (Str×Addr)},(∀n c,cs.lookup n=some c->env.cells.lookup n=some c)->
  (∀n c,(fW env names cs).lookup n=some c->env.cells.lookup n=some c)/\(∀n,((n,NameKind.free)∈names\/(cs.lookup n).isSome)->∀c,env.cells.lookup n=some c->(fW env names cs).lookup n=some c)
 | [],cs,h=>⟨h,λn hn c hc=>by
  refine Or.elim hn (λhn=>?_) (λhn=>?_)
  ·cases hn
  ·refine xe (Option.isSome_iff_exists.mp hn) λc' e=>?_;have:=h n c' e;rw [hc] at this;cases this;exact e⟩
 | (m,k)::r,cs,h=>by
  dsimp only [fW]
  cases hk:(k==NameKind.free) with
  | true =>
   have:k=.free:=by simpa using hk
   subst this;rw [if_pos rfl]
   cases hc:env.cells.lookup m with
   | some c =>
    have h':∀n c',((m,c)::cs).lookup n=some c'->env.cells.lookup n=some c':=λn c' e=>by
     rw [List.lookup_cons] at e
     cases q:n==m with
     | true=>rw [q] at e;cases e;rw [eq_of_beq q];exact hc
     | false=>rw [q] at e;exact h n c' e
    refine xa (jK (env:=env) (names:=r) (cs:=(m,c)::cs) h') λh1 h2=>⟨h1,λn hn c' hc'=>h2 n ?_ c' hc'⟩
    refine Or.elim hn (λhn=>?_) (λhn=>?_)
    ·refine Or.elim (aO.mp hn) (λe=>?_) (λhn=>?_)
     ·cases e;right;simp
     ·exact .inl hn
    ·right;rw [List.lookup_cons]
     cases q:n==m with
     | true=>rfl
     | false=>exact hn
   | none =>
    refine xa (jK (env:=env) (names:=r) (cs:=cs) h) λh1 h2=>⟨h1,λn hn c' hc'=>h2 n ?_ c' hc'⟩
    refine Or.elim hn (λhn=>?_) (λhn=>?_)
    ·refine Or.elim (aO.mp hn) (λe=>?_) (λhn=>?_)
     ·cases e;rw [hc] at hc';exact cr hc'
     ·exact .inl hn
    ·exact .inr hn
  | false =>
   rw [if_neg (by decide)];refine xa (jK (env:=env) (names:=r) (cs:=cs) h) λh1 h2=>⟨h1,λn hn c' hc'=>h2 n ?_ c' hc'⟩
   refine Or.elim hn (λhn=>?_) (λhn=>?_)
   ·refine Or.elim (aO.mp hn) (λe=>?_) (λhn=>?_)
    ·cases e;simp at hk
    ·exact .inl hn
   ·exact .inr hn
theorem n8{nm:Nm}{n:Str}:∀{names:Nm},(dM nm names).lookup n=(names.lookup n).map λk=>if (k==NameKind.free&&nm.lookup n==some NameKind.cell)=true then NameKind.cell else k
 | []=>rfl
 | (m,k)::r=>by
  have ih:=n8 (nm:=nm) (n:=n) (names:=r);unfold dM at ih ⊢;rw [List.map_cons];have e:(if (k==NameKind.free&&nm.lookup m==some NameKind.cell)=true then (m,NameKind.cell) else (m,k))=(m,if (k==NameKind.free&&nm.lookup m==some NameKind.cell)=true then NameKind.cell else k):=by split<;>rfl
  show List.lookup n ((if (k==NameKind.free&&nm.lookup m==some NameKind.cell)=true then (m,NameKind.cell) else (m,k))::_)=_;rw [e,List.lookup_cons,List.lookup_cons]
  cases q:n==m with
  | true=>rw [<-eq_of_beq q];rfl
  | false=>exact ih
theorem fC{sc:Scope}{ns:List String}(h:eN nm sc ns=true):sc.kind=.function/\(∀x∈ns,sc.names.lookup (Str.ofString x)=some .local)/\
  (∀y∈sc.names,y.2≠.cell)/\(∀y∈sc.names,y.2=.local->sc.names.lookup y.1=some .local)/\(∀n,(n,NameKind.local)∈sc.names->(∃x∈ns,n=Str.ofString x)\/n=Str.ofString ".0")/\(∀n,(n,NameKind.free)∈sc.names->nm.lookup n=some .cell):=by
 unfold eN at h;simp only [Bool.and_eq_true,decide_eq_true_eq,List.all_eq_true] at h;refine xa h λq h3=>xa q λh1 h2=>⟨h1,h2,λy hy e=>?_,λy hy e=>?_,λn hn=>?_,λn hn=>?_⟩
 ·obtain ⟨n,k⟩:=y;subst e;have:=h3 _ hy;exact bF this
 ·obtain ⟨n,k⟩:=y;subst e;have:=h3 _ hy;simp at this;exact this.1
 ·have:=h3 _ hn;simp only [Bool.and_eq_true,Bool.or_eq_true,List.any_eq_true,beq_iff_eq] at this;exact this.2
 ·have:=h3 _ hn;simpa using this
section
variable{P:ia}{k:Nat}{c:V}{x:Value}
theorem jr{sc:Scope}{cl:List (Str×Addr)}{Ca:Addr}(hn:env.scope.names=nm)(hk:env.scope.kind=.function):(compEnvC sc cl Ca env).scope.names=dM nm sc.names:=by
 refine List.map_congr_left λy hy=>?_;obtain ⟨n,k⟩:=y;show (if (k==NameKind.free&&env.scope.kind==.function&&env.kindOf n==some .cell)=true then _ else _)=_;rw [hk,show env.kindOf n=nm.lookup n by rw [<-hn];rfl];simp
theorem mem_of_lookup{n:Str}{k:NameKind}:∀{l:Nm},l.lookup n=some k->(n,k)∈l
 | [],h=>by exact cr h
 | (m,k')::r,h=>by
  rw [List.lookup_cons] at h
  cases q:n==m with
  | true=>rw [q] at h;cases h;rw [eq_of_beq q];exact ai
  | false=>rw [q] at h;exact aj _ (mem_of_lookup h)
theorem bJ.comp{sc:Scope}{ns:List String}{Ca:Addr}(O:bJ W env loc Z s.heap)(hn:env.scope.names=nm)(hs:eN nm sc ns=true)(hns:s.heap.Ns Ca λz_=>none)(ap:cE W Z s.heap Ca)(hne:¬dT env Ca) :
  bJ W (compEnvC sc (fW env sc.names []) Ca env) (cq ns loc) Z s.heap:=by
 refine EP (fC hs) λh1 h2 h3 h4 h5 h6=>?_;have nmk:∀n,env.kindOf n=nm.lookup n:=λn=>by rw [<-hn];rfl
 have kk:∀n,(compEnvC sc (fW env sc.names []) Ca env).kindOf n=(sc.names.lookup n).map λk=>if (k==NameKind.free&&nm.lookup n==some NameKind.cell)=true then NameKind.cell else k:=λn=>by
  show (compEnvC sc (fW env sc.names []) Ca env).scope.names.lookup n=_;rw [jr hn O.kind,n8]
 refine xa (jK (env:=env) (names:=sc.names) (cs:=[]) (λn c e=>by exact cr e)) λc1 c2=>?_;have isCell:∀n,(compEnvC sc (fW env sc.names []) Ca env).kindOf n=some .cell->env.kindOf n=some .cell/\(n,NameKind.free)∈sc.names:=λn e=>by
  rw [kk] at e;refine bO (b0.mp e) λk hk e=>?_;have mem:=mem_of_lookup hk
  split at e
  ·rename_i hc
   simp only [Bool.and_eq_true,beq_iff_eq] at hc;rw [nmk];refine ⟨hc.2,?_⟩;rw [hc.1] at mem;exact mem
  ·subst e;exact absurd rfl (h3 _ mem)
 have hLo:∀y v,cq ns loc y=some v->loc y=some v:=λy v e=>by
  unfold cq at e;split at e
  ·exact cr e
  ·exact e
 refine rT (id hns) λoC esC epC ho hd z_=>?_;have ownc:∀a,dT (compEnvC sc (fW env sc.names []) Ca env) a->a=Ca\/dT env a:=λa ha=>by
  refine Or.elim ha (λe=>?_) (λw=>xe w λn e=>?_)
  ·exact .inl e
  ·exact .inr (.inr ⟨n,c1 n a e⟩)
 refine ⟨h1,O.glob,O.blt,⟨_,hns,λy v hv hk=>?_⟩,λn e=>?_,λy v hv e=>?_,λa ha=>?_,λa ha=>?_,λn c e q=>?_,λn n' c e e'=>O.inj n n' c (c1 _ _ e) (c1 _ _ e')⟩
 ·rw [kk] at hk;refine bO (b0.mp hk) λk hk e=>?_;have mem:=mem_of_lookup hk
  split at e
  ·cases e
  ·subst e;unfold cq at hv;refine Or.elim (h5 _ mem) (λz=>bO z λx hx e=>?_) (λe=>?_)
   ·rw [dc e,if_pos (.inl hx)] at hv;exact cr hv
   ·rw [dc e,if_pos (.inr rfl)] at hv;exact cr hv
 ·exact xa (isCell n e) λe1 e2=>dE (O.cel n e1) λc v q1 q2=>⟨c,v,c2 n (.inl e2) c q1,q2⟩
 ·exact xa (isCell _ e) λe1 e2=>cU (O.val y v (hLo y v hv) e1) λc u q1 q2 q3=>⟨c,u,c2 _ (.inl e2) c q1,q2,q3⟩
 ·refine Or.elim (ownc a ha) (λe=>?_) (λe=>?_)
  ·exact e▸ap
  ·exact O.apart a e
 ·refine Or.elim (ownc a ha) (λe=>?_) (λe=>?_)
  ·subst e;exact ⟨oC,ho,λt=>y6 t λz_ z_ r=>xe r λz_ q=>by rw [hd] at q;cases q⟩
  ·exact O.alive a e
 ·subst q;exact hne (.inr ⟨n,c1 n _ e⟩)
noncomputable def vc(W:Wd)(Z:Rho)(s:Shared)(Q:K1)(acc:Value)(Ca:Addr)(s':Shared):Prop :=
 ∃ρ' σ' a,bA gZ Z s ρ' s'/\bU W s'.heap ρ' σ'/\aK W s'.heap ρ' a acc/\Q a σ'/\(∃m,s'.heap.Ns Ca m)/\cE W ρ' s'.heap Ca/\s.heap.objs.size<=Ca
theorem qx{e:Expr}{sc:Scope}{ns:List String}{it:Expr}{Q2:List V->List Nat->Hp->Prop}{RRR:Value->Addr->Result->Shared->Prop}(O:bJ W env loc Z s.heap)(R:bU W s.heap Z J)(hn:env.scope.names=nm)(hs:eN nm sc ns=true)(hh:A.handled=none)
  (hsrc:wpAny (model W.prog W.w) A (eval it env) (EX W Z s false Q2) Er s)
  (h:∀I own St Mid ρa σa xs ms s₁ D Ca,bA gZ Z s ρa s₁->dS W (compEnvC sc (fW env sc.names []) Ca env) D (cq ns loc) ρa σa s₁ []->mC W false xs ms σa own I St Mid->St 0 ρa s₁.heap->
   (∀a∈own,a≠D/\¬dT (compEnvC sc (fW env sc.names []) Ca env) a)->(∀a,XX (compEnvC sc (fW env sc.names []) Ca env) D own a->s.heap.objs.size<=a)->Q2 xs ms σa->
   codeAny (model W.prog W.w) A (.compStart e 0 (.ref I) (.ref D) (compEnvC sc (fW env sc.names []) Ca env)) (RRR (.ref D) Ca) s₁) :
  wpAny (model W.prog W.w) A (eval it env) (λxv s₁=>wpAny (model W.prog W.w) A (pyIter xv) (λit s₂=>wpAny (model W.prog W.w) A (newList []) (λacc s₃ =>
   wpAny (model W.prog W.w) A (newFunctionEnv sc env.globals (fW env sc.names []) [] env.qual none .none (some env)) (λcenv s₄ =>
    codeAny (model W.prog W.w) A (.compStart e 0 it acc {cenv with scope:=relabel sc env}) (RRR acc cenv.locals) s₄) Er s₃) Er s₂) Er s₁) Er s:=by
 refine EP (fC hs) λh1 h2 h3 h4 h5 h6=>aI hsrc (λxv s₁ x=>rV x λρa σa xs ms S1 R1 hq rdy=>?_) λz_ z_ e=>e;refine rdy A Er _ hh λI s₂ own St Mid S2 R2 It st ho=>?_;refine wpAny_newObj_type (wpAny_newFunctionEnv h3 (by intro y hy;simp at hy) (λh₁ hnsa hsba=>?_) h1);dsimp only at hnsa hsba ⊢;generalize hH2:s₂.heap.push {cls:=.type "list",dict:=none,data:=.seq ([]:List Value).toArray}=H2 at hnsa hsba ⊢;have hC:H2.objs.size=s₂.heap.objs.size+1:=by rw [<-hH2,bN]
 have gE:h₁.objs.size=s₂.heap.objs.size+2:=by rw [hsba.1,bN,hC]
 have hCD:¬(s₂.heap.objs.size=H2.objs.size):=by rw [hC];exact aW (bX _)
 have kk:∀b o,s₂.heap.get? b=some o->h₁.get? b=some o:=λb o e =>
  hsba.extBut b o (by rw [hC];exact aW (Nat.lt_succ_of_lt (bW e))) (aJ _ (hH2▸aJ _ e))
 have hz:s₂.heap.objs.size<=h₁.objs.size:=by rw [gE];exact aN _ _
 have hD:h₁.get? s₂.heap.objs.size=some ⟨.type "list",none,.seq #[] 0,#[]⟩:=hsba.extBut _ _ hCD (aJ _ (hH2▸br _ rfl));have S3:bA gZ ρa s₂ ρa {s₂ with heap:=h₁,toks:=s₂.toks+([]:List (Str×Value)).length}:=cW kk hz;have R3:bU W h₁ ρa σa:=R2.keep kk hz;have tk3:bv W s₂.heap h₁:=λb o e z_ z_=>kk b o e;have SS:bA gZ Z s ρa {s₂ with heap:=h₁,toks:=s₂.toks+([]:List (Str×Value)).length}:=(S1.trans S2).trans S3;have O3:bJ W env loc ρa h₁:=O.step0 R SS;have apD:cE W ρa h₁ s₂.heap.objs.size:=cE.new R2 (ay _) (by rw [gE];exact Nat.lt_add_of_pos_right (by decide));have apC:cE W ρa h₁ H2.objs.size:=cE.new R2 (by rw [hC];exact Nat.le_succ _) (by rw [gE,hC];exact bX _);have s2:s.heap.objs.size<=s₂.heap.objs.size:=am S1.size S2.size;have old:∀a,dT env a->a<s.heap.objs.size:=λa ha=>(O.apart a ha).2.1;have neE:∀a,s.heap.objs.size<=a->¬dT env a:=λa ha q=>absurd (old a q) (ci.mpr ha);have hCs:s.heap.objs.size<=H2.objs.size:=by rw [hC];exact bT s2
 have O4:=bJ.comp (s:={s₂ with heap:=h₁}) O3 hn hs (by simpa using hnsa) apC (neE _ hCs);have own4:∀a,dT (compEnvC sc (fW env sc.names []) H2.objs.size env) a->a=H2.objs.size\/dT env a:=λa ha=>by
  refine Or.elim ha (λe=>?_) (λz=>xe z λn e=>?_)
  ·exact .inl e
  ·exact .inr (.inr ⟨n,(jK (env:=env) (names:=sc.names) (cs:=[]) (λn c e=>by exact cr e)).1 n a e⟩)
 have ownlt:∀a∈own,a<s₂.heap.objs.size:=λa ha=>(It.apart st a ha).1.2.1;refine h I own St Mid ρa σa xs ms _ s₂.heap.objs.size H2.objs.size SS ⟨R3,O4,apD,λq=>?_,⟨_,_,hD,.nil⟩⟩ It (It.kept st S3 tk3 λz_ z_ e=>e) (λa ha=>⟨aW (ownlt a ha),λq=>?_⟩) (λa ha=>?_) hq
 ·refine Or.elim (own4 _ q) (λe=>?_) (λe=>?_)
  ·exact hCD e
  ·exact neE _ s2 e
 ·refine Or.elim (own4 _ q) (λe=>?_) (λe=>?_)
  ·have:=ownlt a ha;rw [e,hC] at this;exact absurd this (ci.mpr (Nat.le_succ _))
  ·exact neE _ (ho a ha) e
 ·refine Or.elim ha (λe=>?_) (λu=>Or.elim u (λe=>?_) (λe=>?_))
  ·rw [e];exact s2
  ·rw [e];exact hCs
  ·exact ho a e
theorem vD{D Ca:Addr}{sc:Scope}{cl:List (Str×Addr)}{own:List Addr}{L:Loc}{ρa:Rho}{s₁:Shared}(S:bA gZ Z s ρa s₁)(hX:∀a,XX (compEnvC sc cl Ca env) D own a->s.heap.objs.size<=a)
  (h:ET W (compEnvC sc cl Ca env) D L own [] (λacc J=>Q (.obj J.length) (J++[.list acc])) ρa s₁ s'):vc W Z s Q (.ref D) Ca s':=by
 refine cR h λρ' σ' acc S' tk H hq=>?_;rw [List.nil_append] at H;refine dE H.obj λitems ep ho hr=>?_;have S2:bA gZ Z s ρ' s':=(S.any.trans S').drop λa ha=>.inr (hX a ha);refine bO H.eok.ns λm hm z_=>?_;have apC:=H.eok.apart Ca (.inl rfl);have neq:¬D=Ca:=λe=>H.ne (.inl e);have rO:ml W s'.heap (ρ'++[(D,D)]) (D,D) (.list acc):=⟨rfl,items,ep,ho,hr.mono (bv.refl _ _) (cw ..)⟩
 refine ⟨ρ'++[(D,D)],σ'++[.list acc],.obj σ'.length,mS S2 (hX D (.inl rfl)),Ck H.rep H.apart rO,.obj (d:=D) ?_,hq,⟨m,hm⟩,⟨apC.1,apC.2.1,λn p e=>?_⟩,hX Ca (.inr (.inl rfl))⟩
 ·rw [<-H.rep.len,aL (ay _)];simp
 ·refine Or.elim (cS n ρ'.length) (λhl=>?_) (λhl=>?_)
  ·rw [au hl] at e;exact apC.2.2 n p e
  ·rw [aL hl] at e;have:n-ρ'.length=0:=by have:=(aE.mp e).1;simp at this;omega
   rw [this] at e;simp at e;subst e;exact ⟨neq,neq⟩
end
section
variable{P:ia}{k:Nat}{c:V}{x:Value}
theorem jz{elt g0 target iter:Expr}{i0:Expr}{ifs:List Expr}{scope:Scope}{it acc:Value}{R:Result->Shared->Prop}
  (h0:codeAny (model W.prog W.w) A (.compLoop (.ListComp elt [⟨g0,i0,[],0⟩,⟨target,iter,ifs,0⟩] scope pos) 1 it acc env) R s)
  (h:wpAny (model W.prog W.w) A (pyIter it) (λit' s'=>codeAny (model W.prog W.w) A (.compLoop (.ListComp elt [⟨g0,i0,[],0⟩,⟨target,iter,ifs,0⟩] scope pos) 1 it' acc env) R s')
   (notedBy (model W.prog W.w) A env λx s'=>R (.error x) s') s) :
  codeAny (model W.prog W.w) A (.compStart (.ListComp elt [⟨g0,i0,[],0⟩,⟨target,iter,ifs,0⟩] scope pos) 1 it acc env) R s:=by
 refine codeAny_of_tree (wpAny_notedAt (af (wpAny_askSetting (wpAny_ite ?_))))
 split
 ·first
   | exact af (al (al (And.intro rfl h0)))
   | exact al (And.intro rfl h0)
 ·first
   | exact af (wpAny_rule (af (wpAny_standAt (af (aI h (λit' s' h'=>al (And.intro rfl h')) λz_ z_ x=>x)))))
   | (refine af (wpAny_rule ?_);show wpAny _ _ (standAt iter.pos >>=_) _ _ s;exact af (wpAny_standAt (af (aI h (λit' s' h'=>al (And.intro rfl h')) λz_ z_ x=>x))))
theorem Aj{elt:E}{ifs:List E}{elt' it:Expr}{ifs':List Expr}{xn:String}{p:Pos}{sc:Scope}{RRR:Value->Addr->Result->Shared->Prop}(O:bJ W env loc Z s.heap)(R:bU W s.heap Z J)(hn:env.scope.names=nm)(hs:eN nm sc [xn]=true)(hh:A.handled=none)
  (hsrc:wpAny (model W.prog W.w) A (eval it env) (EX W Z s false λxs ms J=>dH (b8 ms J) (.name xn) (cq [xn] loc) (oq C elt ifs) 0 xs [] J (iV Q)) Er s)
  (hts:∀{env Z J s loc' Q Er},env.scope.names=dM nm sc.names->bJ W env loc' Z s.heap->bU W s.heap Z J->hO C ifs loc' J Q->wpAny (model W.prog W.w) A (jv ifs' env) (mD W Z s Q) Er s)
  (helt:∀{env Z J s loc' Q Er},env.scope.names=dM nm sc.names->bJ W env loc' Z s.heap->bU W s.heap Z J->ev C elt loc' J Q->wpAny (model W.prog W.w) A (eval elt' env) (cu W Z s Q) Er s)
  (hR:∀acc Ca s',vc W Z s Q acc Ca s'->RRR acc Ca (.ok .next) s') :
  wpAny (model W.prog W.w) A (eval it env) (λxv s₁=>wpAny (model W.prog W.w) A (pyIter xv) (λita s₂=>wpAny (model W.prog W.w) A (newList []) (λacc s₃ =>
   wpAny (model W.prog W.w) A (newFunctionEnv sc env.globals (fW env sc.names []) [] env.qual none .none (some env)) (λcenv s₄ =>
    codeAny (model W.prog W.w) A (.compStart (.ListComp elt' [⟨.Name (Str.ofString xn) p,it,ifs',0⟩] sc pos) 0 ita acc {cenv with scope:=relabel sc env}) (RRR acc cenv.locals) s₄) Er s₃) Er s₂) Er s₁) Er s:=by
 refine qx O R hn hs hh hsrc λI own St Mid ρa σa xs ms s₁ D Ca S H It st hown hX hq=>?_;have hk:(compEnvC sc (fW env sc.names []) Ca env).kindOf (Str.ofString xn)=some .local:=lookup_relabel_local ((fC hs).2.1 xn ai);have hL:cq [xn] loc xn=none:=if_pos (.inl ai);have loop:codeAny (model W.prog W.w) A (.compLoop (.ListComp elt' [⟨.Name (Str.ofString xn) p,it,ifs',0⟩] sc pos) 0 (.ref I) (.ref D) (compEnvC sc (fW env sc.names []) Ca env)) (RRR (.ref D) Ca) s₁:=by
  refine codeAny_compLoop_tests (tD W (compEnvC sc (fW env sc.names []) Ca env) D (cq [xn] loc) own St xs (b8 ms σa) xn (oq C elt ifs) [] (iV Q) ρa s₁)
   (λn s₂ hI=>sH It hown hk hL hh (λO' R' h'=>hts (jr hn O.kind) O' R' h') (λO' R' h'=>helt (jr hn O.kind) O' R' h') (λs₃ he=>hR _ _ _ (vD S hX he)) n s₂ hI) xs.length
   ⟨ρa,σa,[],0,aC _,rfl,bA.refl ..,bv.refl _ _,H,st,hq⟩
 exact codeAny_compStart_list loop (It.self st loop)
noncomputable abbrev pz(C:Hd)(l':List E)(k':oB)(xn':String)(elt:E)(ifs:List E):Nat->Loc->Hp->(List V->Hp->Prop)->Prop:=uf k' (.name xn') (rX C l') (oq C elt ifs)
theorem Al{elt:E}{ifs l':List E}{k':oB}{elt' it it2:Expr}{ifs':List Expr}{xn xn':String}{p p':Pos}{sc:Scope}{RRR:Value->Addr->Result->Shared->Prop}(O:bJ W env loc Z s.heap)(R:bU W s.heap Z J)(hn:env.scope.names=nm)(hs:eN nm sc [xn,xn']=true)(hne:xn≠xn')(hh:A.handled=none)
  (hsrc:wpAny (model W.prog W.w) A (eval it env) (EX W Z s false λxs ms J=>dH (b8 ms J) (.name xn) (cq [xn,xn'] loc) (pz C l' k' xn' elt ifs) 0 xs [] J (iV Q)) Er s)
  (hs2:∀env x,foldedSetIterable it2 env x=pure x)
  (hsrc2:∀{env Z J s loc' Q2 Er},env.scope.names=dM nm sc.names->bJ W env loc' Z s.heap->bU W s.heap Z J->(rX C l' loc' J λvs' J=>dn (eA k' vs' J) λq=>Q2 q.1 q.2 J)->wpAny (model W.prog W.w) A (eval it2 env) (EX W Z s false Q2) Er s)
  (hts:∀{env Z J s loc' Q Er},env.scope.names=dM nm sc.names->bJ W env loc' Z s.heap->bU W s.heap Z J->hO C ifs loc' J Q->wpAny (model W.prog W.w) A (jv ifs' env) (mD W Z s Q) Er s)
  (helt:∀{env Z J s loc' Q Er},env.scope.names=dM nm sc.names->bJ W env loc' Z s.heap->bU W s.heap Z J->ev C elt loc' J Q->wpAny (model W.prog W.w) A (eval elt' env) (cu W Z s Q) Er s)
  (hR:∀acc Ca s',vc W Z s Q acc Ca s'->RRR acc Ca (.ok .next) s') :
  wpAny (model W.prog W.w) A (eval it env) (λxv s₁=>wpAny (model W.prog W.w) A (pyIter xv) (λita s₂=>wpAny (model W.prog W.w) A (newList []) (λacc s₃ =>
   wpAny (model W.prog W.w) A (newFunctionEnv sc env.globals (fW env sc.names []) [] env.qual none .none (some env)) (λcenv s₄ =>
    codeAny (model W.prog W.w) A (.compStart (.ListComp elt' [⟨.Name (Str.ofString xn) p,it,[],0⟩,⟨.Name (Str.ofString xn') p',it2,ifs',0⟩] sc pos) 0 ita acc {cenv with scope:=relabel sc env}) (RRR acc cenv.locals) s₄) Er s₃) Er s₂) Er s₁) Er s:=by
 refine qx O R hn hs hh hsrc λI own St Mid ρa σa xs ms s₁ D Ca S H It st hown hX hq=>?_;have hk:(compEnvC sc (fW env sc.names []) Ca env).kindOf (Str.ofString xn)=some .local:=lookup_relabel_local ((fC hs).2.1 xn ai);have hk':(compEnvC sc (fW env sc.names []) Ca env).kindOf (Str.ofString xn')=some .local:=lookup_relabel_local ((fC hs).2.1 xn' (by simp));have hL:cq [xn,xn'] loc xn=none:=if_pos (.inl ai);have hL':cq [xn,xn'] loc xn'=none:=if_pos (.inl (by simp));have hnn:=jr (cl:=fW env sc.names []) (sc:=sc) (Ca:=Ca) hn O.kind;generalize hce:compEnvC sc (fW env sc.names []) Ca env=cenv at *;have loop:codeAny (model W.prog W.w) A (.compLoop (.ListComp elt' [⟨.Name (Str.ofString xn) p,it,[],0⟩,⟨.Name (Str.ofString xn') p',it2,ifs',0⟩] sc pos) 0 (.ref I) (.ref D) cenv) (RRR (.ref D) Ca) s₁:=by
  refine yc (tD W cenv D (cq [xn,xn'] loc) own St xs (b8 ms σa) xn (pz C l' k' xn' elt ifs) [] (iV Q) ρa s₁) (hs2 _) (λn s₂ hI=>?_) xs.length
   ⟨ρa,σa,[],0,aC _,rfl,bA.refl ..,bv.refl _ _,H,st,hq⟩
  refine tw It hown hk hh hI (λs₃ he=>hR _ _ _ (by subst hce;exact vD S hX he)) λρc s₃ σd acc i v hni hlt S3 tk3 H3 st3 ht=>?_;rw [List.nil_append] at H3;rw [List.length_nil,Nat.zero_add] at ht;refine aI (hsrc2 (Q2:=λys ms' J=>dH (b8 ms' J) (.name xn') (setL (cq [xn,xn'] loc) xn v) (oq C elt ifs) acc.length ys [] J λys J=>acc.length+ys.length<big/\dH (b8 ms σa) (.name xn) (cq [xn,xn'] loc) (pz C l' k' xn' elt ifs) 0 (xs.drop (i+1)) (acc++ys) J (iV Q)) hnn H3.eok H3.rep ht) (λxv s₄ z=>rV z λρe σe ys ms4 S4 R4 hq4 rdy=>?_) λz_ z_ e=>e;refine rdy A _ _ hh λI5 s₅ own5 St5 Mid5 S5 R5 It5 st5 ho5=>?_;have S35:bA gZ ρc s₃ ρe s₅:=S4.trans S5;have tk35:=S35.tup0 H3.rep;have H5:dS W cenv D (setL (cq [xn,xn'] loc) xn v) ρe σe s₅ acc:=H3.step S35 tk35 R5 λa ha=>ha.elim;have stO:St (i+1) ρe s₅.heap:=It.kept st3 S35 tk35 λz_ z_ e=>e;have IZ:∀a,s₃.heap.objs.size<=a->¬dT cenv a:=λa ha q=>absurd (H3.eok.apart a q).2.1 (ci.mpr ha);have hown5:∀a∈own5,a≠D/\¬dT cenv a:=λa ha=>⟨λe=>absurd (e▸H3.apart.2.1:(a:Nat)<s₃.heap.objs.size) (ci.mpr (ho5 a ha)),IZ a (ho5 a ha)⟩
  have hLx:setL (cq [xn,xn'] loc) xn v xn'=none:=by unfold setL;rw [if_neg (bg hne)];exact hL'
  have fin:∀(r:Result) s₆,(∃f,r=Except.ok f/\ET W cenv D (setL (cq [xn,xn'] loc) xn v) own5 acc (λys J=>acc.length+ys.length<big/\dH (b8 ms σa) (.name xn) (cq [xn,xn'] loc) (pz C l' k' xn' elt ifs) 0 (xs.drop (i+1)) (acc++ys) J (iV Q)) ρe s₅ s₆)->
    (∃f,r=Except.ok f)/\∃m,m<n/\tD W cenv D (cq [xn,xn'] loc) own St xs (b8 ms σa) xn (pz C l' k' xn' elt ifs) [] (iV Q) ρa s₁ m s₆:=λr s₆ u=>bO u λf hr t=>fE t λρg σg ys' S6 tk6 H6 hb hq6=>by
   refine ⟨⟨f,hr⟩,xs.length-(i+1),Dt hni hlt,ρg,σg,acc++ys',i+1,hlt,rfl,S3.trans ((S35.any.trans S6).drop λa ha=>?_),(tk3.trans tk35).trans tk6,?_,It.kept stO S6 tk6 λa ha q=>?_,hq6⟩
   ·refine Or.elim ha (λe=>?_) (λk=>Or.elim k (λe=>?_) (λe=>?_))
    ·exact .inl (.inl e)
    ·exact .inl (.inr (.inl e))
    ·exact .inr (ho5 a e)
   ·rw [List.nil_append];exact H6.weaken λy w e=>by
     unfold setL;by_cases q:y=xn
     ·subst q;rw [hL] at e;cases e
     ·rw [if_neg q];exact e
   ·refine Or.elim q (λe=>?_) (λj=>Or.elim j (λe=>?_) (λe=>?_))
    ·exact (hown a ha).1 e
    ·exact (hown a ha).2 (.inl e)
    ·exact absurd (It.apart st3 a ha).1.2.1 (ci.mpr (ho5 a e))
  have loop2:codeAny (model W.prog W.w) A (.compLoop (.ListComp elt' [⟨.Name (Str.ofString xn) p,it,[],0⟩,⟨.Name (Str.ofString xn') p',it2,ifs',0⟩] sc pos) 1 (.ref I5) (.ref D) cenv)
    (λr s₆=>(∃f,r=Except.ok f)/\∃m,m<n/\tD W cenv D (cq [xn,xn'] loc) own St xs (b8 ms σa) xn (pz C l' k' xn' elt ifs) [] (iV Q) ρa s₁ m s₆) s₅:=by
   refine wi (tD W cenv D (setL (cq [xn,xn'] loc) xn v) own5 St5 ys (b8 ms4 σe) xn' (oq C elt ifs) acc (λys J=>acc.length+ys.length<big/\dH (b8 ms σa) (.name xn) (cq [xn,xn'] loc) (pz C l' k' xn' elt ifs) 0 (xs.drop (i+1)) (acc++ys) J (iV Q)) ρe s₅)
    (λn6 s₆ hI6=>sH It5 hown5 hk' hLx hh (λO' R' h'=>hts hnn O' R' h') (λO' R' h'=>helt hnn O' R' h') (λs₇ he=>fin _ _ ⟨_,rfl,he⟩) n6 s₆ hI6) ys.length
    ⟨ρe,σe,[],0,aC _,rfl,bA.refl ..,bv.refl _ _,by rw [bn];exact H5,st5,hq4⟩
  exact jz loop2 (It5.self st5 loop2)
 exact codeAny_compStart_list loop (It.self st loop)
end
noncomputable abbrev cj(W:Wd)(P:ia)(C:Hd)(A:Around)(e:E):Prop:=∀{x:Expr} {nm:Nm} {env:Env} {loc:Loc} {Z:Rho} {J:Hp} {s:Shared} {Q:K1} {Er:Value->Shared->Prop},
 cy P nm e x=true->env.scope.names=nm->bJ W env loc Z s.heap->bU W s.heap Z J->ev C e loc J Q->wpAny (model W.prog W.w) A (eval x env) (cu W Z s Q) Er s
noncomputable abbrev jc(W:Wd)(P:ia)(C:Hd)(A:Around)(l:List E):Prop:=∀{xs:List Expr} {pos:Pos} {nm:Nm} {env:Env} {loc:Loc} {Z:Rho} {J:Hp} {s:Shared} {Q:List V->Hp->Prop} {Er:Value->Shared->Prop},
 cY P nm l xs=true->env.scope.names=nm->bJ W env loc Z s.heap->bU W s.heap Z J->rX C l loc J Q->wpAny (model W.prog W.w) A (spliced (backTo pos (starEach xs env))) (λvs s'=>vs.length=xs.length/\qb W Z s Q vs s') Er s
inductive pc(W:Wd)(h:Heap)(Z:Rho):List (V×V)->List (Value×Value)->Prop
 | nil:pc W h Z [] []
 | cons {a b:V} {x y:Value} {l:List (V×V)} {r:List (Value×Value)}:aK W h Z a x->aK W h Z b y->pc W h Z l r->pc W h Z ((a,b)::l) ((x,y)::r)
theorem pc.mono{W:Wd}{h h':Heap}{Z ρ':Rho}(k:bv W h h')(p:Z <+:ρ'){l:List (V×V)}{r:List (Value×Value)}(x:pc W h Z l r):pc W h' ρ' l r:=by
 induction x with
 | nil=>exact .nil
 | cons a b _ ih=>exact .cons (a.mono k p) (b.mono k p) ih
noncomputable abbrev HJ(W:Wd)(Z:Rho)(s:Shared)(Q:List (V×V)->Hp->Prop)(vs:List (Value×Value))(s':Shared):Prop :=
 ∃ρ' σ' l,bA gZ Z s ρ' s'/\bU W s'.heap ρ' σ'/\pc W s'.heap ρ' l vs/\Q l σ'
noncomputable abbrev vh(W:Wd)(P:ia)(C:Hd)(A:Around)(l:List (E×E)):Prop:=∀{ks:List (Option Expr)} {vs:List Expr} {pos:Pos} {nm:Nm} {env:Env} {loc:Loc} {Z:Rho} {J:Hp} {s:Shared} {Q:List (V×V)->Hp->Prop} {Er:Value->Shared->Prop},
 sD P nm l ks vs=true->env.scope.names=nm->bJ W env loc Z s.heap->bU W s.heap Z J->HX C l loc J Q->wpAny (model W.prog W.w) A (evalPairs (pairTrees ks vs env pos)) (HJ W Z s Q) Er s
noncomputable abbrev jx(W:Wd)(P:ia)(C:Hd)(A:Around)(e:E):Prop:=∀{x:Expr} {nm:Nm} {env:Env} {loc:Loc} {Z:Rho} {J:Hp} {s:Shared} {Q:Bool->Hp->Prop} {Er:Value->Shared->Prop},
 cy P nm e x=true->env.scope.names=nm->bJ W env loc Z s.heap->bU W s.heap Z J->u3 C e loc J Q->wpAny (model W.prog W.w) A (isTrue x env (eval x env)) (mD W Z s Q) Er s
noncomputable abbrev mY(W:Wd)(P:ia)(C:Hd)(A:Around)(l:List E):Prop:=∀{xs:List Expr} {nm:Nm} {env:Env} {loc:Loc} {Z:Rho} {J:Hp} {s:Shared} {Q:Bool->Hp->Prop} {Er:Value->Shared->Prop},
 cY P nm l xs=true->env.scope.names=nm->bJ W env loc Z s.heap->bU W s.heap Z J->hO C l loc J Q->wpAny (model W.prog W.w) A (allTrue .And xs env) (mD W Z s Q) Er s/\wpAny (model W.prog W.w) A (jv xs env) (mD W Z s Q) Er s
noncomputable abbrev vi(W:Wd)(P:ia)(C:Hd)(A:Around)(l:List E):Prop:=∀{xs:List Expr} {nm:Nm} {env:Env} {loc:Loc} {Z:Rho} {J:Hp} {s:Shared} {Q:Bool->Hp->Prop} {Er:Value->Shared->Prop},
 cY P nm l xs=true->env.scope.names=nm->bJ W env loc Z s.heap->bU W s.heap Z J->ED C l loc J Q->wpAny (model W.prog W.w) A (allTrue .Or xs env) (mD W Z s Q) Er s
noncomputable abbrev oE(W:Wd)(P:ia)(C:Hd)(A:Around)(l:List E):Prop:=∀{xs:List Expr} {pos:Pos} {nm:Nm} {env:Env} {loc:Loc} {Z:Rho} {J:Hp} {s:Shared} {Q:K1} {Er:Value->Shared->Prop},
 cY P nm l xs=true->env.scope.names=nm->bJ W env loc Z s.heap->bU W s.heap Z J->CL C l loc J Q->wpAny (model W.prog W.w) A (boolOp pos .And (evalEach xs env)) (cu W Z s Q) Er s
noncomputable abbrev sn(W:Wd)(P:ia)(C:Hd)(A:Around)(l:List E):Prop:=∀{xs:List Expr} {pos:Pos} {nm:Nm} {env:Env} {loc:Loc} {Z:Rho} {J:Hp} {s:Shared} {Q:K1} {Er:Value->Shared->Prop},
 cY P nm l xs=true->env.scope.names=nm->bJ W env loc Z s.heap->bU W s.heap Z J->HW C l loc J Q->wpAny (model W.prog W.w) A (boolOp pos .Or (evalEach xs env)) (cu W Z s Q) Er s
section
variable{P:ia}{k:Nat}{c:V}{x:Value}
theorem BD:cj W P C A (.const v):=λ{x nm env loc Z J s Q Er} hc hn O R h=>by
 exact KA hc R h
theorem zQ{y:String}:cj W P C A (.var y):=λ{x nm env loc Z J s Q Er} hc hn O R h=>by
 refine dB (M:=λx=>wpAny _ _ (eval x env) _ _ _) hc ft λid p hc=>cf h λv hv hq=>?_;have h1:=aG hc;have h2:=aG h1.1;cases eq_of_beq h2.1;exact wpAny_Name (O.load hv (jR hn h2.2) λa ra=>cu.here R ra hq) (mP h1.2)
theorem Ee(X:fJ W P fa mg mb C k A){y:String}:cj W P C A (.glob y v):=λ{x nm env loc Z J s Q Er} hc hn O R h=>by
 refine dB (M:=λx=>wpAny _ _ (eval x env) _ _ _) hc ft λid p hc=>?_;have h1:=aG hc;have h2:=aG h1.1;cases eq_of_beq h2.1;refine bO ((Option.any_eq_true ..).1 h1.2) λw e h3=>?_;cases V.same_eq h3;exact bO (X.ok.gl y _ e) λu hu ru=>um X O R hn h2.2 hu (cu.here R (ru.mono (λa o e z_ z_=>R.top a o e) List.nil_prefix) h)
theorem wF(X:fJ W P fa mg mb C k A){at':String}(ih:cj W P C A e):cj W P C A (.attr e at'):=λ{x nm env loc Z J s Q Er} hc hn O R h=>by
 refine cQ (M:=λx=>wpAny _ _ (eval x env) _ _ _) hc ft λo n p hc=>?_;have h4:=aG hc;have h3:=aG h4.1;have h2:=aG h3.1;cases eq_of_beq h2.1;rw [arm_eval_Attribute,zh h3.2];refine lu (ih h4.2 hn O R h) λρa σa a v s₁ S Ra ra h=>cf h λw hw hq=>af (wpAny_standAt (af (aT (aI (E7 X.ok.wok (qT h2.2) Ra ra hw hq) (λr s₂ h₂=>?_) λz_ z_ e=>e))));exact af (wpAny_letTemporaryGo (al (h₂.trans S)))
theorem zP(X:fJ W P fa mg mb C k A){i:E}(ih:cj W P C A e)(ih':cj W P C A i):cj W P C A (.sub e i):=λ{x nm env loc Z J s Q Er} hc hn O R h=>by
 refine cb (M:=λx=>wpAny _ _ (eval x env) _ _ _) hc ft λo sl p hc=>?_;have hc:=aG hc;exact GA X R (ih hc.1 hn O R h) (λa ρ' σ' s' hq S R'=>ih' hc.2 hn (O.step0 R S) R' hq) λa i σ' h=>vS h
theorem Go{lo hi:Option Int}(ih:cj W P C A e):cj W P C A (.cut e lo hi):=λ{x nm env loc Z J s Q Er} hc hn O R h=>by
 refine cb (M:=λx=>wpAny _ _ (eval x env) _ _ _) hc ft λo sl p hc=>pn (M:=λsl=>wpAny _ _ (eval (.Subscript o sl p) env) _ _ _) hc ft λl h' st p' hc=>?_;have hc:=aG hc;have hd:=aG hc.1;have hd':=aG hd.1;cases Option.isNone_iff_eq_none.mp hd'.1;exact Fj R hd'.2 hd.2 (ih hc.2 hn O R h)
theorem u5{l r:E}{lx rx:Expr}{Za:V->V->Hp->Prop}(ih:cj W P C A l)(ih':cj W P C A r)(hl:cy P nm l lx=true)(hr:cy P nm r rx=true)(hn:env.scope.names=nm)(O:bJ W env loc Z s.heap)(R:bU W s.heap Z J)
  (h:ev C l loc J λv J=>ev C r loc J λw J=>Za v w J) {Qf:Value->Value->Shared->Prop} (hq:∀ρ' σ' v w x y s',bA gZ Z s ρ' s'->bU W s'.heap ρ' σ'->aK W s'.heap ρ' v x->aK W s'.heap ρ' w y->Za v w σ'->Qf x y s') :
  wpAny (model W.prog W.w) A (eval lx env) (λx s₁=>wpAny (model W.prog W.w) A (eval rx env) (λy s₂=>Qf x y s₂) Er s₁) Er s :=
 j2 (ih hl hn O R h) (λρa σa v x s₁ S Ra z_ rv h₁=>j2 (ih' hr hn (O.step0 R S) Ra h₁) (λρb σc w y s₂ Sa Rb tk rw' h₂=>hq ρb σc v w x y s₂ (S.trans Sa) Rb (rv.mono tk Sa.pre) rw' h₂) Ra) R
theorem Gm{op:GS}{l r:E}(ih:cj W P C A l)(ih':cj W P C A r):cj W P C A (.bin op l r):=λ{x nm env loc Z J s Q Er} hc hn O R h=>by
 refine jn (M:=λx=>wpAny _ _ (eval x env) _ _ _) hc ft λlx op' rx p hc=>?_;have h3:=aG hc;have h2:=aG h3.1;cases eq_of_beq h2.1;exact wpAny_BinOp (u5 ih ih' h2.2 h3.2 hn O R h λρ' σ' v w x y s' S R' rv rw' hz=>aI (HQ R' rv rw' hz) (λz_ z_ o=>o.trans S) λz_ z_ e=>e)
theorem Gu(X:fJ W P fa mg mb C k A)(ih:cj W P C A e):cj W P C A (.not e):=λ{x nm env loc Z J s Q Er} hc hn O R h=>by
 refine fB (M:=λx=>wpAny _ _ (eval x env) _ _ _) hc ft λop y p hc=>?_;have hc:=aG hc;cases aB hc.1;refine wpAny_UnaryOp (j2 (ih hc.2 hn O R h) (λρa σa v x s₁ S Ra z_ rv h=>cf h λb hb hq=>not_value (uZ Ra rv hb λt=>?_)) R);exact (cu.tok Ra t (.bool _) hq).trans S
theorem vC{op:ES}{l r:E}{x:Expr}(hc:cy P nm (.cmp op l r) x=true)(k:∀lx op' rx p,op'=sI op->behindInMarks op' rx=false->cy P nm l lx=true->cy P nm r rx=true->M (.Compare lx [op'] [rx] p)):M x :=
 jA hc ft λlx ops rs p hc=>bH (M:=λx=>M (.Compare lx x rs p)) hc ft λop' r1 hc=>bK (M:=λx=>M (.Compare lx (op'::x) rs p)) hc ft λhc =>
  bH (M:=λx=>M (.Compare lx [op'] x p)) hc ft λrx r2 hc=>bK (M:=λx=>M (.Compare lx [op'] (rx::x) p)) hc ft λhc =>
  have h3:=aG hc;have h2:=aG h3.1;have h1:=aG h2.1
  k lx op' rx p (eq_of_beq h1.1) (mP h1.2) h2.2 h3.2
theorem Gn(X:fJ W P fa mg mb C k A){op:ES}{l r:E}(ih:cj W P C A l)(ih':cj W P C A r):cj W P C A (.cmp op l r):=λ{x nm env loc Z J s Q Er} hc hn O R h=>by
 refine vC (M:=λx=>wpAny _ _ (eval x env) _ _ _) hc λlx op' rx p e h1 h2 h3=>?_;subst e;exact wpAny_Compare1 (u5 ih ih' h2 h3 hn O R h λρ' σ' v w x y s' S R' rv rw' h=>cf h λr hr hq=>aI (Cz X.ok.wok.sys X.room R' rv rw' hr hq) (λz_ z_ o=>o.trans S) λz_ z_ e=>e) h1
theorem lD(X:fJ W P fa mg mb C k A){op:ES}{r:Bool}{Q':Value->Shared->Prop}(R:bU W s.heap Z J)(ra:aK W s.heap Z a x)(rb:aK W s.heap Z b y)(h:jL op J a b=some r)
  (hq:∀ρ' s',bA gZ Z s ρ' s'->bU W s'.heap ρ' J->Q' (.bool r) s'):wpAny (model W.prog W.w) A (compareOp (sI op) x y) Q' Er s:=by
 refine aI (Cz (Q:=λv σ'=>v=.bool r/\σ'=J) X.ok.wok.sys X.room R ra rb h (by exact ⟨rfl,rfl⟩)) (λv s' q=>fE q λρ' σ' a S R' ra e1 e2=>?_) λz_ z_ e=>e;subst e1 e2;cases ra;exact hq ρ' s' S R'
theorem sC{a b c:E}{x:Expr}(hc:cy P nm (.chain a b c) x=true)(k:∀lx mx rx p,behindInMarks .Lt rx=false->cy P nm a lx=true->cy P nm b mx=true->cy P nm c rx=true->M (.Compare lx [.LtE,.Lt] [mx,rx] p)):M x :=
 jA hc ft λlx ops rs p hc =>
  have h0:=aG hc
  bH (M:=λx=>M (.Compare lx ops x p)) h0.2 ft λmx r1 hc=>bH (M:=λx=>M (.Compare lx ops (_::x) p)) hc ft λrx r2 hc=>bK (M:=λx=>M (.Compare lx ops (_::_::x) p)) hc ft λhc =>
  have h3:=aG hc;have h2:=aG h3.1;have h1:=aG h2.1
  aB h0.1▸k lx mx rx p (mP h1.1) h1.2 h2.2 h3.2
theorem BB(X:fJ W P fa mg mb C k A){a b c:E}(iha:cj W P C A a)(ihb:cj W P C A b)(ihc:cj W P C A c):cj W P C A (.chain a b c):=λ{x nm env loc Z J s Q Er} hc hn O R h=>by
 refine sC (M:=λx=>wpAny _ _ (eval x env) _ _ _) hc λlx mx rx p h0 h1 h2 h3=>?_
 ·refine Compare_chain (j2 (iha h1 hn O R h) (λρa σa u ux s₁ S Ra z_ ru h₁=>?_) R) h0;have O1:=O.step0 R S;refine chain_link (j2 (ihb h2 hn O1 Ra h₁) (λρb σc v vx s₂ Sa Rb tk rv h=>cf h λr hr h₂=>?_) Ra);refine lD (op:=.le) X Rb (ru.mono tk Sa.pre) rv hr λρc s₃ Sb Re=>wpAny_truthy_bool ?_
  cases r with
  | false=>exact (cu.here Re (.bool _) h₂).trans ((S.trans Sa).trans Sb)
  | true =>
   rw [if_pos rfl];have S12:=(S.trans Sa).trans Sb;refine chain_last (j2 (ihc h3 hn (O.step0 R S12) Re h₂) (λρe σe w wx s₄ Se Rf tka rw' h=>cf h λr hr h₄=>?_) Re);exact lD (op:=.lt) X Rf (rv.mono ((Sb.tup0 Rb).trans tka) (Sb.pre.trans Se.pre)) rw' hr λρf s₅ Sf Rg=>(cu.here Rg (.bool _) h₄).trans ((S12.trans Se).trans Sf)
theorem Gq{c a b:E}(ihc:jx W P C A c)(iha:cj W P C A a)(ihb:cj W P C A b):cj W P C A (.ite c a b):=λ{x nm env loc Z J s Q Er} hc hn O R h=>by
 refine lJ (M:=λx=>wpAny _ _ (eval x env) _ _ _) hc ft λt y z p hc=>?_;have h3:=aG hc;have h1:=aG h3.1;refine wpAny_IfExp (aI (ihc h1.1 hn O R h) (λr s₁ q=>cU q λρa σa S Ra hq=>?_) λz_ z_ e=>e)
 cases r with
 | true=>exact aI (iha h1.2 hn (O.step0 R S) Ra hq) (λz_ z_ o=>o.trans S) λz_ z_ e=>e
 | false=>exact aI (ihb h3.2 hn (O.step0 R S) Ra hq) (λz_ z_ o=>o.trans S) λz_ z_ e=>e
theorem jc.out{l:List E}(ih:jc W P C A l){xs:List Expr}{Q:List V->Hp->Prop}(hc:cY P nm l xs=true)(hn:env.scope.names=nm)(O:bJ W env loc Z s.heap)(R:bU W s.heap Z J)(h:rX C l loc J Q) :
  wpAny (model W.prog W.w) A (spliced (backTo pos (starEach xs env))) (qb W Z s Q) Er s:=aI (ih hc hn O R h) (λz_ z_ o=>o.2) λz_ z_ e=>e
theorem Gs:jc W P C A []:=λ{xs pos nm env loc Z J s Q Er} hc hn O R h=>by
 exact bK (M:=λxs=>wpAny _ _ (spliced (backTo pos (starEach xs env))) (λvs s'=>vs.length=xs.length/\qb W Z s Q vs s') _ _) hc ft λz_=>wpAny_items_nil ⟨rfl,Z,J,[],bA.refl ..,R,.nil,h⟩
theorem D9{l:List E}(ih:cj W P C A e)(ihl:jc W P C A l):jc W P C A (e::l):=λ{xs pos nm env loc Z J s Q Er} hc hn O R h=>by
 refine bH (M:=λxs=>wpAny _ _ (spliced (backTo pos (starEach xs env))) (λvs s'=>vs.length=xs.length/\qb W Z s Q vs s') _ _) hc ft λy ys hc=>?_;have hc:=aG hc
 ·refine wpAny_items_cons (j2 (ih hc.1 hn O R h) (λρa σa v x s₁ S Ra z_ rv h₁=>?_) R) (mj hc.1);refine aI (ihl hc.2 hn (O.step0 R S) Ra h₁) (λvs s₂ q=>y6 q λhl ρb w=>ib w λσc l' Sa Rb r hq=>?_) λz_ z_ e=>e;exact ⟨congrArg Nat.succ hl,ρb,σc,v::l',S.trans Sa,Rb,.cons (rv.mono (Sa.tup0 Ra) Sa.pre) r,hq⟩
theorem zx(h:n<1000):n<=sizeLine:=by rw [sizeLine_eq];omega
theorem Gw{l:List E}(ih:jc W P C A l):cj W P C A (.tup l):=λ{x nm env loc Z J s Q Er} hc hn O R h=>by
 refine ej (M:=λx=>wpAny _ _ (eval x env) _ _ _) hc ft λxs kk p hc=>?_;have hc:=aG hc;refine wpAny_Tuple (aI (ih hc.2 hn O R h) (λvs s₁ q=>y6 q λhl ρa w=>ib w λσa l' S Ra r hq=>⟨?_,?_⟩) λz_ z_ e=>e)
 ·exact zx (hl▸aB hc.1)
 ·exact (cu.tup Ra (t:=s₁.toks) (show bo W _ _ _ vs.toArray.toList from r) hq).trans S
theorem Ef{l:List E}(ih:jc W P C A l):cj W P C A (.list l):=λ{x nm env loc Z J s Q Er} hc hn O R h=>by
 refine q0 (M:=λx=>wpAny _ _ (eval x env) _ _ _) hc ft λxs p hc=>?_;have hc:=aG hc;refine wpAny_List (aI (ih hc.2 hn O R h) (λvs s₁ q=>y6 q λhl ρa w=>ib w λσa l' S Ra r hq=>⟨?_,?_⟩) λz_ z_ e=>e)
 ·exact zx (hl▸aB hc.1)
 ·exact (cu.list Ra (t:=s₁.toks) (show bo W _ _ _ vs.toArray.toList from r) hq).trans S
end
section
variable{P:ia}{k:Nat}{c:V}{x:Value}
theorem yK:vh W P C A []:=λ{ks vs pos nm env loc Z J s Q Er} hc hn O R h=>by
 exact bK (M:=λks=>wpAny _ _ (evalPairs (pairTrees ks vs env pos)) (HJ W Z s Q) _ _) hc ft λz_=>al ⟨Z,J,[],bA.refl ..,R,.nil,h⟩
theorem sF{p:E×E}{l:List (E×E)}{ks:List (Option Expr)}{vs:List Expr}{M:List (Option Expr)->List Expr->Prop}(hc:sD P nm (p::l) ks vs=true)(g:∀k ks v vs,cy P nm p.1 k=true->cy P nm p.2 v=true->sD P nm l ks vs=true->M (some k::ks) (v::vs)):M ks vs :=
 bH (M:=λks=>M ks vs) hc ft λk ks hc=>bH (M:=λvs=>M (k::ks) vs) hc ft λv vs hc=>by
  have h3:=aG hc;have h2:=aG h3.1
  cases k with
  | none=>cases h2.1
  | some k=>exact g k ks v vs h2.1 h2.2 h3.2
theorem sE:∀{l:List (E×E)} {ks:List (Option Expr)} {vs:List Expr},sD P nm l ks vs=true->ks.all (·.isSome)=true/\ks.length=vs.length/\l.length=ks.length
 | [],ks,vs,h=>bK (M:=λks=>ks.all (·.isSome)=true/\ks.length=vs.length/\0=ks.length) h ft λh=>bK (M:=λvs=>_/\0=vs.length/\_) h ft λz_=>⟨rfl,rfl,rfl⟩
 | _::l,ks,vs,h=>sF (M:=λks vs=>ks.all (·.isSome)=true/\ks.length=vs.length/\_=ks.length) h λk ks v vs z_ z_ h=>have h:=sE h;⟨h.1,congrArg Nat.succ h.2.1,congrArg Nat.succ h.2.2⟩
theorem wI{e':E}{l:List (E×E)}(ih:cj W P C A e)(ih':cj W P C A e')(ihl:vh W P C A l):vh W P C A ((e,e')::l):=λ{ks vs pos nm env loc Z J s Q Er} hc hn O R h=>by
 refine sF (M:=λks vs=>wpAny _ _ (evalPairs (pairTrees ks vs env pos)) (HJ W Z s Q) _ _) hc λk ks v vs h1 h2 h3=>?_;show wpAny _ _ (do
  let kv <-eval k env
  let vv <-holding [kv] (do let x <-eval v env;standAt pos;pure x)
  return (kv,vv)::(<-holding [kv,vv] (evalPairs (pairTrees ks vs env pos)))) _ _ _
 refine af (j2 (ih h1 hn O R h) (λρa σa a x s₁ S Ra z_ ra h₁=>af (aT (af (j2 (ih' h2 hn (O.step0 R S) Ra h₁) (λρb σc b y s₂ Sa Rb tk rb h₂=>?_) Ra)))) R);have S12:=S.trans Sa;refine af (wpAny_standAt (al (af (aT (aI (ihl h3 hn (O.step0 R S12) Rb h₂) (λr s₃ q=>cR q λρc σd l' Sb Re rl hq=>?_) λz_ z_ e=>e)))));have tk3:=Sb.tup0 Rb;exact al ⟨ρc,σd,(a,b)::l',S12.trans Sb,Re,.cons (ra.mono (tk.trans tk3) (Sa.pre.trans Sb.pre)) (rb.mono tk3 Sb.pre) rl,hq⟩
theorem DO{l:List (V×V)}{k:V}:(gK l k v).length<=l.length+1:=by
 unfold gK;split
 ·rw [List.length_modify];exact Nat.le_succ _
 ·rw [aH];exact ay _
theorem uU(hu:A.units+8<cLine){D:Addr}{Q':PUnit->Shared->Prop}(ep:Z[n]?=some (D,D)){vs:List (V×V)}:∀{r:List (Value×Value)} {l:List (V×V)} {e:Nat} {s:Shared} {J:Hp},(∀p∈vs,p.1.key=true/\p.1.dep<=6)->l.length+vs.length<2^20->bU W s.heap Z J->pc W s.heap Z vs r->J[n]?=some (.dict l e)->
  (∀s',bA gZ Z s Z s'->bU W s'.heap Z (J.set n (gc vs l e))->Q' PUnit.unit s')->wpAny (model W.prog W.w) A (storeAll D r) Q' Er s:=by
 induction vs with
 | nil =>
  intro r l e s J hk hb R rp es hQ;cases rp;delta storeAll;rw [List.forIn_nil];refine al (hQ s (bA.refl ..) ?_);have:=(aE.mp es).2;show bU W s.heap Z (J.set n (.dict l e));rw [<-this,List.set_getElem_self];exact R
 | cons q vs ih =>
  intro r l e s J hk hb R rp es hQ
  cases rp with
  | cons ra rb rr =>
  delta storeAll;rw [List.forIn_cons];have hkk:=hk _ ai;rw [List.length_cons] at hb;refine af (af (qz (p:=(D,D)) hu R ep es hkk.1 hkk.2 ra rb (ax (aN _ _) hb) λh' t R' S=>al ?_));have hlt:n<J.length:=(aE.mp es).1;refine ih (s:={s with heap:=h',toks:=t}) (λp hp=>hk p (aj _ hp)) (ax (am (bQ DO _) (Nat.le_of_eq (Nat.add_right_comm ..))) (by rw [<-Nat.add_assoc] at hb;exact hb)) R' (rr.mono (S.tup0 R) (aD _)) (List.getElem?_set_self hlt) λs' S' R''=>hQ s' (S.trans S') ?_;rw [List.set_set] at R'';exact R''
theorem Eb(X:fJ W P fa mg mb C k A){l:List (E×E)}(ih:vh W P C A l):cj W P C A (.dict l):=λ{x nm env loc Z J s Q Er} hc hn O R h=>by
 refine qY (M:=λx=>wpAny _ _ (eval x env) _ _ _) hc ft λks vs p hc=>?_;have hc:=aG hc;have hlen:=aB hc.1;have hc:=hc.2;have h5:=sE hc;have hall:=h5.1;have hlv:=h5.2.1;have hu:A.units+8<cLine:=by have:=X.room;omega
 have kk:∀(ob:Obj) b o,s.heap.get? b=some o->(s.heap.push ob).get? b=some o:=λob b o e=>aJ _ e;have hz:∀ob:Obj,s.heap.objs.size<=(s.heap.push ob).objs.size:=λob=>by rw [bN];exact Nat.le_succ _
 have S0:bA gZ Z s Z {s with heap:=s.heap.push {cls:=.type "dict",data:=.dict #[]}}:=cW (t:=s.toks) (kk _) (hz _);have R0:bU W (s.heap.push {cls:=.type "dict",data:=.dict #[]}) Z J:=R.keep (kk _) (hz _);have ap0:cE W Z (s.heap.push {cls:=.type "dict",data:=.dict #[]}) s.heap.objs.size:=cE.new R (ay _) (by rw [bN];exact bX _);have h0:(s.heap.push {cls:=.type "dict",data:=.dict #[]}).get? s.heap.objs.size=some ⟨.type "dict",none,.dict #[] 0,#[]⟩:=br _ rfl;refine Or.elim (Classical.em (ks=[])) (λhne=>?_) (λhne=>?_)
 ·subst hne
  cases vs with
  | cons _ _=>simp at hlv
  | nil =>
   cases l with
   | cons q _=>cases h5.2.2
   | nil =>
    rw [eval_Dict_empty];have h:=h.2.2;refine af (wpAny_standAt ?_);refine wpAny_newObj_type ?_;have rO:ml W (s.heap.push {cls:=.type "dict",data:=.dict #[]}) (Z++[(s.heap.objs.size,s.heap.objs.size)]) (s.heap.objs.size,s.heap.objs.size) (.dict [] 0):=⟨rfl,⟨#[],h0,.nil⟩,by simp⟩
    exact ⟨_,_,.obj J.length,mS S0 (ay _),Ck R0 ap0 rO,.obj (d:=s.heap.objs.size) (by rw [<-R.len,aL (ay _)];simp),h⟩
 ·refine wpAny_Dict_any hall hlv hne hlen (aI (ih (s:={s with heap:=s.heap.push {cls:=.type "dict",data:=.dict #[]}}) hc hn (O.step0 R S0) R0 h) (λvs' s₁ w=>j6 w λρa σa l' Sd Ra rp hk hb hq=>?_) λz_ z_ e=>e);have apD:cE W ρa s₁.heap s.heap.objs.size:=ap0.step Sd;have hD:=Sd.keep _ _ h0 (λq=>q) ap0.2.2;have rO:ml W s₁.heap (ρa++[(s.heap.objs.size,s.heap.objs.size)]) (s.heap.objs.size,s.heap.objs.size) (.dict [] 0):=⟨rfl,⟨#[],hD,.nil⟩,by simp⟩
  have Rb:=Ck Ra apD rO;have Sa:=mS (S0.trans Sd) (ay s.heap.objs.size);have ep:(ρa++[(s.heap.objs.size,s.heap.objs.size)])[σa.length]?=some (s.heap.objs.size,s.heap.objs.size):=by rw [<-Ra.len,aL (ay _)];simp
  refine uU hu ep (l:=[]) (e:=0) hk (by unfold big at hb;simpa using hb) Rb (rp.mono (bv.refl _ _) (cw ..)) (by rw [aL (ay _)];simp) λs₃ Sb Re=>?_;refine ⟨_,_,.obj σa.length,Sa.trans Sb,Re,.obj (d:=s.heap.objs.size) ep,?_⟩;have:(σa++[Ob.dict [] 0]).set σa.length (gc l' [] 0)=σa++[gc l' [] 0]:=by
   rw [List.set_append_right _ _ (ay _)];simp
  rw [this];exact hq
theorem wG(X:fJ W P fa mg mb C k A){f:String}{l:List E}(ih:jc W P C A l):cj W P C A (.call f l):=λ{x nm env loc Z J s Q Er} hc hn O R h=>by
 refine fS (M:=λx=>wpAny _ _ (eval x env) _ _ _) hc λid p args pos e h1 hc=>?_;subst e;have h2:=aG hc;refine cG (X.ok.fn f (qT h2.1)) λa q1 q2 q3=>wpAny_Call_NameR (um X O R hn h1 q1 ?_);exact z2 (vs0:=[]) X R q2 q3 (eY h2.2).1 .nil (ih.out h2.2 hn O R h) λl σ' h'=>h'
theorem Gr(X:fJ W P fa mg mb C k A){f:String}{l:List E}(ih:jc W P C A l):cj W P C A (.new f l):=λ{x nm env loc Z J s Q Er} hc hn O R h=>by
 refine fS (M:=λx=>wpAny _ _ (eval x env) _ _ _) hc λid p args pos e h1 hc=>?_;subst e;have h2:=aG hc;have hm:=qT h2.1;refine dR (X.ok.cls f hm) λCC a c1 c2 c3 c4 z_=>wpAny_Call_NameR (um X O R hn h1 c2 ?_);exact FW X R hm c1 c4 (eY h2.2).1 (ih.out h2.2 hn O R h) λl σ' h'=>h'
theorem A6{cl m:String}{u:Unit}(h:wl J a cl m=some u):∃n l,a=.obj n/\J[n]?=some (.inst cl l)/\nC l m=none:=by
 cases a with
 | obj n =>
  have h:(match J[n]? with | some (.inst c' l)=>(match decide (c'=cl) with | true=>(match nC l m with | none=>some () | some _=>none) | false=>none) | _=>none)=some u:=h
  cases e:J[n]? with
  | none=>rw [e] at h;exact cr h
  | some o =>
   rw [e] at h
   cases o with
   | inst c' l =>
    refine Or.elim (Classical.em (c'=cl)) (λhc=>?_) (λhc=>?_)
    ·subst hc
     cases hm:nC l m with
     | none=>exact ⟨n,l,rfl,e,hm⟩
     | some _=>simp [hm] at h
    ·simp [hc] at h
   | _=>exact cr h
 | _=>exact cr h
theorem Eg(X:fJ W P fa mg mb C k A){cl m:String}{l:List E}(ih:cj W P C A e)(ihl:jc W P C A l):cj W P C A (.meth cl e m l):=λ{x nm env loc Z J s Q Er} hc hn O R h=>by
 refine gI (M:=λx=>wpAny _ _ (eval x env) _ _ _) hc ft λf args kw pos hc=>cQ (M:=λf=>wpAny _ _ (eval (.Call f args kw pos) env) _ _ _) hc ft λo n apos hc=>bK (M:=λkw=>wpAny _ _ (eval (.Call _ args kw pos) env) _ _ _) hc ft λhc=>?_;have h6:=aG hc;have h5:=aG h6.1;have h4:=aG h5.1;have h3:=aG h4.1;have h2:=aG h3.1;have h1:=aG h2.1;cases eq_of_beq h1.1;exact Dv X R (qT h1.2) h2.2 h3.2 (aB h4.2) (eY h6.2 (pos:=pos)).2 (eY h6.2).1 (ih h5.2 hn O R h) (λa ρ' σ' s' h S R'=>cf h λu e hq=>have ⟨n,at',e1,e2,e3⟩:=A6 e;⟨n,at',e1,e2,e3,ihl.out h6.2 hn (O.step0 R S) R' hq⟩) λa l σ' h'=>h'
theorem IH(X:fJ W P fa mg mb C k A){bm:BM}{l:List E}(ih:cj W P C A e)(ihl:jc W P C A l):cj W P C A (.bm bm e l):=λ{x nm env loc Z J s Q Er} hc hn O R h=>by
 refine gI (M:=λx=>wpAny _ _ (eval x env) _ _ _) hc ft λf args kw pos hc=>cQ (M:=λf=>wpAny _ _ (eval (.Call f args kw pos) env) _ _ _) hc ft λo n apos hc=>bK (M:=λkw=>wpAny _ _ (eval (.Call _ args kw pos) env) _ _ _) hc ft λhc=>?_;have h6:=aG hc;have h5:=aG h6.1;have h4:=aG h5.1;have h3:=aG h4.1;have h2:=aG h3.1;cases eq_of_beq h2.1;exact HS X R h2.2 h3.2 (aB h4.2) (eY h6.2 (pos:=pos)).2 (eY h6.2).1 (ih h5.2 hn O R h) (λa ρ' σ' s' h S R'=>⟨h.1,ihl.out h6.2 hn (O.step0 R S) R' h.2⟩) λa l σ' h'=>h'
theorem Bv(p:jC):oH (Hq p)=some (mt p):=by cases p<;>rfl
theorem Fk{t:String}{args as:List Expr}{M:List Expr->Prop}(h:di none args (λx r=>di none r λy r=>dO none r (kz none y λid z_=>if id==Str.ofString t&&oQ nm id then some [x] else none))=some as)
  (k:∀x id p,id=Str.ofString t->oQ nm id=true->[x]=as->M [x,.Name id p]):M args :=
 bH h cr λx r h=>bH (M:=λr=>M (x::r)) h cr λy r h=>bK (M:=λr=>M (x::y::r)) h cr λh=>dB (M:=λy=>M [x,y]) h cr λid p h=>by
  refine Or.elim (Classical.em ((id==Str.ofString t&&oQ nm id)=true)) (λhc=>?_) (λhc=>?_)
  ·exact k x id p (eq_of_beq (aG hc).1) (aG hc).2 (a9 ((if_pos hc).symm.trans h))
  ·cases (if_neg hc).symm.trans h
theorem F6{l:List E}{x:Expr}{M:List E->Prop}(h:cY P nm l [x]=true)(k:∀e,cy P nm e x=true->M [e]):M l:=by
 cases l with
 | nil=>exact bF h
 | cons e r=>cases r with
  | nil=>exact k e (aG h).1
  | cons _ _=>cases (aG h).2
theorem yB{p:jC}(h:zJ p=none):mu p=[]:=by revert h;cases p<;>first | exact λz_=>rfl | exact nofun
theorem yC{p:jC}{t:String}(h:zJ p=some t):mu p=[.type t]/\oH t=some (.type t):=by revert h;cases p<;>first | exact λh=>a9 h▸⟨rfl,rfl⟩ | exact cr
noncomputable def B8(W:Wd)(Z:Rho)(s:Shared)(p:jC)(Q:K1)(vs:List Value)(s':Shared):Prop:=∃ρ' σ' l ys,bA gZ Z s ρ' s'/\bU W s'.heap ρ' σ'/\bo W s'.heap ρ' l ys/\vs=ys++mu p/\jq p l σ' Q
theorem qb.toX{p:jC}(hx:mu p=[])(o:qb W Z s (λl J=>jq p l J Q) vs s'):B8 W Z s p Q vs s':=by
 exact cR o λρ' σ' l' S R' r hq=>⟨ρ',σ',l',vs,S,R',r,by rw [hx,bn],hq⟩
theorem B8.call{p:jC}{vs:List Value}(X:fJ W P fa mg mb C k A)(o:B8 W Z s p Q vs s'):wpAny (model W.prog W.w) A (call (mt p) vs) (cu W Z s Q) Er s':=by
 refine eE o λρ' σ' l' ys S R' r e hq=>?_;subst e;exact aI (Gc X.ok.wok X.hh R' r hq) (λz_ z_ o=>o.trans S) λz_ z_ e=>e
theorem Bu(X:fJ W P fa mg mb C k A){p:jC}{l:List E}{args:List Expr}(ih:jc W P C A l)(ih1:∀e0,l=[e0]->cj W P C A e0)(hc:kl (Fg nm p args) (λas=>cY P nm l as)=true)(hn:env.scope.names=nm)(O:bJ W env loc Z s.heap)(R:bU W s.heap Z J)(h:ev C (.prim p l) loc J Q) :
  (backTo pos (starEach args env)).any (·.1)=false/\wpAny (model W.prog W.w) A (spliced (backTo pos (starEach args env))) (B8 W Z s p Q) Er s:=by
 refine pW (M:=λo=>Fg nm p args=o->_) hc (λas hc ho=>?_) rfl;unfold Fg at ho;rcases hy:zJ p with _ | t
 ·rw [hy] at ho;cases ho;exact ⟨(eY hc).1,aI (ih.out hc hn O R h) (λvs s' o=>o.toX (yB hy)) λz_ z_ e=>e⟩
 ·rw [hy] at ho;refine Fk (M:=λargs=>(backTo pos (starEach args env)).any (·.1)=false/\wpAny (model W.prog W.w) A (spliced (backTo pos (starEach args env))) (B8 W Z s p Q) Er s) ho λx' id2 p2 e2 g2 ea=>?_;subst ea;refine F6 (M:=λl=>(∀e0,l=[e0]->cj W P C A e0)->ev C (.prim p l) loc J Q->_) hc (λe0 hx0 ih1 h=>?_) ih1 h;have hst:starEach [x',.Name id2 p2] env=(false,eval x' env)::starEach [.Name id2 p2] env:=mj hx0;have q:=yC hy;refine ⟨by rw [hst];rfl,wpAny_items_cons (j2 (ih1 _ rfl hx0 hn O R h) (λρa σa v x s₁ S Ra z_ rv hq=>?_) R) hst⟩;exact wpAny_items_cons (nO X (O.step0 R S) Ra hn g2 e2 q.2 (wpAny_items_nil ⟨ρa,σa,[v],[x],S,Ra,.cons rv .nil,by rw [q.1];rfl,hq⟩)) rfl
theorem rZ{p:jC}{args:List (Bool×Sem Value)}{Q':Value->Shared->Prop}(hp:args.any (·.1)=false)(h:wpAny (model W.prog W.w) A (spliced args) (λvs s'=>wpAny (model W.prog W.w) A (call (mt p) vs) Q' Er s') Er s):wpAny (model W.prog W.w) A (callWith pos (mt p) [] args []) Q' Er s:=by
 cases p with
 | len | sorted | max | isTuple | sum=>exact Calls.callWith_builtin hp (lV hp h)
 | list | tuple | int=>exact PySem.callWith_type hp (lV hp h)
theorem wH(X:fJ W P fa mg mb C k A){p:jC}{l:List E}(ih:jc W P C A l)(ih1:∀e0,l=[e0]->cj W P C A e0):cj W P C A (.prim p l):=λ{x nm env loc Z J s Q Er} hc hn O R h=>by
 refine fS (M:=λx=>wpAny _ _ (eval x env) _ _ _) hc λid p' args pos hid h1 hc=>wpAny_Call_NameR (nO X O R hn h1 hid (Bv p) ?_);have b:=Bu (pos:=pos) (Er:=Er) X ih ih1 hc hn O R h;exact rZ b.1 (aI b.2 (λz_ z_ o=>o.call X) λz_ z_ e=>e)
end
section
variable{P:ia}{k:Nat}{c:V}{x:Value}
theorem Ac{acc:Value}{Ca:Addr}{h':Heap}(h:vc W Z s Q acc Ca s')(hs:Heap.SameBut Ca s'.heap h'):cu W Z s Q acc {s' with heap:=h'}:=by
 refine kL h λρ' σ' a S R ra hq w ap hc=>oA w λm o es ep ho hd z_=>?_;refine xa (R.own' (O:=λz=>z=Ca) (h':=h') (λz e=>e▸ap) (λz o' e g=>by subst e;rw [ho] at g;cases g;exact λx=>y6 x λz_ z_ y=>xe y λz_ q=>by rw [hd] at q;cases q) (λb o hb e=>(hs.2 b hb).trans e) (by rw [hs.1];exact ay _)) λtk R'=>?_;have S':bA (λz=>z=Ca) ρ' s' ρ' {s' with heap:=h'}:=bA.priv (X:=λz=>z=Ca) (t:=s'.toks) (λb o hb e=>(hs.2 b hb).trans e) (by rw [hs.1];exact ay _);exact ⟨ρ',σ',a,(S.any.trans S').drop λz e=>.inr (by rw [e];exact hc),R',ra.mono tk (aD _),hq⟩
theorem Ay{x':Expr}(h:cy P nm e x'=true)(env:Env)(v:Value):foldedSetIterable x' env v=pure v:=by
 have h:=oJ h;cases x'<;>first | rfl | exact bF h
theorem ww{l:List E}{as:List Expr}{M:List E->List Expr->Prop}(hl:l.length=1)(h:cY P nm l as=true)(k:∀e0 x',cy P nm e0 x'=true->M [e0] [x']):M l as:=by
 cases l with
 | nil=>cases hl
 | cons e0 r =>
  cases r with
  | cons _ _=>cases hl
  | nil=>exact bH (M:=λas=>M [e0] as) h ft λx r h=>bK (M:=λr=>M [e0] (x::r)) (aG h).2 ft λz_=>k e0 x (aG h).1
theorem uT(X:fJ W P fa mg mb C k A){kk:oB}{e0:E}{it x':Expr}{Q2:List V->List Nat->Hp->Prop}(ih:cj W P C A e0)(hk:kk=.over\/kk=.range\/kk=.enum\/kk=.values)(hit:dL nm kk it=some [x'])(hx:cy P nm e0 x'=true)(hn:env.scope.names=nm)(O:bJ W env loc Z s.heap)(R:bU W s.heap Z J)
  (h:rX C [e0] loc J λvs J=>dn (eA kk vs J) λp=>Q2 p.1 p.2 J):wpAny (model W.prog W.w) A (eval it env) (EX W Z s (Ga kk) Q2) Er s:=by
 exact Gx X hn R O hit (by rw [mj hx];rfl) hk (ih hx hn O R h) λv σ' h'=>h'
theorem lY{kk:oB}{e0:E}{it x':Expr}(hk:kk=.over\/kk=.range\/kk=.enum\/kk=.values)(hit:dL nm kk it=some [x'])(hx:cy P nm e0 x'=true)(env:Env)(v:Value):foldedSetIterable it env v=pure v:=by
 rcases hk with rfl | rfl | rfl | rfl
 ·cases hit;exact Ay hx env v
 ·exact iP (M:=λit=>foldedSetIterable it env v=pure v) hit λz_ z_ z_ z_ z_=>rfl
 ·exact iP (M:=λit=>foldedSetIterable it env v=pure v) hit λz_ z_ z_ z_ z_=>rfl
 ·exact pi (M:=λit z_=>foldedSetIterable it env v=pure v) hit λz_ z_ z_ z_ z_=>rfl
theorem qG{sc:Scope}{ns:List String}(O:bJ W env loc Z s.heap)(hn:env.scope.names=nm)(hs:eN nm sc ns=true):closureFor sc env=pure (fW env sc.names []) :=
 xy λn hm =>
  have ⟨c,v,q,_⟩:=O.cel n (nP hn ((fC hs).2.2.2.2.2 n hm))
  ⟨c,q⟩
theorem uV{a b:α}{M:α->Prop}(h:a=b)(k:M b):M a:=h▸k
theorem qt{nm':Nm}{t:Tn}{kk:oB}{l:List E}{g:Comprehension}{M:Tn->List E->Comprehension->Prop}(h:Af nm nm' t kk l g (λas=>cY P nm l as)=true)
  (k:∀xn e0 p it cs x0,dL nm kk it=some [x0]->cy P nm e0 x0=true->M (.name xn) [e0] ⟨.Name (Str.ofString xn) p,it,cs,0⟩):M t l g:=by
 have c5:=aG h;have c4:=aG c5.1;have c3:=aG c4.1;have c2:=aG c3.1;have h2:=c2.1;have h3:=aB c2.2;have h4:=aB c3.2;have h5:=c4.2;have h6:=c5.2;clear c2 c3 c4 c5 h
 cases g with
 | mk tg it cs isA =>
 cases t with
 | pair _ _=>exact bF h2
 | name xn =>
 subst h3;exact dB (M:=λtg=>M _ l ⟨tg,it,cs,0⟩) h5 ft λid p hg=>uV (M:=λid=>M _ l ⟨.Name id p,it,cs,0⟩) (eq_of_beq (aG hg).1) (pW (M:=λo=>dL nm kk it=o->M (.name xn) l ⟨.Name (Str.ofString xn) p,it,cs,0⟩) h6 (λas hi=>ww (M:=λl as=>dL nm kk it=some as->M (.name xn) l ⟨.Name (Str.ofString xn) p,it,cs,0⟩) h4 hi λe0 x' hx has=>k xn e0 p it cs x' has hx) rfl)
theorem CE{elt:E}{t:Tn}{kk:oB}{l ifs:List E}{x:Expr}{M:Tn->List E->Expr->Prop}(hc:cy P nm (.comp elt t kk l ifs) x=true)
  (k:∀xn e0 y it cs sc pos p x0,(kk==.over ||kk==.range ||kk==.values)=true->eN nm sc [xn]=true->dL nm kk it=some [x0]->cy P nm e0 x0=true->cy P (dM nm sc.names) elt y=true->cY P (dM nm sc.names) ifs cs=true->M (.name xn) [e0] (.ListComp y [⟨.Name (Str.ofString xn) p,it,cs,0⟩] sc pos)):M t l x :=
 iZ hc ft λy gs sc pos hc=>bH (M:=λgs=>M _ l (.ListComp y gs sc pos)) hc ft λg r hc=>bK (M:=λr=>M _ l (.ListComp y (g::r) sc pos)) hc ft λhc =>
  have c5:=aG hc;have c4:=aG c5.1;have c3:=aG c4.1;have c2:=aG c3.1
  qt (M:=λt l g=>eN nm sc t.names=true->cY P (dM nm sc.names) ifs g.ifs=true->M t l (.ListComp y [g] sc pos)) c3.2 (λxn e0 p it cs x0 has hx hs hi=>k xn e0 y it cs sc pos p x0 c2.1 hs has hx c4.2 hi) c2.2 c5.2
theorem vF(X:fJ W P fa mg mb C k A){elt:E}{t:Tn}{kk:oB}{l ifs:List E}{x:Expr}(ihl:∀e∈l,cj W P C A e)(ihe:cj W P C A elt)(iht:mY W P C A ifs)(hc:cy P nm (.comp elt t kk l ifs) x=true)(hn:env.scope.names=nm)(O:bJ W env loc Z s.heap)(R:bU W s.heap Z J)
  (h:ev C (.comp elt t kk l ifs) loc J Q) {use:Option (Value->Sem Unit)} {Qf:Value->Shared->Prop} (hu:∀acc Ca s',vc W Z s Q acc Ca s'->compPost (model W.prog W.w) A Er use Qf acc Ca (.ok .next) s')
  {MG:Expr->Prop} (kg:∀y gens sc pos,firstAsync gens=false->wpAny (model W.prog W.w) A (comprehension (.ListComp y gens sc pos) sc env (firstIterPos gens pos) (newList []) (firstAsync gens) (firstIter gens env) use) Qf Er s->MG (.ListComp y gens sc pos)):MG x:=by
 refine CE (M:=λt l x=>(∀e∈l,cj W P C A e)->ev C (.comp elt t kk l ifs) loc J Q->MG x) hc (λxn e0 y it cs sc pos p x' hk hs has hx hy hi ihl h=>?_) ihl h;have hk:(kk=.over\/kk=.range\/kk=.enum\/kk=.values)/\Ga kk=false:=by
  revert hk;cases kk<;>decide
 refine kg y _ sc pos rfl (wpAny_comprehension_free (use:=use) rfl (lY hk.1 has hx env) (qG O hn hs) (fC hs).1 (fC hs).2.2.2.1 ?_);refine Aj (RRR:=compPost (model W.prog W.w) A Er use Qf) O R hn hs X.hh ?_ (λhn' O' R' h'=>(iht hi hn' O' R' h').2) (λhn' O' R' h'=>ihe hy hn' O' R' h') hu;have:=uT X (Er:=Er) (Q2:=λxs ms J=>dH (b8 ms J) (.name xn) (cq [xn] loc) (oq C elt ifs) 0 xs [] J (iV Q)) (ihl e0 ai) hk.1 has hx hn O R h;rw [hk.2] at this;exact this
theorem sB(acc:Value)(Ca:Addr)(s':Shared)(hf:vc W Z s Q acc Ca s'):compPost (model W.prog W.w) A Er none (cu W Z s Q) acc Ca (.ok .next) s':=by
 exact kL (id hf) λz_ z_ z_ z_ z_ z_ z_ q z_ z_=>xe q λm hm=>⟨m,hm,λh' hs=>Ac hf hs⟩
theorem D8(X:fJ W P fa mg mb C k A){elt:E}{t:Tn}{kk:oB}{l ifs:List E}(ihl:∀e∈l,cj W P C A e)(ihe:cj W P C A elt)(iht:mY W P C A ifs):cj W P C A (.comp elt t kk l ifs):=λ{x nm env loc Z J s Q Er} hc hn O R h=>by
 exact vF (MG:=λx=>wpAny _ _ (eval x env) _ _ _) X ihl ihe iht hc hn O R h sB λy gens sc pos z_ hw=>(eval_ListComp ..).symm▸hw
theorem Ak{elt:E}{t t':Tn}{kk kk':oB}{l l' ifs:List E}{x:Expr}{M:Tn->oB->List E->Tn->oB->List E->Expr->Prop}(hc:cy P nm (.comp2 elt t kk l t' kk' l' ifs) x=true)
  (k:∀xn xn' e0 e1 y it it' cs sc pos p p' x0 x1,(xn==xn')=false->eN nm sc [xn,xn']=true->dL nm .over it=some [x0]->cy P nm e0 x0=true->dL (dM nm sc.names) .over it'=some [x1]->cy P (dM nm sc.names) e1 x1=true->
   cy P (dM nm sc.names) elt y=true->cY P (dM nm sc.names) ifs cs=true->M (.name xn) .over [e0] (.name xn') .over [e1] (.ListComp y [⟨.Name (Str.ofString xn) p,it,[],0⟩,⟨.Name (Str.ofString xn') p',it',cs,0⟩] sc pos)):M t kk l t' kk' l' x :=
 iZ hc ft λy gs sc pos hc=>bH (M:=λgs=>M t kk l t' kk' l' (.ListComp y gs sc pos)) hc ft λg r hc=>bH (M:=λr=>M t kk l t' kk' l' (.ListComp y (g::r) sc pos)) hc ft λg' r hc=>bK (M:=λr=>M t kk l t' kk' l' (.ListComp y (g::g'::r) sc pos)) hc ft λhc =>
  have d9:=aG hc;have d8:=aG d9.1;have d7:=aG d8.1;have d6:=aG d7.1;have d5:=aG d6.1;have d4:=aG d5.1;have d3:=aG d4.1;have d2:=aG d3.1
  uV (M:=λi=>Af nm (dM nm sc.names) t i l g (λas=>cY P nm l as)=true->M t i l t' kk' l' (.ListComp y [g,g'] sc pos)) (eq_of_beq d2.1) (λhg=>uV (M:=λi=>Af (dM nm sc.names) (dM nm sc.names) t' i l' g' (λas=>cY P (dM nm sc.names) l' as)=true->M t .over l t' i l' (.ListComp y [g,g'] sc pos)) (eq_of_beq d2.2)
   (λhg'=>qt (M:=λt l g=>Io t t'=true->eN nm sc (t.names++t'.names)=true->dO false g.ifs true=true->M t .over l t' .over l' (.ListComp y [g,g'] sc pos)) hg
    (λxn e0 p it cs x0 has hx hne hs hnil=>qt (M:=λt' l' g'=>Io (.name xn) t'=true->eN nm sc (xn::t'.names)=true->cY P (dM nm sc.names) ifs g'.ifs=true->M (.name xn) .over [e0] t' .over l' (.ListComp y [⟨.Name (Str.ofString xn) p,it,cs,0⟩,g'] sc pos)) hg'
     (λxn' e1 p' it' cs' x1 has' hx1 hne hs hi=>bK (M:=λcs=>M (.name xn) .over [e0] (.name xn') .over [e1] (.ListComp y [⟨.Name (Str.ofString xn) p,it,cs,0⟩,⟨.Name (Str.ofString xn') p',it',cs',0⟩] sc pos)) hnil ft λz_=>k xn xn' e0 e1 y it it' cs' sc pos p p' x0 x1 (mP hne) hs has hx has' hx1 d8.2 hi) hne hs d9.2)
    d3.2 d5.2 d4.2) d7.2) d6.2
theorem sG(X:fJ W P fa mg mb C k A){elt:E}{t t':Tn}{kk kk':oB}{l l' ifs:List E}{x:Expr}(ihl:∀e∈l,cj W P C A e)(ihl':∀e∈l',cj W P C A e)(ihe:cj W P C A elt)(iht:mY W P C A ifs)(hc:cy P nm (.comp2 elt t kk l t' kk' l' ifs) x=true)(hn:env.scope.names=nm)(O:bJ W env loc Z s.heap)(R:bU W s.heap Z J)
  (h:ev C (.comp2 elt t kk l t' kk' l' ifs) loc J Q) {use:Option (Value->Sem Unit)} {Qf:Value->Shared->Prop} (hu:∀acc Ca s',vc W Z s Q acc Ca s'->compPost (model W.prog W.w) A Er use Qf acc Ca (.ok .next) s')
  {MG:Expr->Prop} (kg:∀y gens sc pos,firstAsync gens=false->wpAny (model W.prog W.w) A (comprehension (.ListComp y gens sc pos) sc env (firstIterPos gens pos) (newList []) (firstAsync gens) (firstIter gens env) use) Qf Er s->MG (.ListComp y gens sc pos)):MG x:=by
 refine Ak (M:=λt kk l t' kk' l' x=>(∀e∈l,cj W P C A e)->(∀e∈l',cj W P C A e)->ev C (.comp2 elt t kk l t' kk' l' ifs) loc J Q->MG x) hc (λxn xn' e0 e1 y it it' cs sc pos p p' x' x1 hne hs has hx has' hx1 hy hi ihl ihl' h=>?_) ihl ihl' h;refine kg y _ sc pos rfl (wpAny_comprehension_free (use:=use) rfl (lY (.inl rfl) has hx env) (qG O hn hs) (fC hs).1 (fC hs).2.2.2.1 ?_);exact Al (RRR:=compPost (model W.prog W.w) A Er use Qf) O R hn hs (ne_of_beq_false hne) X.hh (uT X (Er:=Er) (Q2:=λxs ms J=>dH (b8 ms J) (.name xn) (cq [xn,xn'] loc) (pz C [e1] .over xn' elt ifs) 0 xs [] J (iV Q)) (ihl e0 ai) (.inl rfl) has hx hn O R h)
  (λenv v=>lY (.inl rfl) has' hx1 env v) (λ{env Z J s loc' Q2 Er} hn' O' R' h'=>uT X (ihl' e1 ai) (.inl rfl) has' hx1 hn' O' R' h') (λhn' O' R' h'=>(iht hi hn' O' R' h').2) (λhn' O' R' h'=>ihe hy hn' O' R' h') hu
theorem BC(X:fJ W P fa mg mb C k A){elt:E}{t t':Tn}{kk kk':oB}{l l' ifs:List E}(ihl:∀e∈l,cj W P C A e)(ihl':∀e∈l',cj W P C A e)(ihe:cj W P C A elt)(iht:mY W P C A ifs):cj W P C A (.comp2 elt t kk l t' kk' l' ifs):=λ{x nm env loc Z J s Q Er} hc hn O R h=>by
 exact sG (MG:=λx=>wpAny _ _ (eval x env) _ _ _) X ihl ihl' ihe iht hc hn O R h sB λy gens sc pos z_ hw=>(eval_ListComp ..).symm▸hw
end
section
variable{P:ia}{k:Nat}{c:V}{x:Value}
theorem GJ(ih:jx W P C A e):jx W P C A (.not e):=λ{x nm env loc Z J s Q Er} hc hn O R h=>by
 refine fB (M:=λx=>wpAny _ _ (isTrue x env (eval x env)) _ _ _) hc ft λop y p hc=>?_;have hc:=aG hc;cases aB hc.1;exact wpAny_isTrue_Not (ih (Q:=λb J=>Q (!b) J) hc.2 hn O R h)
theorem GG{l:List E}(ih:mY W P C A l):jx W P C A (.and l):=λ{x nm env loc Z J s Q Er} hc hn O R h=>by
 refine gk (M:=λx=>wpAny _ _ (isTrue x env (eval x env)) _ _ _) hc ft λop y p hc=>?_;have hc:=aG hc;cases aB hc.1;exact wpAny_isTrue_BoolOp (ih hc.2 hn O R h).1
theorem IR{l:List E}(ih:vi W P C A l):jx W P C A (.or l):=λ{x nm env loc Z J s Q Er} hc hn O R h=>by
 refine gk (M:=λx=>wpAny _ _ (isTrue x env (eval x env)) _ _ _) hc ft λop y p hc=>?_;have hc:=aG hc;cases aB hc.1;exact wpAny_isTrue_BoolOp (ih hc.2 hn O R h)
theorem GI{c a b:E}(ihc:jx W P C A c)(iha:jx W P C A a)(ihb:jx W P C A b):jx W P C A (.ite c a b):=λ{x nm env loc Z J s Q Er} hc hn O R h=>by
 refine lJ (M:=λx=>wpAny _ _ (isTrue x env (eval x env)) _ _ _) hc ft λt y z p hc=>?_;have h3:=aG hc;have h1:=aG h3.1;refine af (aI (ihc h1.1 hn O R h) (λr s₁ q=>cU q λρa σa S Ra hq=>?_) λz_ z_ e=>e)
 cases r with
 | true=>exact aI (iha h1.2 hn (O.step0 R S) Ra hq) (λz_ z_ o=>o.trans S) λz_ z_ e=>e
 | false=>exact aI (ihb h3.2 hn (O.step0 R S) Ra hq) (λz_ z_ o=>o.trans S) λz_ z_ e=>e
theorem GH(X:fJ W P fa mg mb C k A){op:ES}{l r:E}(ih:cj W P C A l)(ih':cj W P C A r):jx W P C A (.cmp op l r):=λ{x nm env loc Z J s Q Er} hc hn O R h=>by
 refine vC (M:=λx=>wpAny _ _ (isTrue x env (eval x env)) _ _ _) hc λlx op' rx p e h1 h2 h3=>?_;cases e;refine wpAny_isTrue_Compare1 (u5 ih ih' h2 h3 hn O R h λρ' σ' v w x y s' S R' rv rw' h=>cf h λr hr hq=>?_) h1;exact lD X R' rv rw' hr λρ'' s'' S' R''=>wpAny_truthy_bool ⟨ρ'',σ',S.trans S',R'',hq⟩
theorem BZ(X:fJ W P fa mg mb C k A){a b c:E}(iha:cj W P C A a)(ihb:cj W P C A b)(ihc:cj W P C A c):jx W P C A (.chain a b c):=λ{x nm env loc Z J s Q Er} hc hn O R h=>by
 refine sC (M:=λx=>wpAny _ _ (isTrue x env (eval x env)) _ _ _) hc λlx mx rx p h0 h1 h2 h3=>?_
 ·refine isTrue_chain (j2 (iha h1 hn O R h) (λρa σa u ux s₁ S Ra z_ ru h₁=>?_) R) h0;have O1:=O.step0 R S;refine test_link (j2 (ihb h2 hn O1 Ra h₁) (λρb σc v vx s₂ Sa Rb tk rv h=>cf h λr hr h₂=>?_) Ra);refine lD (op:=.le) X Rb (ru.mono tk Sa.pre) rv hr λρc s₃ Sb Re=>wpAny_truthy_bool ?_;have S12:=(S.trans Sa).trans Sb
  cases r with
  | false=>exact ⟨ρc,σc,S12,Re,h₂⟩
  | true =>
   rw [if_pos rfl];refine test_last (j2 (ihc h3 hn (O.step0 R S12) Re h₂) (λρe σe w wx s₄ Se Rf tka rw' h=>cf h λr hr h₄=>?_) Re);exact lD (op:=.lt) X Rf (rv.mono ((Sb.tup0 Rb).trans tka) (Sb.pre.trans Se.pre)) rw' hr λρf s₅ Sf Rg=>wpAny_truthy_bool ⟨ρf,σe,(S12.trans Se).trans Sf,Rg,h₄⟩
noncomputable abbrev K8(Q:Bool->Hp->Prop):K1:=λv J=>dn (xf J v) λb=>Q b J
theorem oo(ih:cj W P C A e)(he:∀{x:Expr} {nm:Nm},cy P nm e x=true->∀env m,isTrue x env m=(do let v <-m;standAt x.pos;holding [v] (truthy v)))
  (hq:∀{loc J Q},u3 C e loc J Q->ev C e loc J (K8 Q)):jx W P C A e:=λ{x nm env loc Z J s Q Er} hc hn O R h =>
 IP (he hc env _) (ih hc hn O R (hq h)) λv σ' h'=>vS h'
theorem GL{y:String}:jx W P C A (.var y):=oo zQ (λ{x nm} hc env m=>dB (M:=λx=>isTrue x env m=(do let v <-m;standAt x.pos;holding [v] (truthy v))) hc ft λz_ z_ z_=>rfl) λh=>h
theorem EE{at':String}(ih:cj W P C A (.attr e at')):jx W P C A (.attr e at'):=oo ih (λ{x nm} hc env m=>cQ (M:=λx=>isTrue x env m=(do let v <-m;standAt x.pos;holding [v] (truthy v))) hc ft λz_ z_ z_ z_=>rfl) λh=>h
theorem GK{i:E}(ih:cj W P C A (.sub e i)):jx W P C A (.sub e i):=oo ih (λ{x nm} hc env m=>cb (M:=λx=>isTrue x env m=(do let v <-m;standAt x.pos;holding [v] (truthy v))) hc ft λz_ z_ z_ z_=>rfl) λh=>h
theorem EF{f:String}{l:List E}(ih:cj W P C A (.call f l)):jx W P C A (.call f l):=oo ih (λ{x nm} hc env m=>fS (M:=λx=>isTrue x env m=(do let v <-m;standAt x.pos;holding [v] (truthy v))) hc λz_ z_ z_ z_ z_ z_ z_=>rfl) λh=>h
theorem EG{p:jC}{l:List E}(ih:cj W P C A (.prim p l)):jx W P C A (.prim p l):=oo ih (λ{x nm} hc env m=>fS (M:=λx=>isTrue x env m=(do let v <-m;standAt x.pos;holding [v] (truthy v))) hc λz_ z_ z_ z_ z_ z_ z_=>rfl) λh=>h
theorem Ez{cs:List Expr}{Q:Bool->Shared->Prop}(h:Q false s):wpAny (model W.prog W.w) A (forIn cs false λc r=>if r=true then do let ok <-isTrue c env (eval c env);pure (ForInStep.yield ok) else pure (ForInStep.yield r)) Q Er s:=by
 induction cs with
 | nil=>exact al h
 | cons c cs ih =>
  rw [List.forIn_cons];refine af ?_;rw [if_neg (by decide)];exact al ih
theorem IQ:mY W P C A []:=λ{xs nm env loc Z J s Q Er} hc hn O R h=>by
 exact bK (M:=λxs=>wpAny (model W.prog W.w) A (allTrue .And xs env) (mD W Z s Q) Er s/\wpAny (model W.prog W.w) A (jv xs env) (mD W Z s Q) Er s) hc ft λz_=>⟨wpAny_allTrue_And_nil ⟨Z,J,bA.refl ..,R,h⟩,al ⟨Z,J,bA.refl ..,R,h⟩⟩
theorem GF{l:List E}(ih:jx W P C A e)(ihl:mY W P C A l):mY W P C A (e::l):=λ{xs nm env loc Z J s Q Er} hc hn O R h=>by
 refine bH (M:=λxs=>wpAny (model W.prog W.w) A (allTrue .And xs env) (mD W Z s Q) Er s/\wpAny (model W.prog W.w) A (jv xs env) (mD W Z s Q) Er s) hc ft λy ys hc=>?_;have hc:=aG hc
 ·refine ⟨wpAny_allTrue_And_cons (aI (ih hc.1 hn O R h) (λb s₁ q=>cU q λρa σa S Ra hq=>?_) λz_ z_ e=>e),?_⟩
  ·cases b with
   | true=>exact aI (ihl hc.2 hn (O.step0 R S) Ra hq).1 (λz_ z_ o=>o.trans S) λz_ z_ e=>e
   | false=>exact ⟨ρa,σa,S,Ra,hq⟩
  ·show wpAny _ _ (forIn (y::ys) true _) _ _ _;rw [List.forIn_cons];refine af ?_;rw [if_pos rfl];refine af (aI (ih hc.1 hn O R h) (λb s₁ x=>cU x λρa σa S Ra hq=>al ?_) λz_ z_ e=>e)
   cases b with
   | true=>exact aI (ihl hc.2 hn (O.step0 R S) Ra hq).2 (λz_ z_ o=>o.trans S) λz_ z_ e=>e
   | false=>exact Ez ⟨ρa,σa,S,Ra,hq⟩
theorem IO:vi W P C A []:=λ{xs nm env loc Z J s Q Er} hc hn O R h=>by
 exact bK (M:=λxs=>wpAny _ _ (allTrue .Or xs env) _ _ _) hc ft λz_=>wpAny_allTrue_Or_nil ⟨Z,J,bA.refl ..,R,h⟩
theorem GC{l:List E}(ih:jx W P C A e)(ihl:vi W P C A l):vi W P C A (e::l):=λ{xs nm env loc Z J s Q Er} hc hn O R h=>by
 refine bH (M:=λxs=>wpAny _ _ (allTrue .Or xs env) _ _ _) hc ft λy ys hc=>?_;have hc:=aG hc
 ·refine wpAny_allTrue_Or_cons (aI (ih hc.1 hn O R h) (λb s₁ q=>cU q λρa σa S Ra hq=>?_) λz_ z_ e=>e)
  cases b with
  | true=>exact ⟨ρa,σa,S,Ra,hq⟩
  | false=>exact aI (ihl hc.2 hn (O.step0 R S) Ra hq) (λz_ z_ o=>o.trans S) λz_ z_ e=>e
theorem E4(ih:cj W P C A e):oE W P C A [e]:=λ{xs pos nm env loc Z J s Q Er} hc hn O R h=>by
 exact bH (M:=λxs=>wpAny _ _ (boolOp pos .And (evalEach xs env)) _ _ _) hc ft λy ys hc=>have hc:=aG hc
  bK (M:=λxs=>wpAny _ _ (boolOp pos .And (evalEach (_::xs) env)) _ _ _) hc.2 ft λz_=>ih hc.1 hn O R h
theorem IA(ih:cj W P C A e):sn W P C A [e]:=λ{xs pos nm env loc Z J s Q Er} hc hn O R h=>by
 exact bH (M:=λxs=>wpAny _ _ (boolOp pos .Or (evalEach xs env)) _ _ _) hc ft λy ys hc=>have hc:=aG hc
  bK (M:=λxs=>wpAny _ _ (boolOp pos .Or (evalEach (_::xs) env)) _ _ _) hc.2 ft λz_=>ih hc.1 hn O R h
theorem zZ{e':E}{l:List E}{xs:List Expr}{M:List Expr->Prop}(h:cY P nm (e::e'::l) xs=true)(k:∀y y' ys,cy P nm e y=true->cY P nm (e'::l) (y'::ys)=true->M (y::y'::ys)):M xs :=
 bH h ft λy r h=>have h:=aG h
  bH (M:=λr=>cY P nm (e'::l) r=true->M (y::r)) h.2 ft (λy' ys z_ h2=>k y y' ys h.1 h2) h.2
set_option backward.match.sparseCases true in
theorem Cn{e':E}{l:List E}(ih:cj W P C A e)(ihl:oE W P C A (e'::l)):oE W P C A (e::e'::l):=λ{xs pos nm env loc Z J s Q Er} hc hn O R h=>by
 refine zZ (M:=λxs=>wpAny _ _ (boolOp pos .And (evalEach xs env)) _ _ _) hc λy y' ys h1 h2=>?_;show wpAny _ _ (do
  let v <-eval y env
  standAt pos
  let t <-holding [v] (truthy v)
  match BoolOp.And,t with
  | .And,false | .Or,true=>pure v
  | _,_=>boolOp pos .And (evalEach (y'::ys) env)) _ _ _
 refine lu (ih h1 hn O R h) λρa σa a v s₁ S Ra ra h=>cf h λb hb hq=>af (wpAny_standAt (af (aT (uZ Ra ra hb λt=>?_))));have S1:=S.trans (bA.toks gZ ρa s₁ t)
 cases b with
 | true=>exact aI (ihl h2 hn (O.step0 R S1) Ra hq) (λz_ z_ o=>o.trans S1) λz_ z_ e=>e
 | false=>exact al ⟨ρa,σa,a,S1,Ra,ra,hq⟩
set_option backward.match.sparseCases true in
theorem F8{e':E}{l:List E}(ih:cj W P C A e)(ihl:sn W P C A (e'::l)):sn W P C A (e::e'::l):=λ{xs pos nm env loc Z J s Q Er} hc hn O R h=>by
 refine zZ (M:=λxs=>wpAny _ _ (boolOp pos .Or (evalEach xs env)) _ _ _) hc λy y' ys h1 h2=>?_;show wpAny _ _ (do
  let v <-eval y env
  standAt pos
  let t <-holding [v] (truthy v)
  match BoolOp.Or,t with
  | .And,false | .Or,true=>pure v
  | _,_=>boolOp pos .Or (evalEach (y'::ys) env)) _ _ _
 refine lu (ih h1 hn O R h) λρa σa a v s₁ S Ra ra h=>cf h λb hb hq=>af (wpAny_standAt (af (aT (uZ Ra ra hb λt=>?_))));have S1:=S.trans (bA.toks gZ ρa s₁ t)
 cases b with
 | false=>exact aI (ihl h2 hn (O.step0 R S1) Ra hq) (λz_ z_ o=>o.trans S1) λz_ z_ e=>e
 | true=>exact al ⟨ρa,σa,a,S1,Ra,ra,hq⟩
theorem E3:oE W P C A []:=λ{xs pos nm env loc Z J s Q Er} hc hn O R h=>h.elim
theorem Iz:sn W P C A []:=λ{xs pos nm env loc Z J s Q Er} hc hn O R h=>h.elim
theorem Gk{l:List E}(ih:oE W P C A l):cj W P C A (.and l):=λ{x nm env loc Z J s Q Er} hc hn O R h=>by
 refine gk (M:=λx=>wpAny _ _ (eval x env) _ _ _) hc ft λop y p hc=>?_;have hc:=aG hc;cases aB hc.1;rw [arm_eval_BoolOp];exact ih hc.2 hn O R h
theorem IJ{l:List E}(ih:sn W P C A l):cj W P C A (.or l):=λ{x nm env loc Z J s Q Er} hc hn O R h=>by
 refine gk (M:=λx=>wpAny _ _ (eval x env) _ _ _) hc ft λop y p hc=>?_;have hc:=aG hc;cases aB hc.1;rw [arm_eval_BoolOp];exact ih hc.2 hn O R h
theorem dJ(h:∀loc J Q,¬u3 C e loc J Q):jx W P C A e:=λ{x nm env loc Z J s Q Er} hc hn O R h'=>(h _ _ _ h').elim
mutual
theorem dC(X:fJ W P fa mg mb C k A):∀e:E,cj W P C A e
 | .const v=>BD
 | .var y=>zQ
 | .glob y v=>Ee X
 | .attr e a=>wF X (dC X e)
 | .sub e i=>zP X (dC X e) (dC X i)
 | .cut e lo hi=>Go (dC X e)
 | .bin op a b=>Gm (dC X a) (dC X b)
 | .not e=>Gu X (dC X e)
 | .and l=>Gk (D7 X l)
 | .or l=>IJ (Hu X l)
 | .cmp op a b=>Gn X (dC X a) (dC X b)
 | .chain a b c=>BB X (dC X a) (dC X b) (dC X c)
 | .ite c a b=>Gq (uR X c) (dC X a) (dC X b)
 | .tup l=>Gw (mv X l)
 | .list l=>Ef (mv X l)
 | .dict l=>Eb X (Hv X l)
 | .call f l=>wG X (mv X l)
 | .new c l=>Gr X (mv X l)
 | .meth c e m l=>Eg X (dC X e) (mv X l)
 | .prim p l=>wH X (mv X l) λe0 h=>o0 X l e0 (by rw [h];exact ai)
 | .bm b e l=>IH X (dC X e) (mv X l)
 | .comp elt t k l ifs=>D8 X (o0 X l) (dC X elt) (th X ifs)
 | .comp2 elt t k l t' k' l' ifs=>BC X (o0 X l) (o0 X l') (dC X elt) (th X ifs)
theorem o0(X:fJ W P fa mg mb C k A):∀l:List E,∀e∈l,cj W P C A e
 | [],e,h=>by cases h
 | a::r,e,h=>by
  refine Or.elim (aO.mp h) (λq=>?_) (λq=>?_)
  ·rw [q];exact dC X a
  ·exact o0 X r e q
theorem mv(X:fJ W P fa mg mb C k A):∀l:List E,jc W P C A l
 | []=>Gs
 | e::r=>D9 (dC X e) (mv X r)
theorem Hv(X:fJ W P fa mg mb C k A):∀l:List (E×E),vh W P C A l
 | []=>yK
 | (a,b)::r=>wI (dC X a) (dC X b) (Hv X r)
theorem D7(X:fJ W P fa mg mb C k A):∀l:List E,oE W P C A l
 | []=>E3
 | [e]=>E4 (dC X e)
 | e::e'::r=>Cn (dC X e) (D7 X (e'::r))
theorem Hu(X:fJ W P fa mg mb C k A):∀l:List E,sn W P C A l
 | []=>Iz
 | [e]=>IA (dC X e)
 | e::e'::r=>F8 (dC X e) (Hu X (e'::r))
theorem uR(X:fJ W P fa mg mb C k A):∀e:E,jx W P C A e
 | .not e=>GJ (uR X e)
 | .and l=>GG (th X l)
 | .or l=>IR (Hw X l)
 | .ite c a b=>GI (uR X c) (uR X a) (uR X b)
 | .cmp op a b=>GH X (dC X a) (dC X b)
 | .chain a b c=>BZ X (dC X a) (dC X b) (dC X c)
 | .var y=>GL
 | .attr e a=>EE (wF X (dC X e))
 | .sub e i=>GK (zP X (dC X e) (dC X i))
 | .call f l=>EF (wG X (mv X l))
 | .prim p l=>EG (wH X (mv X l) λe0 h=>o0 X l e0 (by rw [h];exact ai))
 | .const v=>dJ (e:=.const v) λz_ z_ z_ h=>h
 | .glob y v=>dJ (e:=.glob y v) λz_ z_ z_ h=>h
 | .cut e lo hi=>dJ (e:=.cut e lo hi) λz_ z_ z_ h=>h
 | .bin op a b=>dJ (e:=.bin op a b) λz_ z_ z_ h=>h
 | .tup l=>dJ (e:=.tup l) λz_ z_ z_ h=>h
 | .list l=>dJ (e:=.list l) λz_ z_ z_ h=>h
 | .dict l=>dJ (e:=.dict l) λz_ z_ z_ h=>h
 | .new c l=>dJ (e:=.new c l) λz_ z_ z_ h=>h
 | .meth c e m l=>dJ (e:=.meth c e m l) λz_ z_ z_ h=>h
 | .bm b e l=>dJ (e:=.bm b e l) λz_ z_ z_ h=>h
 | .comp elt t k l ifs=>dJ (e:=.comp elt t k l ifs) λz_ z_ z_ h=>h
 | .comp2 elt t k l t' k' l' ifs=>dJ (e:=.comp2 elt t k l t' k' l' ifs) λz_ z_ z_ h=>h
theorem th(X:fJ W P fa mg mb C k A):∀l:List E,mY W P C A l
 | []=>IQ
 | e::r=>GF (uR X e) (th X r)
theorem Hw(X:fJ W P fa mg mb C k A):∀l:List E,vi W P C A l
 | []=>IO
 | e::r=>GC (uR X e) (Hw X r)
end
end
section
variable{P:ia}{k:Nat}{c:V}{x:Value}
theorem bJ.tk(O:bJ W env loc Z s.heap)(R:bU W s.heap Z J)(S:bA (dT env) Z s ρ' s'):bv W s.heap s'.heap :=
 S.tup R λa o ha e=>by
  refine bO (O.alive a ha) λo' h1 h2=>?_;rw [h1] at e;cases e;exact h2
section
variable{ns:List Nat}{own:List Addr}{I:Addr}{St:Nat->Rho->Heap->Prop}
theorem sJ(It:mC W false xs ns σb own I St Mid)(hh:A.handled=none):∀(n i:Nat) (s:Shared) (Q:List Value->Shared->Prop),i+n=xs.length->St i Z s.heap->bU W s.heap Z J->b8 ns σb J->
  (∀ys s',bA (·∈own) Z s Z s'->bv W s.heap s'.heap->bU W s'.heap Z J->bo W s'.heap Z (xs.drop i) ys->St xs.length Z s'.heap->Q ys s')->wpAny (model W.prog W.w) A (draw (.ref I) n) Q Er s
 | 0,i,s,Q,hi,st,R,sd,hQ=>by
  have:i=xs.length:=by omega
  subst this;rw [List.drop_length] at hQ;exact al (hQ [] s (bA.refl ..) (bv.refl _ _) R .nil st)
 | n+1,i,s,Q,hi,st,R,sd,hQ=>by
  have hlt:i<xs.length:=by omega
  refine af (It.item hh st R sd (aA hlt) λu s₁ S1 tk1 R1 ru mid=>?_);have gg:=It.go (A:=A) (E:=λz_ z_=>True) (target:=.Name (Str.ofString "x") default) (Q:=λz_ s'=>s'=s₁->St (i+1) Z s₁.heap) (λe=>by exact bF e) mid R1 λs' z_ z_ z_ st' e=>e▸st';refine ty (m:=_) gg (λe=>e rfl) λst1=>af (aT (sJ It hh n (i+1) s₁ _ (by omega) st1 R1 sd λys s₂ S2 tk2 R2 ry st2=>al ?_));refine hQ (u::ys) s₂ (S1.trans S2) (tk1.trans tk2) R2 ?_ st2;rw [List.drop_eq_getElem_cons hlt];exact .cons (ru.mono tk2 (aD _)) ry
end
theorem uP{Qb:Bool->Shared->Prop}(R:bU W s.heap Z J)(ra:aK W s.heap Z a x)(h:gz J a=some l)(hQ:Qb false s):wpAny (model W.prog W.w) A (notIterableAtAll x) Qb Er s:=by
 refine n9 (M:=λa=>aK W s.heap Z a x->_) h (λra=>?_) (λn e ra=>?_) ra
 ·refine cv ra.E λad o items ek q ho hc hd hx hr=>?_;subst q;exact af (wpAny_specialOf (T:="tuple") ⟨o,ho,hc⟩ F.slot_tuple_iter.lookup (al hQ))
 ·refine bz (R.list_at ra e) λp ad ep hp1 hp2 y items ek ho hr hzz=>?_;subst y;exact af (wpAny_specialOf (T:="list") ⟨_,ho,rfl⟩ F.slot_list_iter.lookup (al hQ))
set_option tactic.hygienic true in
theorem kK{Q':List Value->Shared->Prop}(X:fJ W P fa mg mb C k A)(R:bU W s.heap Z J)(ra:aK W s.heap Z a x)(h:gz J a=some l)
  (hQ:∀ys s',bA gZ Z s Z s'->bU W s'.heap Z J->bo W s'.heap Z l ys->Q' ys s'):wpAny (model W.prog W.w) A (unpackItems x l.length none) Q' Er s:=by
 have hi:∃ns,eA .over [a] J=some (l,ns):=n9 (M:=λa=>∃ns,eA .over [a] J=some (l,ns)) h ⟨[],rfl⟩ λn e=>⟨[n],cF e⟩
 refine xe hi λns hi=>?_;have rd:sk W s.heap.objs.size Z J s false l ns x:=rt X.ok.wok.sys R (ay _) ra hi;refine af (uP R ra h ?_);dsimp only [Bool.false_eq_true,if_false];refine af (aT (rd A _ _ X.hh λI s₁ own St Mid S1 R1 It st ho=>?_));refine af (aT (sJ It X.hh l.length 0 s₁ _ (by omega) st R1 (λn z_=>rfl) λys s₂ S2 tk2 R2 ry st2=>?_));rw [List.drop_zero] at ry;have hl:ys.length=l.length:=ry.length;rw [if_neg (by omega)];refine af (aT (It.done X.hh st2 R2 (λn z_=>rfl) λs₃ S3 tk3 R3=>?_));dsimp only [Option.isSome_none,Bool.false_eq_true,if_false];refine al (hQ ys s₃ ?_ R3 (ry.mono tk3 (aD _)));exact (S1.any.trans (S2.trans S3)).drop λa ha=>.inr (ho a ha)
theorem lX{x:String}{xs:List String}{ts:List Expr}{M:List Expr->Prop}(hc:iR nm (x::xs) ts=true)(k:∀p ts,jQ nm (Str.ofString x)=true->iR nm xs ts=true->M (.Name (Str.ofString x) p::ts)):M ts :=
 bH hc ft λt ts hc=>have hc:=aG hc
  dB (M:=λt=>M (t::ts)) hc.1 ft λid p h=>have h:=aG h
   uV (M:=λid=>jQ nm id=true->M (.Name id p::ts)) (eq_of_beq h.1) (λh1=>k p ts h1 hc.2) h.2
theorem wT:∀{xs:List String} {ts:List Expr} {l:List V} {ys:List Value} {loc loc':Loc} {s:Shared} {Q':Unit->Shared->Prop},iR nm xs ts=true->env.scope.names=nm->bJ W env loc Z s.heap->bU W s.heap Z J->bo W s.heap Z l ys->hJ xs l loc=some loc'->
  (∀s',bA (dT env) Z s Z s'->bU W s'.heap Z J->bJ W env loc' Z s'.heap->Q' () s')->wpAny (model W.prog W.w) A (assignInOrder ((assignEach ts env).map (·.2)) ys) Q' Er s:=by
 intro xs
 induction xs with
 | nil =>
  intro ts l ys loc loc' s Q' hc hn O R r h hQ;refine bK (M:=λts=>wpAny _ _ (assignInOrder ((assignEach ts env).map (·.2)) ys) _ _ _) hc ft λz_=>?_
  cases l with
  | cons _ _=>exact cr h
  | nil=>cases h;exact al (hQ s (bA.refl ..) R O)
 | cons x xs ih =>
  intro ts l ys loc loc' s Q' hc hn O R r h hQ
  cases l with
  | nil=>exact cr h
  | cons v l =>
  refine lX (M:=λts=>wpAny _ _ (assignInOrder ((assignEach ts env).map (·.2)) ys) _ _ _) hc λp ts h1 h2=>cU r.E λy ys q rv rl=>?_;subst q;refine af (aT (wpAny_assign_Name (O.store R rv (jR hn h1) λs₁ S tk R1 O1=>?_)));exact ih h2 hn O1 R1 (rl.mono tk (aD _)) h λs₂ S2 R2 O2=>hQ s₂ (S.trans S2) R2 O2
theorem qB:∀{xs:List String} {ts:List Expr},iR nm xs ts=true->(assignEach ts env).length=xs.length/\(assignEach ts env).findIdx? (·.1)=none
 | [],ts,hc=>bK (M:=λts=>(assignEach ts env).length=0/\(assignEach ts env).findIdx? (·.1)=none) hc ft λz_=>⟨rfl,rfl⟩
 | x::xs,ts,hc=>lX (M:=λts=>(assignEach ts env).length=xs.length+1/\(assignEach ts env).findIdx? (·.1)=none) hc λp ts z_ h=>by
  have h:=qB h;refine ⟨congrArg Nat.succ h.1,?_⟩;show List.findIdx? _ ((false,_)::assignEach ts env)=none;rw [List.findIdx?_cons,h.2];rfl
theorem kH:∀{xs:List String} {l:List V} {loc loc':Loc},hJ xs l loc=some loc'->l.length=xs.length
 | [],[],_,_,_=>rfl
 | x::xs,v::vs,loc,loc',h=>congrArg Nat.succ (kH (xs:=xs) h)
 | [],_::_,_,_,h=>cr h
 | _::_,[],_,_,h=>cr h
theorem nq{xs:List String}{ts:List Expr}{kk:Nat}{p:Pos}{Q':Unit->Shared->Prop}(X:fJ W P fa mg mb C k A)(hc:iR nm xs ts=true)(hn:env.scope.names=nm)(O:bJ W env loc Z s.heap)(R:bU W s.heap Z J)(ra:aK W s.heap Z a x)(hs:gz J a=some l)(h:hJ xs l loc=some loc')
  (hQ:∀s',bA (dT env) Z s Z s'->bU W s'.heap Z J->bJ W env loc' Z s'.heap->Q' () s'):wpAny (model W.prog W.w) A (assign (.Tuple ts kk p) env x) Q' Er s:=by
 refine xa (qB (env:=env) hc) λh1 h2=>?_;rw [arm_assign_Tuple];refine af (wpAny_standAt ?_);delta unpack;rw [h1,h2,<-kH h];refine af (aT (kK X R ra hs λys s₁ S R1 r=>?_));exact wT hc hn (O.step0 R S) R1 r h λs₂ S2 R2 O2=>hQ s₂ (S.any.trans S2) R2 O2
end
noncomputable def KR(W:Wd)(h:Heap)(Z:Rho):Flow->Fl->Prop
 | .next,.next=>True
 | .cont,.cont=>True
 | .ret v,.ret a=>aK W h Z a v
 | _,_=>False
noncomputable def oD(W:Wd)(env:Env)(Z:Rho)(s:Shared)(Q:Fl->Loc->Hp->Prop)(f:Flow)(s':Shared):Prop :=
 ∃ρ' σ' loc' fl,bA (dT env) Z s ρ' s'/\bU W s'.heap ρ' σ'/\bJ W env loc' ρ' s'.heap/\KR W s'.heap ρ' f fl/\Q fl loc' σ'
noncomputable def HI(W:Wd)(env:Env)(Z:Rho)(s:Shared)(Q:Loc->Hp->Prop)(s':Shared):Prop :=
 ∃ρ' σ' loc',bA (dT env) Z s ρ' s'/\bU W s'.heap ρ' σ'/\bJ W env loc' ρ' s'.heap/\Q loc' σ'
section
variable{P:ia}{k:Nat}{c:V}{x:Value}
theorem oD.trans{Q:Fl->Loc->Hp->Prop}{f:Flow}{s₁:Shared}(S:bA (dT env) Z s ρ' s₁)(h:oD W env ρ' s₁ Q f s'):oD W env Z s Q f s':=by
 exact eE h λρ'' σ' loc' fl h1 h2 h3 h4 h5=>⟨ρ'',σ',loc',fl,S.trans h1,h2,h3,h4,h5⟩
theorem HI.next{Q:Fl->Loc->Hp->Prop}(h:HI W env Z s (λloc J=>Q .next loc J) s'):oD W env Z s Q .next s':=by
 exact cR h λρ'' σ' loc' h1 h2 h3 h4=>⟨ρ'',σ',loc',.next,h1,h2,h3,trivial,h4⟩
theorem o7(X:fJ W P fa mg mb C k A){i:E}{tg:Expr}{Za:Hp->Prop}{Q':Unit->Shared->Prop}(hc:jy P nm e i tg=true)(hn:env.scope.names=nm)(O:bJ W env loc Z s.heap)(R:bU W s.heap Z J)(rv:aK W s.heap Z v y)
  (h:ev C e loc J λu J=>ev C i loc J λj J=>ds u j v J Za) (hQ:∀ρ' σ' s',bA gZ Z s ρ' s'->bU W s'.heap ρ' σ'->Za σ'->Q' () s'):wpAny (model W.prog W.w) A (assign tg env y) Q' Er s:=by
 refine cb (M:=λtg=>wpAny _ _ (assign tg env y) _ _ _) hc ft λo sl p hc=>?_;have hc:=aG hc;rw [arm_assign_Subscript];refine af (aT (j2 (dC X e hc.1 hn O R h) (λρa σa u ov s₁ S Ra tk ru h₁=>?_) R));refine af (aT (j2 (dC X i hc.2 hn (O.step0 R S) Ra h₁) (λρb σc j iv s₂ Sa Rb tk2 rj h₂=>?_) Ra));have S12:=S.trans Sa;refine af (wpAny_standAt (af (aT (BW (u:=.none) X.ok.wok X.room Rb (ru.mono tk2 Sa.pre) rj (rv.mono (tk.trans tk2) S12.pre) h₂ λh' t σ' Sb Re hq=>wpAny_release ?_))));exact hQ _ _ _ (S12.trans Sb) Re hq
theorem Ep{i e' i':E}{t1 t2:Expr}(h1:jy P nm e i t1=true)(h2:jy P nm e' i' t2=true):assignEach [t1,t2] env=[(false,assign t1 env),(false,assign t2 env)] :=
 cb (M:=λt1=>assignEach [t1,t2] env=[(false,assign t1 env),(false,assign t2 env)]) h1 ft λz_ z_ z_ z_=>cb (M:=λt2=>assignEach [.Subscript _ _ _,t2] env=[(false,assign (.Subscript _ _ _) env),(false,assign t2 env)]) h2 ft λz_ z_ z_ z_=>rfl
theorem Gl(X:fJ W P fa mg mb C k A){t:T}{tg:Expr}{Q:Loc->Hp->Prop}(hc:qu P nm t tg=true)(hn:env.scope.names=nm)(O:bJ W env loc Z s.heap)(R:bU W s.heap Z J)(rv:aK W s.heap Z v y)(h:HP C t v loc J Q) :
  wpAny (model W.prog W.w) A (assign tg env y) (λz_ s'=>HI W env Z s Q s') Er s:=by
 cases t with
 | name x =>
  refine dB (M:=λtg=>wpAny _ _ (assign tg env y) _ _ _) hc ft λid p hc=>?_;have hc:=aG hc;cases eq_of_beq hc.1;exact wpAny_assign_Name (O.store R rv (jR hn hc.2) λs₁ S tk R1 O1=>⟨Z,J,_,S,R1,O1,h⟩)
 | attr e at' =>
  refine cQ (M:=λtg=>wpAny _ _ (assign tg env y) _ _ _) hc ft λo n p hc=>?_;have h2:=aG hc;have h1:=aG h2.1;cases eq_of_beq h1.1;rw [arm_assign_Attribute];refine af (aT (j2 (dC X e h2.2 hn O R h) (λρa σa u ov s₁ S Ra tk ru h₁=>AM h₁ λn cl l e0 e1 hz hq=>?_) R));subst e0;refine af (wpAny_standAt (af (aT (yI (b:=v) X.ok.wok (qT h1.2) Ra ru (rv.mono tk S.pre) e1 hz λh' t Rb Sa=>wpAny_release ?_))));have S12:=S.trans Sa;exact ⟨ρa,_,loc,S12.any,Rb,O.step0 R S12,hq⟩
 | sub e i=>exact o7 X hc hn O R rv h λρ' σ' s' S R' hq=>⟨ρ',σ',loc,S.any,R',O.step0 R S,hq⟩
 | cut e hi =>
  refine cb (M:=λtg=>wpAny _ _ (assign tg env y) _ _ _) hc ft λo sl p hc=>pn (M:=λsl=>wpAny _ _ (assign (.Subscript o sl p) env y) _ _ _) hc ft λlw up st p' hc=>?_;have hc:=aG hc;have hd:=aG hc.1;have hd':=aG hd.1;cases Option.isNone_iff_eq_none.mp hd'.1;cases Option.isNone_iff_eq_none.mp hd'.2;rw [arm_assign_Subscript];refine af (aT (j2 (dC X e hc.2 hn O R h) (λρa σa u ov s₁ S Ra tk ru h₁=>AL h₁ λn m l l' e1 e2 g1 g2 hne h0 hh hz hq=>?_) R));subst e1;subst e2;refine af (aT (wpAny_Slice (al (uJ hd.2 λvu t pu=>?_))));refine al ?_
  cases pu with
  | int _ t' =>
  have k:∀b o,s₁.heap.get? b=some o->(s₁.heap.push {cls:=.type "slice",data:=.fields #[.none,.int hi t',.none]}).get? b=some o:=λz_ z_ e=>aJ _ e;have z:s₁.heap.objs.size<=(s₁.heap.push {cls:=.type "slice",data:=.fields #[.none,.int hi t',.none]}).objs.size:=by rw [bN];exact Nat.le_succ _
  have Sa:bA gZ ρa s₁ ρa {s₁ with heap:=s₁.heap.push {cls:=.type "slice",data:=.fields #[.none,.int hi t',.none]},toks:=t}:=cW k z;have S12:=S.trans Sa;refine af (wpAny_standAt (af (aT (Am (s:={s₁ with heap:=s₁.heap.push {cls:=.type "slice",data:=.fields #[.none,.int hi t',.none]},toks:=t}) (Ra.keep k z) (ru.mono (Sa.tup0 Ra) Sa.pre) (rv.mono (tk.trans (Sa.tup0 Ra)) S12.pre) g1 g2 hne h0 hh hz (Heap.IsSliceOf.new ..) λh' Sb Re=>wpAny_release ?_))));have S13:=S12.trans Sb;exact ⟨ρa,_,loc,S13.any,Re,O.step0 R S13,hq⟩
 | subs e i e' i' =>
  refine ej (M:=λtg=>wpAny _ _ (assign tg env y) _ _ _) hc ft λts kk p hc=>bH (M:=λts=>wpAny _ _ (assign (.Tuple ts kk p) env y) _ _ _) hc ft λt1 ts hc=>bH (M:=λts=>wpAny _ _ (assign (.Tuple (t1::ts) kk p) env y) _ _ _) hc ft λt2 ts hc=>bK (M:=λts=>wpAny _ _ (assign (.Tuple (t1::t2::ts) kk p) env y) _ _ _) hc ft λhc=>?_;have hc:=aG hc;refine Cq h λa b ev0 h=>?_;subst ev0;rw [arm_assign_Tuple];refine af (wpAny_standAt ?_);delta unpack;rw [Ep hc.1 hc.2];refine af (aT (kK (l:=[a,b]) X R rv rfl λys s₁ S R1 r=>?_));refine cU r.E λy1 ys e1 r1 rl=>?_;subst e1;refine cU rl.E λy2 ys e2 r2 rl=>?_;subst e2;refine af (aT (o7 X hc.1 hn (O.step0 R S) R1 r1 h λρb σc s₂ Sa Rb h₂=>?_));refine af (aT (o7 X hc.2 hn ((O.step0 R S).step0 R1 Sa) Rb (r2.mono (Sa.tup0 R1) Sa.pre) h₂ λρc σd s₃ Sb Re h₃=>?_));have S13:=(S.trans Sa).trans Sb;exact al ⟨ρc,σd,loc,S13.any,Re,O.step0 R S13,h₃⟩
 | names xs =>
  exact ej (M:=λtg=>wpAny _ _ (assign tg env y) _ _ _) hc ft λts kk p hc=>cf h λl h1 h=>cf h λloc' h2 hq=>nq X (aG hc).2 hn O R rv h1 h2 λs₁ S R1 O1=>⟨Z,J,loc',S,R1,O1,hq⟩
theorem CH{t:T}{tg:Expr}(hc:qu P nm t tg=true){v:Value}:assignAll v ((assignEach [tg] env).map (·.2))=assign tg env v:=by
 cases t with
 | name x=>exact dB (M:=λtg=>assignAll v ((assignEach [tg] env).map (·.2))=assign tg env v) hc ft λz_ z_ z_=>rfl
 | attr e n=>exact cQ (M:=λtg=>assignAll v ((assignEach [tg] env).map (·.2))=assign tg env v) hc ft λz_ z_ z_ z_=>rfl
 | sub e i=>exact cb (M:=λtg=>assignAll v ((assignEach [tg] env).map (·.2))=assign tg env v) hc ft λz_ z_ z_ z_=>rfl
 | names xs=>exact ej (M:=λtg=>assignAll v ((assignEach [tg] env).map (·.2))=assign tg env v) hc ft λz_ z_ z_ z_=>rfl
 | cut e i=>exact cb (M:=λtg=>assignAll v ((assignEach [tg] env).map (·.2))=assign tg env v) hc ft λz_ z_ z_ z_=>rfl
 | subs=>exact ej (M:=λtg=>assignAll v ((assignEach [tg] env).map (·.2))=assign tg env v) hc ft λz_ z_ z_ z_=>rfl
theorem t7{c:Prop} [Decidable c]{a b:α}{M:α->Prop}(h1:c->M a)(h2:¬c->M b):M (if c then a else b):=if h:c then by rw [if_pos h];exact h1 h else by rw [if_neg h];exact h2 h
theorem F2{a b:Nat}(h:(a !=b)=true->False):a=b:=Decidable.byContradiction λe=>h (bne_iff_ne.2 e)
theorem nz{f:Expr->Option Str}(hf:∀id p,f (.Name id p)=some id\/f (.Name id p)=none):∀{xs:List String} {ts:List Expr},iR nm xs ts=true->(ts.filterMap f).length=ts.length->ts.filterMap f=xs.map Str.ofString
 | [],ts,hc,_=>bK (M:=λts=>ts.filterMap f=[]) hc ft λz_=>rfl
 | x::xs,ts,hc,hl=>lX (M:=λts=>(ts.filterMap f).length=ts.length->ts.filterMap f=Str.ofString x::xs.map Str.ofString) hc (λp ts z_ h hl=>by
   rcases hf (Str.ofString x) p with e | e
   ·rw [List.filterMap_cons_some e] at hl ⊢;rw [nz hf h (Nat.succ.inj hl)]
   ·rw [List.filterMap_cons_none e,List.length_cons] at hl;exact absurd (List.length_filterMap_le f ts) (by rw [hl];exact Nat.not_succ_le_self _)) hl
theorem yS{xs:List String}{ts:List Expr}{kk:Nat}{p:Pos}{v:Expr}(hc:iR nm xs ts=true)(hf:qV (.Tuple ts kk p) v=true) :
  ∃r,swappedStores [.Tuple ts kk p] v env=pure r/\(r=none\/r=some (xs.map Str.ofString)):=by
 rcases Classical.em (v.ctorIdx=25) with q | q
 ·refine Expr.Tuple.elim (motive_1:=λv=>qV (.Tuple ts kk p) v=true->∃r,swappedStores [.Tuple ts kk p] v env=pure r/\(r=none\/r=some (xs.map Str.ofString))) v q (λvs k2 p2 hf=>?_) hf;refine t7 (M:=λm=>∃r,m=pure r/\(r=none\/r=some (xs.map Str.ofString))) (λz_=>⟨none,rfl,.inl rfl⟩) λz_=>t7 (M:=λm=>∃r,m=pure r/\(r=none\/r=some (xs.map Str.ofString))) (λz_=>⟨none,rfl,.inl rfl⟩) λz_=>t7 (M:=λm=>∃r,m=pure r/\(r=none\/r=some (xs.map Str.ofString))) (λz_=>⟨none,rfl,.inl rfl⟩) λh3=>t7 (M:=λm=>∃r,m=pure r/\(r=none\/r=some (xs.map Str.ofString))) (λz_=>⟨none,rfl,.inl rfl⟩) λh4=>t7 (M:=λm=>∃r,m=pure r/\(r=none\/r=some (xs.map Str.ofString))) (λh5=>?_) λz_=>⟨_,rfl,.inr (congrArg some (nz (λid p=>t7 (M:=λm=>m=some id\/m=none) (λz_=>.inl rfl) λz_=>.inr rfl) hc ?_))⟩
  ·rcases cz.1 (aG hf).1 with h | h
   ·exact absurd h h4
   ·exact absurd h5 (ne_true_of_eq_false (mP h))
  ·exact F2 (λh=>h3 (Bool.or_eq_true_iff.2 (.inl h)))
 ·refine ⟨none,?_,.inl rfl⟩;cases v<;>first | rfl | exact absurd rfl q
end
noncomputable abbrev rY(W:Wd)(P:ia)(C:Hd)(A:Around)(st:S):Prop:=∀{x:Stmt} {nm:Nm} {env:Env} {loc:Loc} {Z:Rho} {J:Hp} {s:Shared} {Q:Fl->Loc->Hp->Prop} {Er:Value->Shared->Prop},
 Ji P nm st x=true->env.scope.names=nm->bJ W env loc Z s.heap->bU W s.heap Z J->ex C st loc J Q->wpAny (model W.prog W.w) A (exec x env) (oD W env Z s Q) Er s
noncomputable abbrev mX(W:Wd)(P:ia)(C:Hd)(A:Around)(l:List S):Prop:=∀{xs:List Stmt} {nm:Nm} {env:Env} {loc:Loc} {Z:Rho} {J:Hp} {s:Shared} {Q:Fl->Loc->Hp->Prop} {Er:Value->Shared->Prop},
 nt P nm l xs=true->env.scope.names=nm->bJ W env loc Z s.heap->bU W s.heap Z J->ez C l loc J Q->wpAny (model W.prog W.w) A (execs xs env) (oD W env Z s Q) Er s
section
variable{P:ia}{k:Nat}{c:V}{x:Value}
theorem Cy{y:Expr}{gens:List Comprehension}{sc:Scope}{M:E->Prop}(h:cy P nm e (.ListComp y gens sc pos)=true)(k1:∀elt t k l ifs,M (.comp elt t k l ifs))(k2:∀elt t k l t' k' l' ifs,M (.comp2 elt t k l t' k' l' ifs)):M e:=by
 cases e with
 | comp elt t k l ifs=>exact k1 elt t k l ifs
 | comp2 elt t k l t' k' l' ifs=>exact k2 elt t k l t' k' l' ifs
 | const v=>cases v<;>exact absurd h ft
 | _=>exact absurd h ft
noncomputable def Sw(v tg:Expr)(line:Nat)(env:Env):Prop:=∃b,swapsWith v (some tg) line env=pure b/\(b=true->v.ctorIdx=8/\tg.ctorIdx=23)
theorem Hz{v tg:Expr}{line:Nat}(h:swapsWith v (some tg) line env=pure false):Sw v tg line env:=⟨false,h,bF⟩
theorem Ew{v tg:Expr}{line:Nat}(h:cy P nm e v=true):Sw v tg line env:=by
 have h:=oJ h
 cases v with
 | ListComp y gens sc pos =>
  cases tg with
  | Name id p=>exact ⟨_,rfl,λz_=>⟨rfl,rfl⟩⟩
  | _=>exact Hz rfl
 | SetComp | DictComp=>exact bF h
 | _=>exact Hz rfl
theorem mi{x y:String}{w:V}(h:x≠y):setL (setL loc x v) y w=setL (setL loc y w) x v:=by
 funext z
 delta setL;refine Or.elim (Classical.em (z=y)) (λh1=>?_) (λh1=>?_)
 ·subst h1;rw [if_pos rfl,if_neg (λe=>h e.symm),if_pos rfl]
 ·rw [if_neg h1];refine Or.elim (Classical.em (z=x)) (λh2=>?_) (λh2=>?_)
  ·rw [if_pos h2,if_pos h2]
  ·rw [if_neg h2,if_neg h2,if_neg h1]
theorem uQ{xs:List String}(hl:xs.length=2\/xs.length=3)(hd:xs.Nodup)(h:hJ xs l loc=some loc'):hJ xs.reverse l.reverse loc=some loc':=by
 rcases xs with _ | ⟨a,_ | ⟨b,xs⟩⟩
 ·exact hl.elim nofun nofun
 ·exact hl.elim nofun nofun
 rcases l with _ | ⟨u,_ | ⟨v,l⟩⟩
 ·exact cr h
 ·exact cr h
 have d:=List.nodup_cons.1 hd;have ab:a≠b:=λe=>d.1 (e▸ai);rcases xs with _ | ⟨c,_ | ⟨_,_⟩⟩
 ·rcases l with _ | ⟨w,l⟩
  ·exact (congrArg some (mi (bg ab))).trans h
  ·exact cr h
 ·rcases l with _ | ⟨w,_ | ⟨_,_⟩⟩
  ·exact cr h
  ·have ac:a≠c:=λe=>d.1 (e▸.tail _ (.head _));have bc:b≠c:=λe=>(List.nodup_cons.1 d.2).1 (e▸.head _);refine (congrArg some ?_).trans h;rw [mi (x:=c) (y:=b) bc.symm,mi (x:=c) (y:=a) ac.symm,mi (x:=b) (y:=a) ab.symm]
  ·exact cr h
 ·exact hl.elim nofun nofun
theorem sU:∀{xs:List String} {ts:List Expr},iR nm xs ts=true->∀x∈xs,jQ nm (Str.ofString x)=true
 | [],ts,hc,x,hx=>absurd hx aq
 | x::xs,ts,hc,y,hy=>lX (M:=λz_=>jQ nm (Str.ofString y)=true) hc λp ts h1 h=>(aO.mp hy).elim (λe=>e▸h1) (sU h y)
theorem qo:∀{xs:List String} {l:List V} {ys:List Value} {loc loc':Loc} {s:Shared} {Q':Unit->Shared->Prop},(∀x∈xs,jQ nm (Str.ofString x)=true)->env.scope.names=nm->bJ W env loc Z s.heap->bU W s.heap Z J->bo W s.heap Z l ys->hJ xs l loc=some loc'->
  (∀s',bA (dT env) Z s Z s'->bU W s'.heap Z J->bJ W env loc' Z s'.heap->Q' () s')->wpAny (model W.prog W.w) A (assignInOrder ((xs.map Str.ofString).map λn=>bindName env n) ys) Q' Er s
 | [],[],ys,loc,loc',s,Q',hc,hn,O,R,r,h,hQ=>by
  cases h;exact al (hQ s (bA.refl ..) R O)
 | x::xs,v::l,ys,loc,loc',s,Q',hc,hn,O,R,r,h,hQ=>by
  refine cU r.E λy ys q rv rl=>?_;subst q;refine af (aT (wpAny_bindName (O.store R rv (jR hn (hc x ai)) λs₁ S tk R1 O1=>?_)));exact qo (λy hy=>hc y (aj _ hy)) hn O1 R1 (rl.mono tk (aD _)) h λs₂ S2 R2 O2=>hQ s₂ (S.trans S2) R2 O2
 | [],_::_,_,_,_,_,_,_,_,_,_,_,h,_=>cr h
 | _::_,[],_,_,_,_,_,_,_,_,_,_,h,_=>cr h
theorem BA{ys:List Value}(r:bo W h Z l ys):bo W h Z l.reverse ys.reverse :=
 r.ind (M:=λl ys=>bo W h Z l.reverse ys.reverse) .nil λx z_ m=>by rw [List.reverse_cons,List.reverse_cons];exact m.append (.cons x .nil)
theorem xx{t:T}{ts:List Expr}{kk:Nat}{p:Pos}{M:T->Prop}(h:qu P nm t (.Tuple ts kk p)=true)(k:∀xs:List String,xs.length=2\/xs.length=3->xs.Nodup->iR nm xs ts=true->M (.names xs))
  (k2:∀e i e' i' t1 t2,ts=[t1,t2]->jy P nm e i t1=true->jy P nm e' i' t2=true->M (.subs e i e' i')):M t:=by
 cases t with
 | subs e i e' i' =>
  exact bH (M:=λts'=>ts=ts'->M (.subs e i e' i')) h ft (λt1 r h=>bH (M:=λr=>ts=t1::r->M (.subs e i e' i')) h ft λt2 r h=>bK (M:=λr=>ts=t1::t2::r->M (.subs e i e' i')) h ft λh q=>k2 _ _ _ _ t1 t2 q (aG h).1 (aG h).2) rfl
 | names xs =>
  have h1:=aG h;have h2:=aG h1.1;exact k xs (aB h2.1) (aB h2.2) h1.2
 | _=>exact absurd h ft
theorem uY{i e' i':E}{t1 t2 v:Expr}{kk:Nat}{p:Pos}(h1:jy P nm e i t1=true)(h2:jy P nm e' i' t2=true):swappedStores [.Tuple [t1,t2] kk p] v env=pure none:=by
 refine cb (M:=λt1=>swappedStores [.Tuple [t1,t2] kk p] v env=pure none) h1 ft λz_ z_ z_ z_=>cb (M:=λt2=>swappedStores [.Tuple [.Subscript _ _ _,t2] kk p] v env=pure none) h2 ft λz_ z_ z_ z_=>?_;clear h1 h2;rcases Classical.em (v.ctorIdx=25) with q | q
 ·refine Expr.Tuple.elim (motive_1:=λv=>swappedStores [.Tuple [.Subscript _ _ _,.Subscript _ _ _] kk p] v env=pure none) v q (λvs k2 p2=>?_);exact t7 (M:=λm=>m=pure none) (λz_=>rfl) λz_=>t7 (M:=λm=>m=pure none) (λz_=>rfl) λz_=>t7 (M:=λm=>m=pure none) (λz_=>rfl) λh3=>absurd rfl h3
 ·cases v<;>first | rfl | exact absurd rfl q
theorem Ag{t:T}{id:Str}{p:Pos}{M:T->Str->Prop}(h:qu P nm t (.Name id p)=true)(k:∀x,jQ nm (Str.ofString x)=true->M (.name x) (Str.ofString x)):M t id:=by
 cases t with
 | name x =>
  have h:=aG h;cases eq_of_beq h.1;exact k x h.2
 | _=>exact absurd h ft
theorem Cp(X:fJ W P fa mg mb C k A){xn:String}{y:Expr}{gens:List Comprehension}{sc:Scope}{p pos':Pos}{Q:Fl->Loc->Hp->Prop}(h3:cy P nm e (.ListComp y gens sc pos')=true)(hv:jQ nm (Str.ofString xn)=true)(hn:env.scope.names=nm)(O:bJ W env loc Z s.heap)(R:bU W s.heap Z J)
  (h:ev C e loc J λv J=>Q .next (setL loc xn v) J) :
  wpAny (model W.prog W.w) A (comprehension (.ListComp y gens sc pos') sc env (firstIterPos gens pos') (newList []) (firstAsync gens) (firstIter gens env) (some λv=>assign (.Name (Str.ofString xn) p) env v)) (λz_ s'=>oD W env Z s Q .next s') Er s:=by
 have hu:∀acc Ca s',vc W Z s (λv J=>Q .next (setL loc xn v) J) acc Ca s'->compPost (model W.prog W.w) A Er (some λv=>assign (.Name (Str.ofString xn) p) env v) (λz_ s'=>oD W env Z s Q .next s') acc Ca (.ok .next) s':=λacc Ca s' hf=>by
  refine kL hf λρa σa u S Ra ru hq r ap hCa=>xe r λm hm=>?_;have O1:=O.step0 R S;refine wpAny_assign_Name (O1.store Ra ru (jR hn hv) λs₂ S2 tk2 R2 O2=>?_);have notOwn:¬dT env Ca:=λq=>absurd (O.apart Ca q).2.1 (ci.mpr hCa);refine rT hm λo es ep ho hd hk=>?_;have ho2:=S2.keep _ _ ho notOwn ap.2.2;refine ⟨m,⟨o,es,ep,ho2,hd,hk⟩,λh' hs=>?_⟩;have ap2:cE W ρa s₂.heap Ca:=ap.step S2;refine xa (R2.own' (O:=λz=>z=Ca) (h':=h') (λz e=>e▸ap2) (λz o' e g=>by subst e;rw [ho2] at g;cases g;exact λn=>y6 n λz_ z_ j=>xe j λz_ q=>by rw [hd] at q;cases q) (λb o hb e=>(hs.2 b hb).trans e) (by rw [hs.1];exact ay _)) λtk3 R3=>?_;have S3:bA (λz=>z=Ca) ρa s₂ ρa {s₂ with heap:=h'}:=bA.priv (X:=λz=>z=Ca) (t:=s₂.toks) (λb o hb e=>(hs.2 b hb).trans e) (by rw [hs.1];exact ay _);have O3:=O2.step S3 tk3 λz hz e=>notOwn (e▸hz);have SS:bA (λz=>dT env z\/z=Ca) Z s ρa {s₂ with heap:=h'}:=(S.any.trans (S2.weaken λz hz=>.inl hz)).trans (S3.weaken λz hz=>.inr hz);exact ⟨ρa,σa,_,.next,SS.drop λz hz=>hz.imp id λe=>by rw [e];exact hCa,R3,O3,trivial,hq⟩
 have kg:∀y' gens' sc' pos'',firstAsync gens'=false->wpAny (model W.prog W.w) A (comprehension (.ListComp y' gens' sc' pos'') sc' env (firstIterPos gens' pos'') (newList []) (firstAsync gens') (firstIter gens' env) (some λv=>assign (.Name (Str.ofString xn) p) env v)) (λz_ s'=>oD W env Z s Q .next s') Er s->Expr.ListComp y gens sc pos'=.ListComp y' gens' sc' pos''->_:=λy' gens' sc' pos'' z_ hw e=>by
  cases e;exact hw
 exact Cy (M:=λe=>cy P nm e _=true->ev C e loc J _->_) h3
  (λelt t kk l ifs h3 h=>vF (MG:=λx=>Expr.ListComp y gens sc pos'=x->_) X (λe z_=>dC X e) (dC X elt) (th X ifs) h3 hn O R h hu kg rfl)
  (λelt t kk l t' kk' l' ifs h3 h=>sG (MG:=λx=>Expr.ListComp y gens sc pos'=x->_) X (λe z_=>dC X e) (λe z_=>dC X e) (dC X elt) (th X ifs) h3 hn O R h hu kg rfl) h3 h
end
section
variable{P:ia}{k:Nat}{c:V}{x:Value}
theorem FZ{t:T}{tg v:Expr}(hc:qu P nm t tg=true)(h:tg.ctorIdx≠25):swappedStores [tg] v env=pure none:=by
 have h1:tg.ctorIdx≠24:=λq=>by
  refine Expr.List.elim (motive_1:=λtg=>qu P nm t tg=true->False) tg q (λz_ z_ hc=>?_) hc;cases t<;>exact absurd hc ft
 clear hc;cases tg<;>first | rfl | exact absurd rfl h | exact absurd rfl h1
theorem yL(X:fJ W P fa mg mb C k A){t:T}{tg v:Expr}{u:V}{Q:Fl->Loc->Hp->Prop}(h1:qu P nm t tg=true)(h2:qV tg v=true)(hn:env.scope.names=nm)(O:bJ W env loc Z s.heap)(R:bU W s.heap Z J)(ru:aK W s.heap Z u y)(h:HP C t u loc J (Q .next)) :
  wpAny (model W.prog W.w) A (do assignStores env y (<-swappedStores [tg] v env) ((assignEach [tg] env).map (·.2))) (oD W env Z s Q) Er s:=by
 have plain:wpAny (model W.prog W.w) A (do assignAll y ((assignEach [tg] env).map (·.2));pure Flow.next) (oD W env Z s Q) Er s:=by
  rw [CH h1];exact af (aI (Gl X h1 hn O R ru h) (λz_ s₂ o=>al o.next) λz_ z_ e=>e)
 refine Or.elim (Classical.em (tg.ctorIdx=25)) (λht=>?_) (λht=>?_)
 ·refine Expr.Tuple.elim (motive_1:=λtg=>qu P nm t tg=true->qV tg v=true->wpAny _ _ (do assignAll y ((assignEach [tg] env).map (·.2));pure Flow.next) _ _ _->wpAny _ _ (do assignStores env y (<-swappedStores [tg] v env) ((assignEach [tg] env).map (·.2))) _ _ _) tg ht (λts kk p h1 h2 plain=>?_) h1 h2 plain;refine xx (M:=λt=>HP C t u loc J (Q .next)->wpAny _ _ (do assignStores env y (<-swappedStores [.Tuple ts kk p] v env) ((assignEach [.Tuple ts kk p] env).map (·.2))) _ _ _) h1 (λxs hl hd hns h=>?_) (λe i e' i' t1 t2 q c1 c2 h=>?_) h
  ·refine bO (yS (v:=v) (env:=env) (kk:=kk) (p:=p) hns h2) λr hr hr'=>af (wpAny_of_eq hr ?_);rcases hr' with rfl | rfl
   ·exact plain
   ·refine cf h λl g1 h=>cf h λloc' g2 hq=>?_;show wpAny _ _ (do
     rule "assign.swapped-stores"
     let items <-unpackItems y (xs.map Str.ofString).length none
     assignInOrder ((xs.map Str.ofString).reverse.map λn=>bindName env n) items.reverse
     pure Flow.next) _ _ _
    refine af (wpAny_rule (af ?_));rw [aM,<-kH g2];refine kK X R ru g1 λys s₂ S2 R2 r=>?_;rw [<-List.map_reverse];exact af (qo (λx hx=>sU hns x (List.mem_reverse.mp hx)) hn (O.step0 R S2) R2 (BA r) (uQ hl hd g2) λs₃ S3 R3 O3=>al ⟨Z,J,loc',.next,S2.any.trans S3,R3,O3,trivial,hq⟩)
  ·subst q;exact af (wpAny_of_eq (a:=none) (uY c1 c2) plain)
 ·exact af (wpAny_of_eq (a:=none) (FZ h1 ht) plain)
theorem Ed(X:fJ W P fa mg mb C k A){t:T}{tg v:Expr}{Q:Fl->Loc->Hp->Prop}(h1:qu P nm t tg=true)(h3:cy P nm e v=true)(q1:v.ctorIdx=8)(q2:tg.ctorIdx=23)(hn:env.scope.names=nm)(O:bJ W env loc Z s.heap)(R:bU W s.heap Z J)(h:ev C e loc J (t9 C t Q loc)) :
  wpAny (model W.prog W.w) A (do evalThenUse v env λw=>assignAll w ((assignEach [tg] env).map (·.2));pure Flow.next) (oD W env Z s Q) Er s:=by
 refine Expr.ListComp.elim (motive_1:=λv=>cy P nm e v=true->wpAny _ _ (do evalThenUse v env λw=>assignAll w ((assignEach [tg] env).map (·.2));pure Flow.next) _ _ _) v q1 (λy gens sc pos' h3=>?_) h3;refine Expr.Name.elim (motive_1:=λtg=>qu P nm t tg=true->wpAny _ _ (do evalThenUse _ env λw=>assignAll w ((assignEach [tg] env).map (·.2));pure Flow.next) _ _ _) tg q2 (λid p h1=>?_) h1;refine Ag (M:=λt id=>ev C e loc J (t9 C t Q loc)->wpAny _ _ (do evalThenUse _ env λw=>assignAll w ((assignEach [.Name id p] env).map (·.2));pure Flow.next) _ _ _) h1 (λxn hv h=>?_) h;show wpAny _ _ (do
  (do let _ <-comprehension (.ListComp y gens sc pos') sc env (firstIterPos gens pos') (newList []) (firstAsync gens) (firstIter gens env) (some λv=>assign (.Name (Str.ofString xn) p) env v))
  pure Flow.next) _ _ _
 exact af (af (aI (Cp (Er:=Er) (p:=p) X h3 hv hn O R h) (λz_ s₂ o=>al (al o)) λz_ z_ e=>e))
theorem yJ(X:fJ W P fa mg mb C k A){t:T}:rY W P C A (.assign t e):=λ{x nm env loc Z J s Q Er} hc hn O R h=>by
 refine sg (M:=λx=>wpAny _ _ (exec x env) _ _ _) hc ft λts v pos hc=>bH (M:=λts=>wpAny _ _ (exec (.Assign ts v pos) env) _ _ _) hc ft λtg r hc=>bK (M:=λr=>wpAny _ _ (exec (.Assign (tg::r) v pos) env) _ _ _) hc ft λhc=>?_;have h3:=aG hc;have h1:=aG h3.1;refine bO (Ew (env:=env) (tg:=tg) (line:=pos.line) h3.2) λb hb hb'=>?_;rw [arm_exec_Assign];refine af (wpAny_standAt (af (wpAny_of_eq (a:=b) (show swapsWithSole [tg] v pos.line env=pure b from hb) ?_)))
 cases b with
 | false =>
  exact af (j2 (dC X e h3.2 hn O R h) (λρa σa u y s₁ S Ra z_ ru h₁=>aI (yL X h1.1 h1.2 hn (O.step0 R S) Ra ru h₁) (λz_ z_ o=>o.trans S.any) λz_ z_ e=>e) R)
 | true=>exact Ed X h1.1 h3.2 (hb' rfl).1 (hb' rfl).2 hn O R h
theorem Ec(X:fJ W P fa mg mb C k A):rY W P C A (.expr e):=λ{x nm env loc Z J s Q Er} hc hn O R h=>by
 refine wu (M:=λx=>wpAny _ _ (exec x env) _ _ _) hc ft λv pos hc=>?_;have hc:=aG hc;rw [arm_exec_Expr];have hi:interactive env=false:=by unfold interactive;rw [O.kind];rfl
 have hsw:swapsWith v none pos.line env=pure false:=gI (M:=λv=>swapsWith v none pos.line env=pure false) hc.1 ft λz_ z_ z_ z_ z_=>rfl;refine af (wpAny_standAt ?_);rw [hi,if_neg (by decide)];refine af (wpAny_of_eq hsw ?_);rw [if_neg (by decide)];refine af (j2 (dC X e hc.2 hn O R h) (λρa σa u y s₁ S Ra z_ ru h₁=>?_) R);exact wpAny_dropValue ⟨ρa,σa,loc,.next,S.any,Ra,O.step0 R S,trivial,h₁⟩
theorem Gv(X:fJ W P fa mg mb C k A):rY W P C A (.ret e):=λ{x nm env loc Z J s Q Er} hc hn O R h=>by
 refine sh (M:=λx=>wpAny _ _ (exec x env) _ _ _) hc ft λv pos hc=>?_
 cases v with
 | some v=>exact wpAny_Return_some (j2 (dC X e hc hn O R h) (λρa σa u y s₁ S Ra z_ ru h₁=>⟨ρa,σa,loc,.ret u,S.any,Ra,O.step0 R S,ru,h₁⟩) R)
 | none =>
  cases vW hc;exact wpAny_Return_none ⟨Z,J,loc,.ret .none,bA.refl ..,R,O,.none,h⟩
theorem Ea:rY W P C A .cont:=λ{x nm env loc Z J s Q Er} hc hn O R h =>
 pH (M:=λx=>wpAny _ _ (exec x env) _ _ _) hc ft λz_ z_=>wpAny_Continue ⟨Z,J,loc,.cont,bA.refl ..,R,O,trivial,h⟩
theorem BE:rY W P C A .stuck:=λ{x nm env loc Z J s Q Er} hc hn O R h=>h.elim
theorem II(X:fJ W P fa mg mb C k A){c:E}{a b:List S}(iha:mX W P C A a)(ihb:mX W P C A b):rY W P C A (.ite c a b):=λ{x nm env loc Z J s Q Er} hc hn O R h=>by
 refine Bh (M:=λx=>wpAny _ _ (exec x env) _ _ _) hc ft λt y z pos hc=>?_;have h3:=aG hc;have h1:=aG h3.1;refine wpAny_If (aI (uR X c h1.1 hn O R h) (λr s₁ q=>cU q λρa σa S Ra hq=>?_) λz_ z_ e=>e)
 cases r with
 | true=>exact aI (iha h1.2 hn (O.step0 R S) Ra hq) (λz_ z_ o=>o.trans S.any) λz_ z_ e=>e
 | false=>exact aI (ihb h3.2 hn (O.step0 R S) Ra hq) (λz_ z_ o=>o.trans S.any) λz_ z_ e=>e
theorem IL:mX W P C A []:=λ{xs nm env loc Z J s Q Er} hc hn O R h =>
 bK (M:=λxs=>wpAny _ _ (execs xs env) _ _ _) hc ft λz_=>wpAny_execs_nil ⟨Z,J,loc,.next,bA.refl ..,R,O,trivial,h⟩
theorem Gy{st:S}{l:List S}(ih:rY W P C A st)(ihl:mX W P C A l):mX W P C A (st::l):=λ{xs nm env loc Z J s Q Er} hc hn O R h=>by
 refine Or.elim (cz.1 hc) (λhc=>?_) (λhc=>?_)
 ·cases st with
  | stuck=>exact h.elim
  | _=>exact (ft hc).elim
 refine bH (M:=λxs=>wpAny _ _ (execs xs env) _ _ _) hc ft λx xs hc=>?_;have hc:=aG hc;refine wpAny_execs_cons (aI (ih hc.1 hn O R h) (λf s₁ q=>eE q λρa σa locb fl S Ra Oa hf hq=>?_) λz_ z_ e=>e);cases f<;>cases fl<;>(try (exact hf.elim))
 ·exact aI (ihl hc.2 hn Oa Ra hq) (λz_ z_ o=>o.trans S) λz_ z_ e=>e
 ·exact ⟨ρa,σa,locb,.cont,S,Ra,Oa,trivial,hq⟩
 ·exact ⟨ρa,σa,locb,.ret _,S,Ra,Oa,hf,hq⟩
theorem BF(X:fJ W P fa mg mb C k A){c:E}{b:List S}(ihb:mX W P C A b):rY W P C A (.whil c b):=λ{x nm env loc Z J s Q Er} hc hn O R h=>by
 refine uC (M:=λx=>wpAny _ _ (exec x env) _ _ _) hc ft λt y z pos hc=>bK (M:=λz=>wpAny _ _ (exec (.While t y z pos) env) _ _ _) hc ft λhc=>?_
 ·have hc:=aG hc;refine xe h λn h=>wpAny_While (codeAny_whileLoop (λn' s'=>∃ρ' σ' loc',bA (dT env) Z s ρ' s'/\bU W s'.heap ρ' σ'/\bJ W env loc' ρ' s'.heap/\jB (u3 C c) (ez C b) n' loc' σ' Q) (λn' s' q=>cR q λρa σa locb S Ra Oa h₁=>?_) n ⟨Z,J,loc,bA.refl ..,R,O,h⟩)
  cases n' with
  | zero=>exact h₁.elim
  | succ m =>
   unfold jB at h₁;refine aI (uR X c hc.1 hn Oa Ra h₁) (λr s₂ w=>cU w λρb σc Sa Rb hq=>?_) λz_ z_ e=>e;have S12:=S.trans (Sa.any (Y:=dT env));have Oc:=Oa.step0 Ra Sa
   cases r with
   | false=>exact wpAny_execs_nil ⟨ρb,σc,locb,.next,S12,Rb,Oc,trivial,hq⟩
   | true =>
    rw [if_pos rfl];refine aI (ihb hc.2 hn Oc Rb hq) (λf s₃ u=>eE u λρc σd locc fl Sb Re Od hf hqa=>?_) λz_ z_ e=>e;cases f<;>cases fl<;>(try (exact hf.elim))
    ·exact ⟨m,bX _,ρc,σd,locc,S12.trans Sb,Re,Od,hqa⟩
    ·exact ⟨m,bX _,ρc,σd,locc,S12.trans Sb,Re,Od,hqa⟩
    ·exact ⟨ρc,σd,locc,.ret _,S12.trans Sb,Re,Od,hf,hqa⟩
end
section
variable{P:ia}{k:Nat}{c:V}{x:Value}
set_option tactic.hygienic true in
theorem vp{t:Tn}{tg:Expr}{Q':Unit->Shared->Prop}(X:fJ W P fa mg mb C k A)(hc:vB nm t tg=true)(hn:env.scope.names=nm)(O:bJ W env loc Z s.heap)(R:bU W s.heap Z J)(rv:aK W s.heap Z v y)(h:vo t v loc J=some loc')
  (hQ:∀s',bA (dT env) Z s Z s'->bU W s'.heap Z J->bJ W env loc' Z s'.heap->Q' () s'):wpAny (model W.prog W.w) A (assign tg env y) Q' Er s:=by
 cases t with
 | name x =>
  refine dB (M:=λtg=>wpAny _ _ (assign tg env y) _ _ _) hc ft λid p hc=>?_;have hc:=aG hc;cases eq_of_beq hc.1;cases h;exact wpAny_assign_Name (O.store R rv (jR hn hc.2) λs₁ S tk R1 O1=>hQ s₁ S R1 O1)
 | pair x1 x2 =>
  refine ej (M:=λtg=>wpAny _ _ (assign tg env y) _ _ _) hc ft λts kk p hc=>?_;have h3:iR nm [x1,x2] ts=true:=bH (M:=λts=>iR nm [x1,x2] ts=true) hc ft λu r hc=>bH (M:=λr=>iR nm [x1,x2] (u::r)=true) hc ft λw r hc=>bK (M:=λr=>iR nm [x1,x2] (u::w::r)=true) hc ft λhc=>have hc:=aG (aG hc).1
   Bool.and_eq_true_iff.2 ⟨hc.1,Bool.and_eq_true_iff.2 ⟨hc.2,rfl⟩⟩
  have h:(match gz J v with | some [a,b]=>some (setL (setL loc x1 a) x2 b) | _=>none)=some loc':=h;rcases e:gz J v with _ | ⟨_ | ⟨a,_ | ⟨b,_ | ⟨_,_⟩⟩⟩⟩<;>rw [e] at h<;>first | exact cr h | skip
  exact nq (xs:=[x1,x2]) X h3 hn O R rv e h hQ
theorem yz{t:Tn}{tg:Expr}(hc:vB nm t tg=true)(hp:qK t=true):∃e k p,tg=Expr.Tuple e k p:=by
 cases t with
 | name x=>cases hp
 | pair x y=>exact ej (M:=λtg=>∃e k p,tg=Expr.Tuple e k p) hc ft λe k p z_=>⟨e,k,p,rfl⟩
theorem CS(X:fJ W P fa mg mb C k A){t:Tn}{tg:Expr}{b:List S}{body:List Stmt}{owned:Bool}{ns:List Nat}{own:List Addr}{I:Addr}{St:Nat->Rho->Heap->Prop}{Q:Fl->Loc->Hp->Prop}{ρd:Rho}{s₀:Shared}{R':Result->Shared->Prop}
  (ihb:mX W P C A b) (hb:nt P nm b body=true) (ht:vB nm t tg=true) (hown:owned=true->qK t=true) (hn:env.scope.names=nm) (O:bJ W env loc Z s.heap) (R:bU W s.heap Z J) (It:mC W owned xs ns J own I St Mid) (st:St 0 Z s.heap) (S0:bA gZ ρd s₀ Z s) (hno:∀a∈own,¬dT env a) (hfr:∀a∈own,s₀.heap.objs.size<=a)
  (h:gh (b8 ns J) t (ez C b) xs loc J Q) (hR:∀f s',oD W env ρd s₀ Q f s'->R' (.ok f) s'):codeAny (model W.prog W.w) A (.forLoop tg (.ref I) body [] env) R' s:=by
 refine codeAny_forLoop_any (λn s'=>∃ρ' σ' loc' i,i<=xs.length/\n=xs.length-i/\bA (λa=>dT env a\/a∈own) Z s ρ' s'/\bU W s'.heap ρ' σ'/\bJ W env loc' ρ' s'.heap/\St i ρ' s'.heap/\gh (b8 ns J) t (ez C b) (xs.drop i) loc' σ' Q)
  (λn s₁ x=>pB x λρa σa locb i hi hni S1 R1 O1 st1 h1=>?_) xs.length ⟨Z,J,loc,0,aC _,rfl,bA.refl ..,R,O,st,h⟩
 have fin:∀{ρb s₂},bA (λa=>dT env a\/a∈own) Z s ρb s₂->bA (dT env) ρd s₀ ρb s₂:=λS=>(S0.any.trans S).drop λa ha=>ha.imp id λq=>hfr a q;have down:∀a,a∈own->¬dT env a:=hno;refine Or.elim (cS i xs.length) (λhlt=>?_) (λhge=>?_)
 ·rw [List.drop_eq_getElem_cons hlt] at h1;unfold gh at h1;refine xa h1 λsd h1=>?_
  split at h1
  ·rename_i loce hbt
   refine It.item X.hh st1 R1 sd (aA hlt) λu s₂ S2 tk2 R2 ru mid=>?_;refine It.go (λho=>yz ht (hown ho)) mid R2 λs₃ S3 tk3 R3 st3=>?_;have S23:=S2.trans S3;have O3:bJ W env locb ρa s₃.heap:=O1.step S23 (tk2.trans tk3) λa ha q=>hno a q ha;refine vp X ht hn O3 R3 (ru.mono tk3 (aD _)) hbt λs₄ S4 R4 O4=>?_;have st4:St (i+1) ρa s₄.heap:=It.kept st3 S4 (O3.tk R3 S4) hno;refine aI (ihb hb hn O4 R4 h1) (λf s₅ y=>eE y λρf σf locd fl S5 R5 O5 hf hq=>?_) λz_ z_ e=>e;have S15:bA (λa=>dT env a\/a∈own) Z s ρf s₅:=((S1.trans (S23.weaken λa ha=>.inr ha)).trans (S4.weaken λa ha=>.inl ha)).trans (S5.weaken λa ha=>.inl ha);have st5:St (i+1) ρf s₅.heap:=It.kept st4 S5 (O4.tk R4 S5) hno;cases f<;>cases fl<;>(try (exact hf.elim))
   ·exact ⟨xs.length-(i+1),Dt hni hlt,ρf,σf,locd,i+1,hlt,rfl,S15,R5,O5,st5,hq⟩
   ·exact ⟨xs.length-(i+1),Dt hni hlt,ρf,σf,locd,i+1,hlt,rfl,S15,R5,O5,st5,hq⟩
   ·exact hR _ _ ⟨ρf,σf,locd,.ret _,fin S15,R5,O5,hf,hq⟩
  ·exact h1.elim
 ·have hi':i=xs.length:=Nat.le_antisymm hi hge;subst hi';rw [List.drop_length] at h1;unfold gh at h1;refine It.done X.hh st1 R1 h1.1 λs₂ S2 tk2 R2=>?_;have O2:bJ W env locb ρa s₂.heap:=O1.step S2 tk2 λa ha q=>hno a q ha;exact wpAny_execs_nil (hR _ _ ⟨ρa,σa,locb,.next,fin (S1.trans (S2.weaken λa ha=>.inr ha)),R2,O2,trivial,h1.2⟩)
theorem Gp(X:fJ W P fa mg mb C k A){t:Tn}{kk:oB}{l:List E}{b:List S}(ihb:mX W P C A b):rY W P C A (.forr t kk l b):=λ{x nm env loc Z J s Q Er} hc hn O R h=>by
 refine yr (M:=λx=>wpAny _ _ (exec x env) _ _ _) hc ft λtg it body z pos hc=>bK (M:=λz=>wpAny _ _ (exec (.For tg it body z pos) env) _ _ _) hc ft λhc=>?_;have h4:=aG hc;have h3:=aG h4.1;have h2:=aG h3.1;have hlk:=h2.1;have ht:=h2.2;have hb:=h4.2;have hi:=h3.2;clear h2 h3 h4 hc;have hlk:=aG hlk;have hk3:(kk=.over\/kk=.range\/kk=.enum\/kk=.values)/\(Ga kk=true->qK t=true):=by
  have:=hlk.2;revert this;cases kk<;>cases qK t<;>decide
 refine pW (M:=λo=>dL nm kk it=o->_) hi (λas hi has=>ww (M:=λl as=>dL nm kk it=some as->ex C (.forr t kk l b) loc J Q->_) (aB hlk.1) hi (λe0 x' hx has h=>?_) has h) rfl;refine wpAny_For (aI (uT X (Er:=Er) (Q2:=λxs ns J=>gh (b8 ns J) t (ez C b) xs loc J Q) (dC X e0) hk3.1 has hx hn O R h) (λxv s₁ w=>rV w λρa σa xs ns S1 R1 hq rdy=>?_) λz_ z_ e=>e) (lY hk3.1 has hx env);refine rdy A Er _ X.hh λI s₂ own St Mid S2 R2 It st ho=>?_;have S12:=S1.trans S2;exact CS X ihb hb ht hk3.2 hn (O.step0 R S12) R2 It st S12 (λa ha q=>absurd (O.apart a q).2.1 (ci.mpr (ho a ha))) ho hq λf s' o=>o
end
section
variable{P:ia}{k:Nat}
mutual
theorem KD:∀(st:S) {W:Wd} (X:fJ W P fa mg mb C k A),rY W P C A st
 | .expr e,W,X=>Ec X
 | .assign t e,W,X=>yJ X
 | .ite c a b,W,X=>II X (tf a X) (tf b X)
 | .whil c b,W,X=>BF X (tf b X)
 | .forr t k l b,W,X=>Gp X (tf b X)
 | .ret e,W,X=>Gv X
 | .cont,W,X=>Ea
 | .stuck,W,X=>BE
theorem tf:∀(l:List S) {W:Wd} (X:fJ W P fa mg mb C k A),mX W P C A l
 | [],W,X=>IL
 | st::r,W,X=>Gy (KD st X) (tf r X)
end
end
theorem iQ{n:Str}:∀{names:Nm} {k:Nat} {acc:List (Str×Addr)},(n,NameKind.cell)∈names\/(acc.lookup n).isSome=true->((cellsFrom k names acc).lookup n).isSome=true
 | [],k,acc,h=>by
  refine Or.elim h (λh=>?_) (λh=>?_)
  ·cases h
  ·exact h
 | (m,kd)::r,k,acc,h=>by
  dsimp only [cellsFrom]
  split
  ·refine iQ (Or.elim h (λh=>?_) (λh=>?_))
   ·refine Or.elim (aO.mp h) (λe=>?_) (λh=>?_)
    ·cases e;right;simp
    ·exact .inl h
   ·right;rw [List.lookup_cons]
    split
    ·rfl
    ·exact h
  ·rename_i hk
   refine iQ (Or.elim h (λh=>?_) (λh=>?_))
   ·refine Or.elim (aO.mp h) (λe=>?_) (λh=>?_)
    ·cases e;exact absurd rfl hk
    ·exact .inl h
   ·exact .inr h
theorem sy{kf:Str->Option NameKind}{y:Str}:∀{b:List (Str×Value)} {m:Str->Option Value},(∀p∈b,p.1≠y)->bindL kf b m y=m y
 | [],m,h=>rfl
 | (n,v)::r,m,h=>by
  dsimp only [bindL];rw [sy λp hp=>h p (aj _ hp)];have:y≠n:=λe=>h (n,v) ai e.symm
  split
  ·exact if_neg this
  ·rfl
theorem sx{kf:Str->Option NameKind}{y:Str}:∀{b:List (Str×Value)} {m:Str->Option Value},(∀p∈b,p.1≠y)->bindC kf b m y=m y
 | [],m,h=>rfl
 | (n,v)::r,m,h=>by
  dsimp only [bindC];rw [sx λp hp=>h p (aj _ hp)];have:y≠n:=λe=>h (n,v) ai e.symm
  split
  ·rfl
  ·exact if_neg this
section
variable{P:ia}{k:Nat}{c:V}{x:Value}
theorem lv{ps:List String}{vals:List Value}{p:Str×Value}(h:p∈gO ps vals):∃x∈ps,p.1=Str.ofString x:=by
 have:=(List.of_mem_zip h).1;exact bO (List.mem_map.mp this) λx hx e=>⟨x,hx,e.symm⟩
theorem mG{h:Heap}{kf:Str->Option NameKind}:∀{ps:List String} {vs:List V} {vals:List Value} {m cm:Str->Option Value},ps.Nodup->bo W h Z vs vals->∀x v,jV ps vs x=some v->
  ∃u,aK W h Z v u/\(kf (Str.ofString x)=some .local->bindL kf (gO ps vals) m (Str.ofString x)=some u)/\(kf (Str.ofString x)=some .cell->bindC kf (gO ps vals) cm (Str.ofString x)=some u)
 | [],vs,vals,m,cm,nd,r,x,v,hv=>by simp [jV] at hv
 | p::ps,[],vals,m,cm,nd,r,x,v,hv=>by simp [jV] at hv
 | p::ps,w::vs,vals,m,cm,nd,r,x,v,hv=>by
  refine cU r.E λy ys t rv rl=>?_;subst t;refine xa (List.nodup_cons.mp nd) λn1 n2=>?_;unfold jV setL at hv;by_cases e:x=p
  ·subst e;rw [if_pos rfl] at hv;cases hv;refine ⟨y,rv,λhk=>?_,λhk=>?_⟩
   ·show bindL kf ((Str.ofString x,y)::gO ps ys) m _=_;dsimp only [bindL];rw [sy λq hq e=>?_,if_pos hk,if_pos rfl];exact bO (lv hq) λz hz e2=>n1 (dc (e.symm.trans e2)▸hz)
   ·show bindC kf ((Str.ofString x,y)::gO ps ys) cm _=_;dsimp only [bindC];rw [sx λq hq e=>?_,if_neg (by rw [hk];decide),if_pos rfl];exact bO (lv hq) λz hz e2=>n1 (dc (e.symm.trans e2)▸hz)
  ·rw [if_neg e] at hv;exact mG n2 rl x v hv
structure I6(W:Wd)(P:ia)(a:Addr)(d:fK)(o:Obj)(fd:FuncData)(body:List Stmt)(dv:List Value):Prop where
 ob:W.K.lookup a=some o
 dat:o.data=.func fd
 bd:fd.body=.stmts body
 g:fd.globals=mainGlobals
 b:fd.builtins=builtinsNs
 clo:fd.closure=[]
 k:fd.scope.kind=.function
 co:fd.scope.isCoroutine=false
 gen:fd.scope.isGenerator=false
 cd:codeIn W.K fd.code fd.qualname=true
 bind:∀vals:List Value,vals.length<=d.params.length->d.params.length<=vals.length+dv.length->∀S,peek W.K S (bindArgs fd ⟨vals,[]⟩)=some (gO d.params (vals++dv.drop (vals.length+dv.length-d.params.length)))
 dv:∀p:Addr->Prop,bo (W.at p) W.h₀ [] d.dflts dv
 var:∀x∈d.params,jQ fd.scope.names (Str.ofString x)=true
 nd:d.params.Nodup
 chk:nt P fd.scope.names d.body body=true
noncomputable abbrev HG(W:Wd)(P:ia)(a:Addr)(d:fK):Prop:=∃o fd body dv,I6 W P a d o fd body dv
theorem bJ.call{fd:FuncData}{f:Addr}{ps:List String}{vs:List V}{vals:List Value}{s₁:Shared}(hg:fd.globals=mainGlobals)(hb:fd.builtins=builtinsNs)(hk:fd.scope.kind=.function)(nd:ps.Nodup)(R:bU W s.heap Z J)(r:bo W s.heap Z vs vals)
  (X:InCallC s (callEnvC fd s.heap.objs.size f).locals (bindL (callEnvC fd s.heap.objs.size f).kindOf (gO ps vals) λz_=>none) (callEnvC fd s.heap.objs.size f).cells (bindC (callEnvC fd s.heap.objs.size f).kindOf (gO ps vals) λz_=>none) s₁) :
  bA gZ Z s Z s₁/\bU W s₁.heap Z J/\bJ W (callEnvC fd s.heap.objs.size f) (jV ps vs) Z s₁.heap/\∀a,dT (callEnvC fd s.heap.objs.size f) a->s.heap.objs.size<=a:=by
 refine dE X.done λh₁ tk w kk=>?_;subst w;have hLlt:s.heap.objs.size<h₁.objs.size:=X.toInCall.ns.lt;have hz:s.heap.objs.size<=h₁.objs.size:=cB hLlt;have S:bA gZ Z s Z {s with heap:=h₁,toks:=tk}:=cW kk hz;have R1:bU W h₁ Z J:=R.keep kk hz;have tk1:bv W s.heap h₁:=λb o e z_ z_=>kk b o e;have own:∀a,dT (callEnvC fd s.heap.objs.size f) a->s.heap.objs.size<=a:=λa ha=>by
  refine Or.elim ha (λe=>?_) (λy=>xe y λn e=>?_)
  ·rw [e];exact ay _
  ·exact cB (X.above n a (PySem.mem_of_lookup e))
 have live:∀a,dT (callEnvC fd s.heap.objs.size f) a->∃o,h₁.get? a=some o/\¬sP o:=λa ha=>by
  refine Or.elim ha (λe=>?_) (λz=>xe z λn e=>?_)
  ·refine rT X.toInCall.ns λo es ep q1 q2 z_=>?_;exact ⟨o,by rw [e];exact q1,λt=>y6 t λz_ z_ p=>xe p λz_ q=>by rw [q2] at q;cases q⟩
  ·refine bO (X.cell n a e) λo q1 q2=>?_;exact ⟨o,q1,λj=>y6 j λz_ z_ i=>xe i λz_ q=>by rw [q2] at q;cases q⟩
 refine ⟨S,R1,⟨hk,hg,hb,⟨_,X.toInCall.ns,λx v hv hkl=>?_⟩,λn hn=>?_,λx v hv hkc=>?_,λa ha=>?_,live,λn c e=>?_,λn n' c e e'=>?_⟩,own⟩
 ·exact cG (mG (kf:=(callEnvC fd s.heap.objs.size f).kindOf) (m:=λz_=>none) (cm:=λz_=>none) nd r x v hv) λu q1 q2 z_=>⟨u,q2 hkl,q1.mono tk1 (aD _)⟩
 ·have:=iQ (n:=n) (names:=fd.scope.names) (k:=s.heap.objs.size+1) (acc:=[]) (.inl (mem_of_lookup hn));exact xe (Option.isSome_iff_exists.mp this) λc hc=>⟨c,_,hc,X.cell n c hc⟩
 ·refine cG (mG (kf:=(callEnvC fd s.heap.objs.size f).kindOf) (m:=λz_=>none) (cm:=λz_=>none) nd r x v hv) λu q1 z_ q3=>?_;have:=iQ (n:=Str.ofString x) (names:=fd.scope.names) (k:=s.heap.objs.size+1) (acc:=[]) (.inl (mem_of_lookup hkc));refine xe (Option.isSome_iff_exists.mp this) λc hc=>?_;have hcell:=X.cell _ c hc;rw [q3 hkc] at hcell;exact ⟨c,u,hc,hcell,q1.mono tk1 (aD _)⟩
 ·exact bO (live a ha) λo q1 z_=>cE.new R (own a ha) (bW q1)
 ·exact bC (X.above n c (PySem.mem_of_lookup e))
 ·exact name_of_addr X.apart (PySem.mem_of_lookup e) (PySem.mem_of_lookup e')
end
theorem Cw{P:ia}{F:Tab}{p:Addr->Prop}{a:Addr}{d:fK}{o:Obj}{fd:FuncData}{body:List Stmt}{dv:List Value}{vs:List V}{vals:List Value}(ok:qc (W.at p) P fa mg mb)(lim:W.h₀.NoLimit)
  (fn:I6 W P a d o fd body dv) (co:∀p',qc (W.at p') P fa mg mb->tE (W.at p') fa (aZ F n) n) (h1:vs.length<=d.params.length) (h2:d.params.length<=vs.length+d.dflts.length) (h3:ez (aZ F n) d.body (jV d.params (vs++d.dflts.drop (vs.length+d.dflts.length-d.params.length))) J (uc Q))
  (hh:A.handled=none) (hdp:A.depth+3*(n+1)+5<=recursionLimit) (hun:A.units+20*(n+1)+60<=cLine) (R:bU (W.at p) s.heap Z J) (r:bo (W.at p) s.heap Z vs vals) :
  codeAny (model W.prog W.w) A (.call (.ref a) ⟨vals,[]⟩) (λr s'=>∃v,r=.ok (.ret v)/\cu (W.at p) Z s Q v s') s:=by
 have KX:W.K.In s.heap:=R.K ok.wok;have el:vals.length=vs.length:=r.length;have ed:dv.length=d.dflts.length:=(fn.dv p).length;have r':bo (W.at p) s.heap Z (vs++d.dflts.drop (vs.length+d.dflts.length-d.params.length)) (vals++dv.drop (vals.length+dv.length-d.params.length)):=by
  rw [el,ed];exact r.append (((fn.dv p).mono (λa o e z_ z_=>R.top a o e) List.nil_prefix).drop _)
 refine codeAny_call_function (ak (ax (aN _ _) (Nat.lt_add_of_pos_right (by decide))) hdp) (KX _ _ fn.ob) fn.dat fn.co fn.gen fn.bd (codeRec_of KX fn.cd) ?_;refine (Looks.of_peek KX (fn.bind vals (el▸h1) (by rw [el,ed];exact h2) _)).here ?_;rw [fn.clo];refine wpAny_newFunctionEnv_cells fn.k (λx hx=>?_) λenv he s₁ Y=>?_
 ·have ⟨y,hy,e⟩:=lv hx;rw [e];exact (cz.1 (fn.var y hy)).imp aB λq=>⟨aB q,iQ (.inl (mem_of_lookup (aB q)))⟩
 ·subst he;have Za:=bJ.call (f:=a) fn.g fn.b fn.k fn.nd R r' Y;refine ⟨lim.keeps λb o e=>Za.2.1.top b o e,codeAny_func ?_⟩;have X:fJ (W.at p) P fa mg mb (aZ F n) n (A.deeper (callEnvC fd s.heap.objs.size a)):=⟨ok,co,hh,by show A.depth+1+3*n+7<=_;rw [Nat.add_right_comm A.depth];exact hdp,by rw [Around.deeper_units,Nat.add_right_comm A.units];exact hun⟩
  refine aI (tf d.body X (env:=callEnvC fd s.heap.objs.size a) fn.chk rfl Za.2.2.1 Za.2.1 h3) (λf s₂ h=>?_) λz_ z_ e=>e;refine eE h λρb σc loce fl Sa Rb Oc hf hq=>⟨_,rfl,ρb,σc,_,(Za.1.any.trans Sa).drop λz hz=>.inr (Za.2.2.2 z hz),Rb,?_,hq⟩
  cases f<;>cases fl<;>first | exact hf.elim | exact .none | exact hf
theorem Ff{P:ia}{F:Tab}(T:∀key d,F key=some d->∃a,fa key=some a/\HG W P a d)(lim:W.h₀.NoLimit)(n:Nat):∀p:Addr->Prop,qc (W.at p) P fa mg mb->tE (W.at p) fa (aZ F n) n:=by
 induction n with
 | zero=>exact λp ok key vs J Q h=>by rw [xq] at h;exact h.elim
 | succ n ih =>
  intro p ok key vs J Q h;rw [qr] at h;exact oz h λd hd h1 h2 h3=>GR (T key d hd) λa ha o fd body dv fn=>⟨a,ha,λA s Z vals hh hdp hun R r=>Cw (W:=W) ok lim fn ih h1 h2 h3 hh hdp hun R r⟩
open Classical
theorem bG{a:Nat}{o o':Ob}(h:J[a]?=some o):(J.set a o')[a]?=some o':=by
 have:=(aE.mp h).1;rw [List.getElem?_set_self this]
theorem aR{a:Nat}{o':Ob}(h:a≠n):(J.set a o')[n]?=J[n]?:=List.getElem?_set_ne h
theorem a8{a:Nat}{o:Ob}(h:J[a]?=some o):a<J.length:=(aE.mp h).1
theorem aF{o:Ob}:(J++[o])[J.length]?=some o:=by simp
theorem aS{τ:Hp}{a:Nat}{o:Ob}(h:J[a]?=some o):(J++τ)[a]?=some o:=by
 rw [au (a8 h)];exact h
theorem az{τ:Hp}:J <+:J++τ:=cw _ _
theorem kD{a:Nat}{o:Ob}(h:J <+:σa)(ha:J.length<=a):J <+:σa.set a o:=by
 refine xe h λτ q=>?_;subst q;rw [List.set_append_right _ _ ha];exact az
theorem bS(h:J <+:σa):J.length<=σa.length:=h.length_le
theorem bR{a:Nat}{o:Ob}(h:J <+:σa)(e:J[a]?=some o):σa[a]?=some o:=iA h e
noncomputable def er(l:List V)(k:V):List V:=if k∈l then l else l++[k]
theorem eB:v∈er l k↔v∈l\/v=k:=by
 unfold er
 split
 ·rename_i h
  exact ⟨.inl,λe=>e.elim id λe=>e▸h⟩
 ·simp
theorem mO(h:l.Nodup):(er l k).Nodup:=by
 unfold er
 split
 ·exact h
 ·rename_i hk
  exact List.nodup_append.mpr ⟨h,by simp,λa ha b hb=>by rw [an.mp hb];exact λe=>hk (e▸ha)⟩
noncomputable def bZ(l:List V)(ns:List V):List V:=ns.foldl er l
theorem fy{a b:List V}:bZ l (a++b)=bZ (bZ l a) b:=List.foldl_append ..
noncomputable abbrev fX(ts:List V):List (V×V):=ts.map λt=>(t,V.bool true)
theorem CP(ts:List V)(k:V):(fX ts).find? (λp=>V.deq p.1 k)=if k∈ts then some (k,.bool true) else none:=by
 induction ts with
 | nil=>simp
 | cons t r ih =>
  simp only [fX,List.map_cons] at ih ⊢;by_cases h:t=k
  ·subst h;rw [List.find?_cons_of_pos (by exact V.deq_self t),if_pos ai]
  ·rw [List.find?_cons_of_neg (by rw [V.deq_ne h];simp),ih];simp only [List.mem_cons,show ¬k=t from λe=>h e.symm,false_or]
theorem CY(ts:List V)(k:V):getD (fX ts) k=if k∈ts then some (.bool true) else none:=by
 unfold getD;rw [CP]
 split<;>rfl
theorem DP(ts:List V)(k:V):gK (fX ts) k (.bool true)=fX (er ts k):=by
 unfold gK
 cases e:gF (fX ts) k with
 | some i =>
  refine xe (gG e) λv hv=>?_;rw [List.getElem?_map] at hv;refine bO (b0.mp hv) λt ht e2=>?_;cases e2;have hk:k∈ts:=List.mem_of_getElem? ht;unfold er;rw [if_pos hk];apply List.ext_getElem?;intro j;simp only [List.getElem?_modify,fX,List.getElem?_map]
  cases ts[j]? with
  | none=>simp
  | some t=>by_cases h:i=j<;>simp [h]
 | none =>
  have:=l0 e;unfold er;rw [if_neg (λh=>this (k,.bool true) (aX.mpr ⟨k,h,rfl⟩) rfl)];simp [fX]
theorem Em(ts:List V)(e:Nat)(k:V):∃e',gq (fX ts) e k (.bool true)=.dict (fX (er ts k)) e':=⟨_,by unfold gq;rw [DP]⟩
theorem iW(ts:List V):(fX ts).map (·.1)=ts:=by simp [fX,List.map_map,Function.comp_def]
theorem bq{F:Tab}{key:String×String}{vs:List V}{d:fK}(h:F key=some d)(h1:vs.length<=d.params.length)(h2:d.params.length<=vs.length+d.dflts.length)
  (h3:ez (aZ F n) d.body (jV d.params (vs++d.dflts.drop (vs.length+d.dflts.length-d.params.length))) J (uc Q)):aZ F (n+1) key vs J Q:=by
 rw [qr];exact ⟨d,h,h1,h2,h3⟩
noncomputable def KM:BM->Bool | .append | .extend | .lpop=>true | _=>false
section
variable{m:List (V×V)}{e:Nat}{w:V}
theorem aU{c f:String}{l:List (String×V)}{Q:Unit->Prop}(h:J[n]?=some (.inst c l))(h2:nC l f=none)(q:Q ()):dn (wl J (.obj n) c f) Q:=by
 have:wl J (.obj n) c f=some ():=by unfold wl;simp only [h,h2,decide_true]
 rw [this];exact q
theorem bY{c a:String}{l:List (String×V)}{Q:V->Prop}(h:J[n]?=some (.inst c l))(h2:nC l a=some w)(q:Q w):dn (sw J (.obj n) a) Q:=by
 have:sw J (.obj n) a=some w:=by unfold sw;simp only [h];exact h2
 rw [this];exact q
theorem iw{r:Bool}{Q:Bool->Prop}(h:C2 J a b=some r)(q:Q r):dn (jL .isIn J a b) Q:=aw h q
theorem nT{r:Bool}{Q:Bool->Prop}(h:C2 J a b=some r)(q:Q (!r)):dn (jL .notIn J a b) Q:=aw (show (C2 J a b).map (!·)=_ by rw [h];rfl) q
theorem bD{i:Int}{Q:V->Prop}(h:J[n]?=some (.list l))(hl:l.length<big)(h2:zE l i=some w)(q:Q w):dn (jT J (.obj n) (.int i)) Q:=aw ((cF h).trans ((if_pos hl).trans h2)) q
theorem jS{Q:V->Prop}(h:J[n]?=some (.dict m e))(hk:k.key=true)(hd:k.dep<=6)(h2:getD m k=some w)(q:Q w):dn (jT J (.obj n) k) Q:=aw ((fz h).trans ((if_pos (Bool.and_eq_true_iff.2 ⟨hk,bp hd⟩)).trans h2)) q
theorem Dw{a b:Nat}{x y:List V}(h1:J[a]?=some (.list x))(h2:J[b]?=some (.list y))(d1:V.dats x=true)(d3:V.deps x<=6)(d2:V.dats y=true):Im J (.obj a) (.obj b)=some (V.deq (.tup x) (.tup y)):=(cF h1).trans ((cF h2).trans (if_pos (by rw [d1,d2,bp d3];rfl)))
theorem A7{b:BM}(h:J[n]?=some (.list l))(hb:KM b=true):Iu b J (.obj n)=true:=by
 have:=congrArg Option.isSome (cF (f:=λz_=>some ()) (g:=λz_ z_=>none) h);cases b<;>first | cases hb;done | exact this
theorem Hh{b:BM}(h:J[n]?=some (.dict m e))(hb:KM b=false):Iu b J (.obj n)=true:=by
 have:=congrArg Option.isSome (fz (f:=λz_=>none) (g:=λz_ z_=>some ()) h);cases b<;>first | cases hb;done | exact this
theorem lU(h:J[n]?=some (.list l))(hl:l.length<big)(q:Q .none (J.set n (.list (l++[w])))):xp .append (.obj n) [w] J Q:=dZ h ⟨hl,q⟩
theorem fT{l':List V}(h:J[n]?=some (.list l))(h2:gz J w=some l')(hl:l.length+l'.length<big)(q:Q .none (J.set n (.list (l++l')))):xp .extend (.obj n) [w] J Q:=dZ h (aw h2 ⟨hl,q⟩)
theorem zy(h:J[n]?=some (.list l))(hl:l.length<big)(h2:l.getLast?=some w)(q:Q w (J.set n (.list l.dropLast))):xp .lpop (.obj n) [] J Q:=dZ h ⟨hl,aw h2 q⟩
theorem zo(h:J[n]?=some (.dict m e))(hk:k.key=true)(hd:k.dep<=6)(q:Q ((getD m k).getD .none) J):xp .get (.obj n) [k] J Q:=jU h ⟨⟨hk,hd⟩,q⟩
theorem pM(h:J[n]?=some (.dict m e))(hk:k.key=true)(hd:k.dep<=6)(q:Q ((getD m k).getD w) J):xp .get (.obj n) [k,w] J Q:=jU h ⟨⟨hk,hd⟩,q⟩
theorem D5{u:V}(h:J[n]?=some (.dict m e))(hk:k.key=true)(hd:k.dep<=6)(hl:m.length<big)(h2:getD m k=some u)(q:Q u J):xp .setdefault (.obj n) [k,w] J Q:=jU h ⟨⟨hk,hd⟩,hl,by rw [h2];exact q⟩
theorem D2(h:J[n]?=some (.dict m e))(hk:k.key=true)(hd:k.dep<=6)(hl:m.length<big)(h2:getD m k=none)(q:Q w (J.set n (gq m e k w))):xp .setdefault (.obj n) [k,w] J Q:=jU h ⟨⟨hk,hd⟩,hl,by rw [h2];exact q⟩
theorem kG{c a:String}{l:List (String×V)}{Q:Hp->Prop}(h:J[n]?=some (.inst c l))(hl:l.length<100)(q:Q (J.set n (.inst c (kZ l a w)))) :
  IG a w n J Q J[n]?:=by
 rw [h];exact ⟨hl,q⟩
theorem jt{i:V}{Q:Hp->Prop}(h:J[n]?=some (.dict m e))(hk:i.key=true)(hd:i.dep<=6)(hl:m.length<big)(q:Q (J.set n (gq m e i w))):ds (.obj n) i w J Q:=jU h ⟨⟨hk,hd⟩,hl,q⟩
theorem pZ{i:Int}{Q:Hp->Prop}(h:J[n]?=some (.list l))(h0:0<=i)(hi:i<l.length)(hl:l.length<big)(q:Q (J.set n (.list (l.set i.toNat w)))):ds (.obj n) (.int i) w J Q:=dZ h ⟨h0,hi,hl,q⟩
theorem ku{j:Nat}(h:AQ J v=some j)(hj:j<big)(q:Q (.int j) J):jq .len [v] J Q:=aw h ⟨hj,q⟩
theorem gj(h:iy J v=some l)(hj:l.length<big)(q:Q (.obj J.length) (J++[.list l])):jq .list [v] J Q:=aw h ⟨hj,q⟩
theorem xg(h:gz J v=some l)(hj:l.length<big)(q:Q (.tup l) J):jq .tuple [v] J Q:=aw h ⟨hj,q⟩
theorem j3(h:wj J v=some l)(hj:cO l=true)(q:Q (.obj J.length) (J++[.list (cT l)])):jq .sorted [v] J Q:=aw h ⟨hj,q⟩
theorem fD(h:J[n]?=some (.list l)):gz J (.obj n)=some l:=cF h
theorem et(h:J[n]?=some (.list l)):iy J (.obj n)=some l:=cF h
theorem kr(h:J[n]?=some (.dict m e)):iy J (.obj n)=some (m.map (·.1)):=fz h
theorem FP(h:J[n]?=some (.list l)):wj J (.obj n)=some l:=cF h
theorem uj(h:J[n]?=some (.dict m e)):wj J (.obj n)=some (m.map (·.1)):=fz h
theorem iX(h:J[n]?=some (.list l)):AQ J (.obj n)=some l.length:=congrArg (Option.map List.length) (et h)
theorem Dl(h:J[n]?=some (.dict m e)):AQ J (.obj n)=some m.length:=(congrArg (Option.map List.length) (kr h)).trans (congrArg some (aM _))
theorem ch(h:J[n]?=some (.list l)):eA .over [.obj n] J=some (l,[n]):=cF h
theorem fj(h:J[n]?=some (.dict m e)):eA .over [.obj n] J=some (m.map (·.1),[n]):=fz h
theorem xi(h:J[n]?=some (.dict m e)):eA .values [.obj n] J=some (m.map (·.2),[n]):=fz h
end
set_option genSizeOf false
set_option genInjectivity false
inductive Tb where
 | held (r:V) | inside (s:V) | told (i:V) | sites | gone | leaks | kept
variable{tb:Tb}
noncomputable def Tb.h?:Tb->Option V | .held r=>some r | _=>none
noncomputable def Tb.i?:Tb->Option V | .inside r=>some r | _=>none
noncomputable def Tb.t?:Tb->Option V | .told r=>some r | _=>none
theorem Tb.h_some{t:Tb}{r:V}(h:t.h?=some r):t=.held r:=by cases t<;>simp [Tb.h?] at h;rw [h]
theorem Tb.i_some{t:Tb}{r:V}(h:t.i?=some r):t=.inside r:=by cases t<;>simp [Tb.i?] at h;rw [h]
theorem Tb.t_some{t:Tb}{r:V}(h:t.t?=some r):t=.told r:=by cases t<;>simp [Tb.t?] at h;rw [h]
noncomputable abbrev tB:V:=.tup [.str "beyond"]
noncomputable abbrev tO(i:V):V:=.tup [.str "outer",i]
noncomputable abbrev tS(s:V):V:=.tup [.str "site",s]
theorem il{s:V}:tB≠tS s:=λe=>absurd (V.str.inj (List.cons.inj (V.tup.inj e)).1) (by decide)
theorem ju{i s:V}:tO i≠tS s:=λe=>absurd (V.str.inj (List.cons.inj (V.tup.inj e)).1) (by decide)
theorem o8{i:V}:tB≠tO i:=λe=>absurd (V.str.inj (List.cons.inj (V.tup.inj e)).1) (by decide)
noncomputable abbrev Facts:=Tb->V->Prop
variable{F:Facts}{R R':Facts->Facts}
noncomputable abbrev Tabs:=List (Tb×Nat×List V)
noncomputable def Tabs.fact(S:Tabs):Facts:=λtb v=>∃a ts,(tb,a,ts)∈S/\v∈ts
noncomputable def Tabs.size(S:Tabs):Nat:=(S.map λp=>p.2.2.length).sum
noncomputable def Tabs.idx(S:Tabs)(f:Tb->Option V):List (V×V):=S.filterMap λp=>(f p.1).map λr=>(r,V.obj p.2.1)
noncomputable def Tabs.add(S:Tabs)(a:Nat)(k:V):Tabs:=S.map λp=>if p.2.1=a then (p.1,p.2.1,er p.2.2 k) else p
structure cZ where
 sites:List V
 few:sites.length<=20
 key:∀s∈sites,s.key=true/\s.dep<=3
noncomputable def cZ.toks(M:cZ):List V:=tB::tO (.int 0)::tO (.int 1)::M.sites.map tS
noncomputable def regs:List V:=(List.range 10).map λ(i:Nat)=>V.int (i:Int)
noncomputable def cZ.tbs(M:cZ):List Tb:=regs.map .held++M.sites.map .inside++[.told (.int 0),.told (.int 1),.sites,.gone,.leaks,.kept]
noncomputable def cZ.vals(M:cZ):Tb->List V
 | .held _ | .inside _=>M.toks
 | .told _=>[.int (-1),.int 0,.int 1]
 | .sites | .gone=>M.sites
 | .leaks=>[.int 0,.int 1]
 | .kept=>[.tup [.int (-1),.int 0],.tup [.int (-1),.int 1],.tup [.int 0,.int 0],.tup [.int 0,.int 1],.tup [.int 1,.int 0],.tup [.int 1,.int 1]]
theorem cZ.tok_key(M:cZ){t:V}(h:t∈M.toks):t.key=true/\t.dep<=5:=by
 unfold cZ.toks at h;simp only [List.mem_cons,List.mem_map] at h;rcases h with rfl | rfl | rfl | ⟨s,hs,rfl⟩
 ·exact ⟨rfl,by decide⟩
 ·exact ⟨rfl,by decide⟩
 ·exact ⟨rfl,by decide⟩
 ·refine xa (M.key s hs) λh1 h2=>⟨by simp [V.key,V.keys,h1],?_⟩
  simp only [V.dep,V.deps];omega
theorem cZ.val_key(M:cZ){t:V}(h:t∈M.vals tb):t.key=true/\t.dep<=5:=by
 cases tb with
 | held _=>exact M.tok_key h
 | inside _=>exact M.tok_key h
 | told _=>simp only [cZ.vals,List.mem_cons,aq,or_false] at h;rcases h with rfl | rfl | rfl<;>exact ⟨rfl,by decide⟩
 | leaks=>simp only [cZ.vals,List.mem_cons,aq,or_false] at h;rcases h with rfl | rfl<;>exact ⟨rfl,by decide⟩
 | kept=>simp only [cZ.vals,List.mem_cons,aq,or_false] at h;rcases h with rfl | rfl | rfl | rfl | rfl | rfl<;>exact ⟨rfl,by decide⟩
 | sites=>refine xa (M.key t h) λh1 h2=>?_;exact ⟨h1,by omega⟩
 | gone=>refine xa (M.key t h) λh1 h2=>?_;exact ⟨h1,by omega⟩
theorem cZ.vals_len(M:cZ)(tb:Tb):(M.vals tb).length<=23:=by
 have:=M.few;cases tb<;>simp [cZ.vals,cZ.toks]<;>omega
theorem cV{α:Type}:∀{l m:List α},l.Nodup->(∀x∈l,x∈m)->l.length<=m.length
 | [],m,_,_=>aC _
 | x::r,m,h,hs=>by
  refine xa (List.nodup_cons.mp h) λh1 h2=>ER (List.append_of_mem (hs x ai)) λa b q=>?_;subst q;have:=cV (l:=r) (m:=a++b) h2 λy hy=>by
   have:=hs y (aj _ hy);simp only [List.mem_append,List.mem_cons] at this ⊢;refine Or.elim this (λh=>?_) (λw=>Or.elim w (λh=>?_) (λh=>?_))
   ·exact .inl h
   ·exact absurd (h▸hy) h1
   ·exact .inr h
  simp only [aH,List.length_cons] at this ⊢;omega
structure FL where
 (f code sums held inside sites gone summ leaks kept told:Nat)
noncomputable def FL.own(L:FL):List Nat:=[L.f,L.held,L.inside,L.summ,L.told]
noncomputable def Ad(L:FL)(S:Tabs)(n:Nat):Prop:=n∈L.own++S.map (·.2.1)
noncomputable def FL.flow(L:FL)(nw:Bool):Ob:=.inst "EscapeFlow" [("code",.obj L.code),("summaries",.obj L.sums),("held",.obj L.held),("inside",.obj L.inside),("sites",.obj L.sites),("gone",.obj L.gone),("summary",.obj L.summ),("is_new",.bool nw)]
noncomputable def FL.summary(L:FL):Ob:=.inst "Summary" [("leaks",.obj L.leaks),("kept",.obj L.kept),("told",.obj L.told)]
structure aY(M:cZ)(L:FL)(S:Tabs)(nw:Bool)(J:Hp):Prop where
 fo:J[L.f]?=some (L.flow nw)
 so:J[L.summ]?=some L.summary
 hd:∃e,J[L.held]?=some (.dict (S.idx Tb.h?) e)
 ins:∃e,J[L.inside]?=some (.dict (S.idx Tb.i?) e)
 td:∃e,J[L.told]?=some (.dict (S.idx Tb.t?) e)
 tb:∀p∈S,∃e,J[p.2.1]?=some (.dict (fX p.2.2) e)
 ads:(L.own++S.map (·.2.1)).Nodup
 keys:(S.map (·.1)).Nodup
 nd:∀p∈S,p.2.2.Nodup
 tbs:∀p∈S,p.1∈M.tbs
 ok:∀p∈S,∀v∈p.2.2,v∈M.vals p.1
 atS:∃ts,(Tb.sites,L.sites,ts)∈S
 atG:∃ts,(Tb.gone,L.gone,ts)∈S
 atL:∃ts,(Tb.leaks,L.leaks,ts)∈S
 atK:∃ts,(Tb.kept,L.kept,ts)∈S
section
variable{M:cZ}{L:FL}{S S':Tabs}{nw nw':Bool}
theorem aY.ext(h:aY M L S nw J)(p:J <+:σ'):aY M L S nw σ' :=
 ⟨bR p h.fo,bR p h.so,let ⟨e,q⟩:=h.hd;⟨e,bR p q⟩,let ⟨e,q⟩:=h.ins;⟨e,bR p q⟩,let ⟨e,q⟩:=h.td;⟨e,bR p q⟩,λx hx=>let ⟨e,q⟩:=h.tb x hx;⟨e,bR p q⟩,h.ads,h.keys,h.nd,h.tbs,h.ok,h.atS,h.atG,h.atL,h.atK⟩
theorem aY.lt(h:aY M L S nw J)(ha:Ad L S n):n<J.length:=by
 unfold Ad FL.own at ha;simp only [List.mem_append,List.mem_cons,aq,or_false,List.mem_map] at ha;rcases ha with (rfl | rfl | rfl | rfl | rfl) | ⟨p,hp,rfl⟩
 ·exact a8 h.fo
 ·exact xe h.hd λe q=>a8 q
 ·exact xe h.ins λe q=>a8 q
 ·exact a8 h.so
 ·exact xe h.td λe q=>a8 q
 ·exact xe (h.tb p hp) λe q=>a8 q
theorem aY.len(h:aY M L S nw J){p:Tb×Nat×List V}(hp:p∈S):p.2.2.length<=23 :=
 am (cV (h.nd p hp) (h.ok p hp)) (M.vals_len _)
theorem HA(hk:(S.map (·.1)).Nodup){a b:Nat}{us:List V}(h1:(tb,a,ts)∈S)(h2:(tb,b,us)∈S):a=b/\ts=us:=by
 obtain ⟨i,hi,e1⟩:=List.getElem_of_mem h1;obtain ⟨j,hj,e2⟩:=List.getElem_of_mem h2;have e:(S.map (·.1))[i]?=(S.map (·.1))[j]?:=by
  rw [List.getElem?_map,List.getElem?_map,aA hi,aA hj,e1,e2];rfl
 cases (List.getElem?_inj (by rw [aM];exact hi) hk).mp e;rw [e1] at e2;cases e2;exact ⟨rfl,rfl⟩
theorem sK(hk:(S.map (·.1)).Nodup){a:Nat}(h1:(tb,a,ts)∈S):S.fact tb v↔v∈ts :=
 ⟨λq=>dE q λb us h2 h3=>(HA hk h1 h2).2▸h3,λhv=>⟨a,ts,h1,hv⟩⟩
theorem nF(f:Tb->Option V)(g:V->Tb)(hf:∀{t r},f t=some r->t=g r)(hg:∀r,f (g r)=some r)(r:V) :
  (∃a ts,(g r,a,ts)∈S/\getD (S.idx f) r=some (.obj a))\/((∀a ts,(g r,a,ts)∉S)/\getD (S.idx f) r=none):=by
 cases e:getD (S.idx f) r with
 | some w =>
  refine bO (fc e) λi z_ hi=>bO (List.mem_filterMap.mp (List.mem_of_getElem? hi)) λq hq e2=>?_;refine bO (b0.mp e2) λr' e3 e4=>?_;cases e4;exact .inl ⟨q.2.1,q.2.2,hf e3▸hq,rfl⟩
 | none=>exact .inr ⟨λa ts hm=>l0 (oM e) (r,.obj a) (List.mem_filterMap.mpr ⟨_,hm,by rw [hg];rfl⟩) rfl,rfl⟩
theorem aY.uniq(h:aY M L S nw J){a b:Nat}{us:List V}(h1:(tb,a,ts)∈S)(h2:(tb,b,us)∈S):a=b/\ts=us:=HA h.keys h1 h2
theorem aY.adSame(h:aY M L S nw J){p q:Tb×Nat×List V}(h1:p∈S)(h2:q∈S)(e:p.2.1=q.2.1):p=q:=by
 have nd:=(cI.mp h.ads).2.1;obtain ⟨i,hi,e1⟩:=List.getElem_of_mem h1;obtain ⟨j,hj,e2⟩:=List.getElem_of_mem h2;have e':(S.map (·.2.1))[i]?=(S.map (·.2.1))[j]?:=by
  rw [List.getElem?_map,List.getElem?_map,aA hi,aA hj,e1,e2,Option.map_some,Option.map_some,e]
 have:=(List.getElem?_inj (by simpa using hi) nd).mp e';subst this;rw [e1] at e2;exact e2
theorem aY.fact_iff(h:aY M L S nw J){a:Nat}(h1:(tb,a,ts)∈S):S.fact tb v↔v∈ts:=sK h.keys h1
theorem aY.apart(h:aY M L S nw J){p:Tb×Nat×List V}(hp:p∈S):p.2.1∉L.own:=λq =>
 (cI.mp h.ads).2.2 _ q _ (aX.mpr ⟨p,hp,rfl⟩) rfl
end
section
variable{M:cZ}{L:FL}{S S' S'':Tabs}{nw nw' nw'':Bool}{ms:List V}
theorem Cj{a:Nat}:(S.add a k).map (·.1)=S.map (·.1):=by
 delta Tabs.add;rw [List.map_map];apply List.map_congr_left;intro p _;dsimp only [Function.comp]
 split<;>rfl
theorem vm{a:Nat}:(S.add a k).map (·.2.1)=S.map (·.2.1):=by
 delta Tabs.add;rw [List.map_map];apply List.map_congr_left;intro p _;dsimp only [Function.comp]
 split<;>rfl
theorem tY{a:Nat}{f:Tb->Option V}:(S.add a k).idx f=S.idx f:=by
 delta Tabs.add Tabs.idx;rw [List.filterMap_map]
 congr 1
 funext p
 dsimp only [Function.comp]
 split<;>rfl
theorem dp{a:Nat}{p:Tb×Nat×List V}:p∈S.add a k↔∃q∈S,p=if q.2.1=a then (q.1,q.2.1,er q.2.2 k) else q:=by
 delta Tabs.add;rw [List.mem_map];exact ⟨λw=>bO w λq h1 h2=>⟨q,h1,h2.symm⟩,λx=>bO x λq h1 h2=>⟨q,h1,h2.symm⟩⟩
theorem HF{a:Nat}:Ad L (S.add a k) n↔Ad L S n:=by unfold Ad;rw [vm]
theorem CM(h:aY M L S nw J){a:Nat}(hm:(tb,a,ts)∈S):(S.add a k).fact=λtb' v=>S.fact tb' v\/(tb'=tb/\v=k):=by
 funext tb' v
 apply propext;constructor
 ·intro w;refine dE w λb us h1 h2=>?_;clear w;refine bO (dp.mp h1) λq hq e=>?_
  split at e
  ·rename_i ea
   have:=h.adSame hq hm ea;subst this;cases e;refine Or.elim (eB.mp h2) (λh3=>?_) (λh3=>?_)
   ·exact .inl ⟨_,_,hm,h3⟩
   ·exact .inr ⟨rfl,h3⟩
  ·subst e;exact .inl ⟨_,_,hq,h2⟩
 ·rintro (⟨b,us,h1,h2⟩ | ⟨rfl,rfl⟩)
  ·by_cases ea:b=a
   ·subst ea;exact ⟨b,er us k,dp.mpr ⟨_,h1,by rw [if_pos rfl]⟩,eB.mpr (.inl h2)⟩
   ·exact ⟨b,us,dp.mpr ⟨_,h1,by rw [if_neg ea]⟩,h2⟩
  ·exact ⟨a,er ts v,dp.mpr ⟨_,hm,by rw [if_pos rfl]⟩,eB.mpr (.inr rfl)⟩
theorem zR{l m:Tabs}:(l++m).size=l.size+m.size:=by unfold Tabs.size;simp
theorem wK(h:aY M L S nw J){a:Nat}(hm:(tb,a,ts)∈S)(hk:k∉ts):S.size<(S.add a k).size:=by
 refine ER (List.append_of_mem hm) λl1 l2 w=>?_;subst w;have same:∀l:Tabs,(∀q∈l,q.2.1≠a)->(l.add a k).size=l.size:=λl hl=>by
  delta Tabs.add Tabs.size;rw [List.map_map]
  congr 1
  apply List.map_congr_left;intro q hq;dsimp only [Function.comp];rw [if_neg (hl q hq)]
 have nd:=(cI.mp h.ads).2.1;rw [List.map_append,List.map_cons] at nd;refine o9 (cI.mp nd) λn1 n2 n3=>xa (List.nodup_cons.mp n2) λn4 n5=>?_;have e:Tabs.add (l1++(tb,a,ts)::l2) a k=Tabs.add l1 a k++((tb,a,er ts k)::Tabs.add l2 a k):=by
  delta Tabs.add;rw [List.map_append,List.map_cons];simp
 rw [e,zR,zR,same l1 λq hq e=>n3 _ (aX.mpr ⟨q,hq,rfl⟩) a ai e];have e2:Tabs.size ((tb,a,er ts k)::Tabs.add l2 a k)=(er ts k).length+(Tabs.add l2 a k).size:=by unfold Tabs.size;simp
 have e3:Tabs.size ((tb,a,ts)::l2)=ts.length+Tabs.size l2:=by unfold Tabs.size;simp
 rw [e2,e3,same l2 λq hq e=>n4 (aX.mpr ⟨q,hq,e⟩)];delta er;rw [if_neg hk];simp
structure Op(M:cZ)(L:FL)(ns:List V)(R:Facts->Facts)(S:Tabs)(nw:Bool)(J:Hp)(S':Tabs)(nw':Bool)(σ':Hp):Prop where
 fl:aY M L S' nw' σ'
 le:J.length<=σ'.length
 fr:∀n,n<J.length->¬Ad L S n->σ'[n]?=J[n]?
 ad:∀n,Ad L S' n->Ad L S n\/J.length<=n
 nwm:nw=true->nw'=true
 same:nw'=false->S'.fact=S.fact
 snd:nw'=false->∀tb v,R S'.fact tb v->S'.fact tb v
 mono:∀tb v,S.fact tb v->S'.fact tb v
 lst:∀C:Facts,(∀tb v,S.fact tb v->C tb v)->(∀tb v,R C tb v->C tb v)->∀tb v,S'.fact tb v->C tb v
 sts:∀ts ts',(Tb.sites,L.sites,ts)∈S->(Tb.sites,L.sites,ts')∈S'->ts'=bZ ts ns
 tab:∀tb a ts,(tb,a,ts)∈S->∃ts',(tb,a,ts')∈S'
 szm:S.size<=S'.size
 sz:nw=false->nw'=true->S.size<S'.size
noncomputable abbrev Kq:Facts->Facts:=λz_ z_ z_=>False
noncomputable abbrev Hn(R R':Facts->Facts):Facts->Facts:=λF tb v=>R F tb v\/R' F tb v
theorem Op.ext(h:aY M L S nw J)(p:J <+:σ')(hR:∀tb v,R S.fact tb v->S.fact tb v):Op M L [] R S nw J S nw σ' where
 fl:=h.ext p
 le:=bS p
 fr n hn _:=by refine xe p λτ q=>?_;subst q;rw [au hn]
 ad n hn:=.inl hn
 nwm e:=e
 same _:=rfl
 snd _:=hR
 mono _ _ f:=f
 lst C hC _:=hC
 sts ts ts' h1 h2:=(h.uniq h2 h1).2
 tab tb a ts h:=⟨ts,h⟩
 szm:=ay _
 sz h1 h2:=by rw [h1] at h2;cases h2
theorem Op.refl(h:aY M L S nw J):Op M L [] Kq S nw J S nw J:=.ext h (aD _) λz_ z_ f=>f.elim
theorem Op.trans(h:aY M L S nw J)(x:Op M L ns R S nw J S' nw' σ')(y:Op M L ms R' S' nw' σ' S'' nw'' σ''):Op M L (ns++ms) (Hn R R') S nw J S'' nw'' σ'' where
 fl:=y.fl
 le:=am x.le y.le
 fr n hn ha:=(y.fr n (ak hn x.le) λq=>(x.ad n q).elim ha λq=>absurd hn (ci.mpr q)).trans (x.fr n hn ha)
 ad n hn:=(y.ad n hn).elim (x.ad n) λq=>.inr (am x.le q)
 nwm e:=y.nwm (x.nwm e)
 same e:=by
  have e1:=y.same e;have:nw'=false:=by cases h:nw' with | false=>rfl | true=>rw [y.nwm h] at e;cases e
  rw [e1,x.same this]
 snd e tb v:=by
  have e1:=y.same e;have:nw'=false:=by cases h:nw' with | false=>rfl | true=>rw [y.nwm h] at e;cases e
  rintro (q | q)
  ·rw [e1] at q ⊢;exact x.snd this tb v q
  ·exact y.snd e tb v q
 mono tb v f:=y.mono tb v (x.mono tb v f)
 lst C h1 h2:=y.lst C (x.lst C h1 λtb v q=>h2 tb v (.inl q)) λtb v q=>h2 tb v (.inr q)
 sts ts ts' h1 h2:=by
  refine xe x.fl.atS λus hu=>?_;rw [y.sts us ts' hu h2,x.sts ts us h1 hu,fy]
 tab tb a ts h:=let ⟨us,q⟩:=x.tab tb a ts h;y.tab tb a us q
 szm:=am x.szm y.szm
 sz e e':=by
  cases h:nw' with
  | false=>exact ax x.szm (y.sz h e')
  | true=>exact ak (x.sz e h) y.szm
theorem Op.conv(x:Op M L ns R S nw J S' nw' σ')(h1:S'.fact=S.fact->∀tb v,R' S'.fact tb v->R S'.fact tb v)(h2:∀C:Facts,(∀tb v,S.fact tb v->C tb v)->∀tb v,R C tb v->R' C tb v):Op M L ns R' S nw J S' nw' σ' :=
 {x with snd:=λe tb v q=>x.snd e tb v (h1 (x.same e) tb v q),lst:=λC c1 c2=>x.lst C c1 λtb v q=>c2 tb v (h2 C c1 tb v q)}
theorem Op.conv'(x:Op M L ns R S nw J S' nw' σ')(h:∀F tb v,R' F tb v↔R F tb v):Op M L ns R' S nw J S' nw' σ':=x.conv (λz_ tb v q=>(h _ tb v).mp q) λC z_ tb v q=>(h _ tb v).mpr q
theorem Op.pre(x:Op M L ns R S nw σ' S' nw' σ'')(p:J <+:σ'):Op M L ns R S nw J S' nw' σ'' :=
 {x with le:=am (bS p) x.le,fr:=λn hn ha=>(by
   rw [x.fr n (ak hn (bS p)) ha];refine xe p λτ w=>?_;subst w;rw [au hn]),ad:=λn hn=>(x.ad n hn).imp id λq=>am (bS p) q}
theorem Op.keep(x:Op M L ns R S nw J S' nw' σ'){o:Ob}(e:J[n]?=some o)(ha:¬Ad L S n):σ'[n]?=some o/\¬Ad L S' n :=
 ⟨(x.fr n (a8 e) ha).trans e,λq=>(x.ad n q).elim ha λq=>absurd (a8 e) (ci.mpr q)⟩
noncomputable abbrev F3(tb:Tb)(k:V):List V:=match tb with | .sites=>[k] | _=>[]
theorem F7(h:aY M L S nw J){a:Nat}(hm:(tb,a,ts)∈S)(hv:k∈M.vals tb)(hk:k∉ts)(e':Nat) :
  Op M L (F3 tb k) (λz_ tb' v=>tb'=tb/\v=k) S nw J (S.add a k) true ((J.set a (.dict (fX (er ts k)) e')).set L.f (L.flow true)):=by
 have own:=h.apart hm;unfold FL.own at own;simp only [List.mem_cons,aq,or_false,not_or] at own;refine tz own λo1 o2 o3 o4 o5=>?_;have nd:=(cI.mp h.ads).1;unfold FL.own at nd;simp only [List.nodup_cons,List.mem_cons,aq,or_false,not_or] at nd;refine tz nd λw x y d10 z_=>mV w λd1 d2 d3 d4=>o9 x λd5 d6 d7=>xa y λd8 d9=>?_;have ff:(S.add a k).fact=_:=CM h hm;have other:∀n,n≠a->n≠L.f->((J.set a (.dict (fX (er ts k)) e')).set L.f (L.flow true))[n]?=J[n]?:=λn h1 h2=>by
  rw [aR (bg h2),aR (bg h1)]
 refine ⟨⟨?_,?_,?_,?_,?_,λp hp=>?_,?_,?_,λp hp=>?_,λp hp=>?_,λp hp v hv'=>?_,?_,?_,?_,?_⟩,?_,λn hn ha=>?_,λn hn=>.inl (HF.mp hn),λz_=>rfl,λe=>(by cases e),λe=>(by cases e),λtb' v f=>?_,λC h1 h2 tb' v f=>?_,λus us' h1 h2=>?_,λtb' a' us hu=>?_,?_,?_⟩
 ·exact bG ((aR o1).trans h.fo)
 ·rw [other _ (bg o4) (bg d3)];exact h.so
 ·rw [other _ (bg o2) (bg d1),tY];exact h.hd
 ·rw [other _ (bg o3) (bg d2),tY];exact h.ins
 ·rw [other _ (bg o5) (bg d4),tY];exact h.td
 ·refine bO (dp.mp hp) λq hq e=>?_;by_cases ea:q.2.1=a
  ·have:=h.adSame hq hm ea;subst this;rw [if_pos rfl] at e;subst e;exact xe (h.tb _ hm) λe0 he0=>⟨e',(aR (bg o1)).trans (bG he0)⟩
  ·rw [if_neg ea] at e;subst e;have hf:=h.apart hq;rw [other _ ea λe=>hf (e▸by unfold FL.own;exact ai)];exact h.tb _ hq
 ·rw [vm];exact h.ads
 ·rw [Cj];exact h.keys
 ·refine bO (dp.mp hp) λq hq e=>?_
  split at e<;>subst e
  ·exact mO (h.nd _ hq)
  ·exact h.nd _ hq
 ·refine bO (dp.mp hp) λq hq e=>?_;have ht:=h.tbs _ hq
  split at e<;>subst e<;>exact ht
 ·refine bO (dp.mp hp) λq hq e=>?_
  split at e
  ·rename_i ea
   have:=h.adSame hq hm ea;subst this;subst e;refine Or.elim (eB.mp hv') (λq=>?_) (λq=>?_)
   ·exact h.ok _ hm v q
   ·exact q▸hv
  ·subst e;exact h.ok _ hq v hv'
 ·refine xe h.atS λus hu=>?_;by_cases ea:L.sites=a
  ·exact ⟨_,dp.mpr ⟨_,hu,by rw [if_pos ea]⟩⟩
  ·exact ⟨_,dp.mpr ⟨_,hu,by rw [if_neg ea]⟩⟩
 ·refine xe h.atG λus hu=>?_;by_cases ea:L.gone=a
  ·exact ⟨_,dp.mpr ⟨_,hu,by rw [if_pos ea]⟩⟩
  ·exact ⟨_,dp.mpr ⟨_,hu,by rw [if_neg ea]⟩⟩
 ·refine xe h.atL λus hu=>?_;by_cases ea:L.leaks=a
  ·exact ⟨_,dp.mpr ⟨_,hu,by rw [if_pos ea]⟩⟩
  ·exact ⟨_,dp.mpr ⟨_,hu,by rw [if_neg ea]⟩⟩
 ·refine xe h.atK λus hu=>?_;by_cases ea:L.kept=a
  ·exact ⟨_,dp.mpr ⟨_,hu,by rw [if_pos ea]⟩⟩
  ·exact ⟨_,dp.mpr ⟨_,hu,by rw [if_neg ea]⟩⟩
 ·simp
 ·refine other n (λe=>ha ?_) λe=>ha ?_
  ·unfold Ad;rw [e];exact bs.mpr (.inr (aX.mpr ⟨_,hm,rfl⟩))
  ·unfold Ad FL.own;rw [e];exact bs.mpr (.inl ai)
 ·rw [ff];exact .inl f
 ·rw [ff] at f;rcases f with f | ⟨rfl,rfl⟩
  ·exact h1 _ _ f
  ·exact h2 _ _ ⟨rfl,rfl⟩
 ·refine bO (dp.mp h2) λq hq e=>?_
  split at e
  ·rename_i ea
   have:=h.adSame hq hm ea;subst this;cases e;rw [(h.uniq h1 hm).2];rfl
  ·subst e
   rename_i ea
   have e2:=(h.uniq hq h1).2;rw [e2]
   cases tb with
   | sites=>exact absurd (h.uniq h1 hm).1 ea
   | _=>rfl
 ·by_cases ea:a'=a
  ·exact ⟨_,dp.mpr ⟨_,hu,by rw [if_pos ea]⟩⟩
  ·exact ⟨_,dp.mpr ⟨_,hu,by rw [if_neg ea]⟩⟩
 ·exact cB (wK h hm hk)
 ·exact λz_ z_=>wK h hm hk
end
section
variable{M:cZ}{L:FL}{S S' S'':Tabs}{nw nw' nw'':Bool}{ms:List V}
noncomputable abbrev GY(tb:Tb)(k:V):Facts->Facts:=λz_ tb' v=>tb'=tb/\v=k
theorem nI{a e:Nat}(h:J[a]?=some (.dict (fX ts) e))(h1:k.key=true)(h2:k.dep<=6):C2 J k (.obj a)=some (decide (k∈ts)):=by
 refine (fz h).trans ((if_pos (Bool.and_eq_true_iff.2 ⟨h1,bp h2⟩)).trans ?_);rw [CY];by_cases hk:k∈ts<;>simp [hk]
theorem fO{a e:Nat}{Q:Hp->Prop}(h:J[a]?=some (.dict (fX ts) e))(h1:k.key=true)(h2:k.dep<=6)(hl:ts.length<1000)(hQ:∀e',Q (J.set a (.dict (fX (er ts k)) e'))):ds (.obj a) k (.bool true) J Q:=by
 refine xe (Em ts e k) λe' he=>?_;refine jt h h1 h2 (by rw [aM];exact aQ hl (by decide)) ?_;rw [he];exact hQ e'
theorem aY.tbl(h:aY M L S nw J){a:Nat}(hm:(tb,a,ts)∈S):∃e,J[a]?=some (.dict (fX ts) e):=h.tb _ hm
theorem aY.ln(h:aY M L S nw J){a:Nat}(hm:(tb,a,ts)∈S):ts.length<=23:=h.len hm
theorem Iy{a:Nat}(h:aY M L S nw J)(hm:(tb,a,ts)∈S)(hk:k∈ts):Op M L (F3 tb k) (GY tb k) S nw J S nw J:=by
 refine ⟨h,ay _,λz_ z_ z_=>rfl,λz_=>.inl,id,λz_=>rfl,?_,λz_ z_=>id,λC h1 z_=>h1,?_,λz_ z_ us q=>⟨us,q⟩,ay _,λh1 h2=>by rw [h1] at h2;cases h2⟩
 ·intro _ tb' v w;refine xa w λx y=>?_;clear w;subst x;subst y;exact ⟨a,ts,hm,hk⟩
 ·intro us us' h1 h2;rw [(h.uniq h2 h1).2]
  cases tb with
  | sites=>rw [(h.uniq h1 hm).2];show ts=er ts k;unfold er;rw [if_pos hk]
  | _=>rfl
theorem eD{a:Nat}(h:aY M L S nw J)(hm:(tb,a,ts)∈S)(hv:k∈M.vals tb)
  (hQ:∀S' nw' σ',Op M L (F3 tb k) (GY tb k) S nw J S' nw' σ'->Q .none σ'):aZ a0 (n+1) ("EscapeFlow","note") [.obj L.f,.obj a,k] J Q:=by
 have hk:=M.val_key hv;have k2:k.dep<=6:=bT hk.2;refine xe (h.tbl hm) λe he=>?_;have ha:a≠L.f:=λe=>h.apart hm (by unfold FL.own;rw [<-e];exact ai);refine bq (d:=jg) rfl ae ae (nT (nI he hk.1 k2) ?_);by_cases hts:k∈ts
 ·rw [bp hts];exact hQ S nw J (Iy h hm hts)
 ·rw [decide_eq_false hts];exact fO he hk.1 k2 (ax (h.ln hm) (by decide)) λe'=>kG (c:="EscapeFlow") ((aR ha).trans h.fo) ae (hQ _ _ _ (F7 h hm hv hts e'))
end
section
variable{M:cZ}{L:FL}{S S' S'':Tabs}{nw nw' nw'':Bool}{ms:List V}
noncomputable def b6(ns:List String)(loc loc':Loc):Prop:=∀x,x∉ns->loc' x=loc x
theorem b6.refl{ns:List String}:b6 ns loc loc:=λz_ z_=>rfl
theorem b6.at{ns:List String}(h:b6 ns loc loc'){x:String}{v:Option V}(hx:x∉ns:=by decide)(e:loc x=v):loc' x=v:=(h x hx).trans e
theorem b6.trans{ns:List String}{loc'':Loc}(h:b6 ns loc loc')(g:b6 ns loc' loc''):b6 ns loc loc'':=λx hx=>(g x hx).trans (h x hx)
theorem b6.set{ns:List String}{x:String}(h:b6 ns loc loc')(hx:x∈ns):b6 ns loc (setL loc' x v):=λy hy=>by
 unfold setL;rw [if_neg (λe:y=x=>hy (e▸hx))];exact h y hy
theorem En{o:Ob}(h0:σb[n]?=some o)(h:J[n]?=some o):b8 [n] σb J:=λm hm=>by
 rw [an.mp hm,h,h0]
theorem lq{x:V}:bZ l (x::xs)=bZ (er l x) xs:=rfl
theorem fM{v:V}:∀{xs l:List V},v∈bZ l xs↔v∈l\/v∈xs
 | [],l=>by simp [bZ]
 | x::xs,l=>by
  rw [lq,fM,eB,List.mem_cons];exact or_assoc
theorem nS:∀{xs l:List V},l.Nodup->(bZ l xs).Nodup
 | [],l,h=>h
 | x::xs,l,h=>nS (xs:=xs) (mO h)
structure Lo(M:cZ)(J:Hp)(d:Nat)(fs:List V)(σa:Hp):Prop where
 pre:J <+:σa
 new:J.length<=d
 at':∃e,σa[d]?=some (.dict (fX fs) e)
 nd:fs.Nodup
 ok:∀u∈fs,u∈M.toks
theorem Lo.len{d:Nat}(h:Lo M J d fs σa):fs.length<=23:=am (cV h.nd h.ok) (M.vals_len (.held .none))
theorem Lo.set{d e':Nat}{fs:List V}{k:V}(h:Lo M J d fs σa)(hk:k∈M.toks):Lo M J d (er fs k) (σa.set d (.dict (fX (er fs k)) e')) :=
 ⟨kD h.pre h.new,h.new,let ⟨e,q⟩:=h.at';⟨e',bG q⟩,mO h.nd,λu hu=>(eB.mp hu).elim (h.ok u) λe=>e▸hk⟩
theorem Lo.app{d:Nat}{τ:Hp}(h:Lo M J d fs σa):Lo M J d fs (σa++τ) :=
 ⟨h.pre.trans az,h.new,let ⟨e,q⟩:=h.at';⟨e,aS q⟩,h.nd,h.ok⟩
theorem Lo.ext{d:Nat}{σc:Hp}(h:Lo M J d fs σa)(p:σa <+:σc):Lo M J d fs σc :=
 ⟨h.pre.trans p,h.new,let ⟨e,q⟩:=h.at';⟨e,bR p q⟩,h.nd,h.ok⟩
theorem A5{ns:List Nat}{d:Nat}(hx:∀x∈xs,x∈M.toks)(hf:loc "found"=some (.obj d))(lo:Lo M J d fs σa)(hs:∀n∈ns,n≠d/\σa[n]?=σb[n]?)
  (hQ:∀loc' σ',b6 ["inner"] loc loc'->Lo M J d (bZ fs xs) σ'->(∀n,n≠d->σ'[n]?=σa[n]?)->σ'.length=σa.length->QQ .next loc' σ'):gh (b8 ns σb) (.name "inner") (ez C f6) xs loc σa QQ:=by
 induction xs generalizing fs loc σa with
 | nil=>exact ⟨λn hn=>(hs n hn).2,hQ loc σa .refl lo (λz_ z_=>rfl) rfl⟩
 | cons x xs ih =>
  refine xe lo.at' λe he=>?_;have k:=M.tok_key (hx x ai);refine ⟨λn hn=>(hs n hn).2,?_⟩
  (conv=>whnf)
  refine aw hf ?_
  (conv=>whnf)
  refine fO he k.1 (bT k.2) (ax lo.len (by decide)) λe'=>?_
  (conv=>whnf)
  refine ih (λy hy=>hx y (aj _ hy)) hf (lo.set (e':=e') (hx x ai)) (λn hn=>⟨(hs n hn).1,(aR (bg (hs n hn).1)).trans (hs n hn).2⟩) λloc' σ' ag lo' same len=>hQ loc' σ' ((b6.refl.set ai).trans ag) lo' (λn hn=>(same n hn).trans (aR (bg hn))) (len.trans bE)
noncomputable def Ld(F:Facts)(t u:V):Prop :=
 (∃s,t=tS s/\(F (.inside s) u\/(F .gone s/\u=tB)))\/((∀s,t≠tS s)/\(u=t\/∃i o,t=tO o/\F .kept (.tup [i,o])/\u=if i=.int (-1) then tB else tO i))
noncomputable def qL(t:V):V->Option V
 | .tup [i,o]=>if t=tO o then some (if i=.int (-1) then tB else tO i) else none
 | _=>none
noncomputable def kt(t:V)(xs:List V):List V:=xs.filterMap (qL t)
theorem v2{x:V}(h:x∈M.vals .kept):∃i o:Int,x=.tup [.int i,.int o]/\(i= -1\/i=0\/i=1)/\(o=0\/o=1):=by
 simp only [cZ.vals,List.mem_cons,aq,or_false] at h;rcases h with rfl | rfl | rfl | rfl | rfl | rfl<;>exact ⟨_,_,rfl,by simp,by simp⟩
theorem De{i:Int}(h:i= -1\/i=0\/i=1):(if V.int i=.int (-1) then tB else tO (.int i))∈M.toks:=by
 rcases h with rfl | rfl | rfl
 ·rw [if_pos rfl];exact ai
 ·rw [if_neg (λe=>by cases e)];exact aj _ ai
 ·rw [if_neg (λe=>by cases e)];exact aj _ (aj _ ai)
theorem vZ{t i o:V}:kt t (.tup [i,o]::xs)=(if t=tO o then (if i=.int (-1) then tB else tO i)::kt t xs else kt t xs):=by
 unfold kt;by_cases h:t=tO o
 ·rw [if_pos h,List.filterMap_cons_some (f:=qL t) (show qL t (.tup [i,o])=some _ from if_pos h)]
 ·rw [if_neg h,List.filterMap_cons_none (f:=qL t) (show qL t (.tup [i,o])=none from if_neg h)]
theorem CK{Q:Bool->Prop}(h:a.dat=true)(h':b.dat=true)(hd:a.dep<=6)(q:Q (V.deq a b)):dn (jL .eq J a b) Q:=by
 refine aw (show Jl J a b=some _ from ?_) q;unfold Jl;rw [h,h',bp hd];rfl
theorem AN{ns:List Nat}{d:Nat}{t:V}(ht:t∈M.toks)(hx:∀x∈xs,x∈M.vals .kept)(hf:loc "found"=some (.obj d))(htk:loc "token"=some t)(lo:Lo M J d fs σa)(hs:∀n∈ns,n≠d/\σa[n]?=σb[n]?)
  (hQ:∀loc' σ',b6 ["inner","outer"] loc loc'->Lo M J d (bZ fs (kt t xs)) σ'->(∀n,n≠d->σ'[n]?=σa[n]?)->σ'.length=σa.length->QQ .next loc' σ'):gh (b8 ns σb) (.pair "inner" "outer") (ez C eo) xs loc σa QQ:=by
 induction xs generalizing fs loc σa with
 | nil=>exact ⟨λn hn=>(hs n hn).2,hQ loc σa .refl lo (λz_ z_=>rfl) rfl⟩
 | cons x xs ih =>
  refine cU (v2 (hx _ ai)) λi o q hi ho=>?_;subst q;have hk:=M.tok_key ht;refine xe lo.at' λe he=>?_;have nx:∀{fs' σ'},Lo M J d fs' σ'->bZ fs' (kt t xs)=bZ fs (kt t (.tup [.int i,.int o]::xs))->(∀n,n≠d->σ'[n]?=σa[n]?)->σ'.length=σa.length->gh (b8 ns σb) (.pair "inner" "outer") (ez C eo) xs (setL (setL loc "inner" (.int i)) "outer" (.int o)) σ' QQ:=λ{fs' σ'} lo' hl same len =>
   ih (λy hy=>hx y (aj _ hy)) hf htk lo' (λn hn=>⟨(hs n hn).1,(same n (hs n hn).1).trans (hs n hn).2⟩) λloc' σ'' ag' lo'' same' len'=>hQ loc' σ'' (((b6.refl.set ai).set (aj _ ai)).trans ag') (hl▸lo'') (λn hn=>(same' n hn).trans (same n hn)) (len'.trans len)
  rw [vZ] at nx;have l3:=ax lo.len (by decide:23<1000);refine ⟨λn hn=>(hs n hn).2,?_⟩
  (conv=>whnf)
  refine aw htk ?_
  (conv=>whnf)
  refine CK (V.dat_of_key hk.1) rfl (bT hk.2) ?_;by_cases h1:t=tO (.int o)
  ·rw [if_pos h1] at nx;rw [V.deq_iff.mpr h1];by_cases h2:V.int i=.int (-1)
   ·rw [if_pos h2] at nx;cases h2
    (conv=>whnf)
    refine aw hf ?_
    (conv=>whnf)
    exact fO (k:=tB) he rfl ae l3 λe'=>nx (lo.set (k:=tB) (e':=e') ai) rfl (λn hn=>aR (bg hn)) bE
   ·rw [if_neg h2] at nx
    (conv=>whnf)
    refine aw hf ?_
    (conv=>whnf)
    rw [V.deq_ne h2]
    (conv=>whnf)
    have:=De (M:=M) hi;rw [if_neg h2] at this;exact fO (k:=tO (.int i)) he rfl ae l3 λe'=>nx (lo.set (k:=tO (.int i)) (e':=e') this) rfl (λn hn=>aR (bg hn)) bE
  ·rw [if_neg h1] at nx;rw [V.deq_ne h1]
   (conv=>whnf)
   exact nx lo rfl (λz_ z_=>rfl) rfl
end
section
variable{M:cZ}{L:FL}{S S' S'':Tabs}{nw nw' nw'':Bool}{ms:List V}
theorem gL{t:V}(h:t∈M.toks):t=tB\/(∃i:Int,(i=0\/i=1)/\t=tO (.int i))\/∃s∈M.sites,t=tS s:=by
 unfold cZ.toks at h;simp only [List.mem_cons,List.mem_map] at h;rcases h with rfl | rfl | rfl | ⟨s,hs,rfl⟩
 ·exact .inl rfl
 ·exact .inr (.inl ⟨0,.inl rfl,rfl⟩)
 ·exact .inr (.inl ⟨1,.inr rfl,rfl⟩)
 ·exact .inr (.inr ⟨s,hs,rfl⟩)
set_option tactic.hygienic true in
theorem xT{t u x:V}(h:qL t x=some u):∃i o,x=.tup [i,o]/\t=tO o/\u=if i=.int (-1) then tB else tO i:=by
 unfold qL at h
 split at h
 ·rename_i i o
  by_cases ht:t=tO o
  ·rw [if_pos ht] at h;cases h;exact ⟨i,o,rfl,ht,rfl⟩
  ·rw [if_neg ht] at h;cases h
 ·cases h
theorem yg{t u:V}:u∈kt t xs↔∃i o,V.tup [i,o]∈xs/\t=tO o/\u=if i=.int (-1) then tB else tO i:=by
 delta kt;rw [List.mem_filterMap];exact ⟨λq=>bO q λx hx e=>let ⟨i,o,e1,e2,e3⟩:=xT e;⟨i,o,e1▸hx,e2,e3⟩,λw=>cU w λi o hx ht e=>⟨_,hx,e▸if_pos ht⟩⟩
theorem sr{p:Tb×Nat×List V}(h:p∈S):Ad L S p.2.1:=bs.mpr (.inr (aX.mpr ⟨p,h,rfl⟩))
theorem qS{d:Nat}{t:V}{x:String}(h:aY M L S nw J)(lo:Lo M J d fs σa)(ht:t∈M.toks)(hs:loc "self"=some (.obj L.f))(hf:loc "found"=some (.obj d))(htk:loc "token"=some t)
  (hx:jT σa t (.int 0)=some (.str x)) (hne:x≠"site") (hns:∀s,t≠tS s)
  (hQ:∀fl loc' σ' fs',(fl=.next\/fl=.cont)->b6 ["inner","outer"] loc loc'->Lo M J d fs' σ'->(∀u,u∈fs'↔u∈fs\/Ld S.fact t u)->(∀n,n<σa.length->n≠d->σ'[n]?=σa[n]?)->QQ fl loc' σ'):ez C cN loc σa QQ:=by
 refine xe lo.at' λe he=>xe h.atK λks hks=>?_;have hk:=M.tok_key ht;refine aw htk (aw hx ?_)
 (conv=>whnf);rw [V.deq_ne λe=>hne (V.str.inj e)]
 refine aw hf (aw htk (fO he hk.1 (bT hk.2) (ax lo.len (by decide)) λe'=>?_));have lo2:=lo.set (e':=e') ht;have h2:=h.ext lo2.pre;refine xe (h2.tbl hks) λke hke=>aw hs (bY h2.fo rfl (bY h2.so rfl (aw (fj hke) ?_)));rw [iW];refine AN (C:=C) ht (λx hx=>h.ok _ hks x hx) hf htk lo2 (λn hn=>?_) λloc' σ' ag lo' same len=>hQ .cont loc' σ' _ (.inr rfl) ag lo' (λu=>?_) λn hn hne=>(same n hne).trans (aR (bg hne))
 ·rw [an.mp hn];exact ⟨λe=>bh _ (ak (h.lt (sr hks)) (e▸lo.new)),rfl⟩
 ·rw [fM,eB,yg,or_assoc];refine or_congr Iff.rfl ⟨λq=>.inr ⟨hns,q.imp id λ⟨i,o,q1,q2,q3⟩=>⟨i,o,q2,(h.fact_iff hks).mpr q1,q3⟩⟩,λq=>q.elim (λw=>bO w λs q z_=>absurd q (hns s)) λq=>q.2.imp id λ⟨i,o,q2,q1,q3⟩=>⟨i,o,(h.fact_iff hks).mp q1,q2,q3⟩⟩
theorem yU{s s':V}(h:tS s=tS s'):s=s':=by cases h;rfl
theorem AR{d:Nat}{s:V}{fs':List V}(h:aY M L S nw J)(hk:s.key=true/\s.dep<=3)(hs:loc' "self"=some (.obj L.f))(hf:loc' "found"=some (.obj d))(htk:loc' "token"=some (tS s))
  (lo':Lo M J d fs' σ') (hu:∀u,u∈fs'↔u∈fs\/S.fact (.inside s) u) (hQ:∀σ'' fs',Lo M J d fs' σ''->(∀u,u∈fs'↔u∈fs\/Ld S.fact (tS s) u)->(∀n,n≠d->σ''[n]?=σ'[n]?)->QQ .next loc' σ'') :
  ez C [.ite (.cmp .isIn (.sub (.var "token") (.const (.int 1))) (.attr (.var "self") "gone")) [.assign (.sub (.var "found") (.glob "BEYOND" (.tup [(.str "beyond")]))) (.const (.bool true))] []] loc' σ' QQ:=by
 have h3:=h.ext lo'.pre;refine xe h.atG λgs hgs=>xe (h3.tbl hgs) λge hge=>?_;have ld:∀u,(u∈fs\/Ld S.fact (tS s) u)↔(u∈fs'\/(s∈gs/\u=tB)):=λu=>by
  rw [hu,or_assoc];refine or_congr Iff.rfl ⟨λq=>q.elim (λw=>bO w λs' e q=>?_) λq=>absurd rfl (q.1 s),λq=>.inl ⟨s,rfl,q.imp id λq=>⟨(h.fact_iff hgs).mpr q.1,q.2⟩⟩⟩;cases e;exact q.imp id λq=>⟨(h.fact_iff hgs).mp q.1,q.2⟩
 refine aw htk (aw hs (bY h3.fo rfl (iw (nI hge hk.1 (am hk.2 (by decide))) ?_)));by_cases hg:s∈gs
 ·refine xe lo'.at' λe he=>?_;rw [bp hg];refine aw hf ?_;exact fO (k:=tB) he rfl ae (ax lo'.len (by decide)) λe'=>hQ _ _ (lo'.set (k:=tB) (e':=e') ai) (λu=>by rw [eB,ld];exact or_congr Iff.rfl ⟨λq=>⟨hg,q⟩,And.right⟩) λn hn=>aR (bg hn)
 ·rw [decide_eq_false hg];exact hQ _ _ lo' (λu=>by rw [ld];exact ⟨.inl,λq=>q.elim id λq=>absurd q.1 hg⟩) λz_ z_=>rfl
theorem AT{d:Nat}{t:V}(h:aY M L S nw J)(lo:Lo M J d fs σa)(ht:t∈M.toks)(hs:loc "self"=some (.obj L.f))(hf:loc "found"=some (.obj d))(htk:loc "token"=some t)
  (hQ:∀fl loc' σ' fs',(fl=.next\/fl=.cont)->b6 ["inner","outer"] loc loc'->Lo M J d fs' σ'->(∀u,u∈fs'↔u∈fs\/Ld S.fact t u)->(∀n,n<σa.length->n≠d->σ'[n]?=σa[n]?)->QQ fl loc' σ'):ez C cN loc σa QQ:=by
 rcases gL ht with rfl | ⟨i,_,rfl⟩ | ⟨s,hs',rfl⟩
 ·exact qS h lo ht hs hf htk rfl (by decide) (λs=>il) hQ
 ·exact qS h lo ht hs hf htk rfl (by decide) (λs=>ju) hQ
 ·have hk:=M.key s hs';have k6:s.dep<=6:=am hk.2 (by decide);have h1:=h.ext lo.pre;refine xe h1.ins λie hie=>?_;have h2:aY M L S nw (σa++[gc [] [] 0]):=h1.ext az;refine xe h2.ins λie2 hie2=>?_;have tail:∀{loc' σ' fs'},b6 ["inner"] loc loc'->Lo M J d fs' σ'->(∀u,u∈fs'↔u∈fs\/S.fact (.inside s) u)->(∀n,n<σa.length->n≠d->σ'[n]?=σa[n]?)->
    ez C [.ite (.cmp .isIn (.sub (.var "token") (.const (.int 1))) (.attr (.var "self") "gone")) [.assign (.sub (.var "found") (.glob "BEYOND" (.tup [(.str "beyond")]))) (.const (.bool true))] []] loc' σ' QQ:=λ{loc' σ' fs'} ag lo' hu same =>
   AR h hk (ag.at (by decide) hs) (ag.at (by decide) hf) (ag.at (by decide) htk) lo' hu λσ'' fs'' lo'' hu'' same''=>hQ .next loc' σ'' fs'' (.inl rfl) (λx hx=>ag x λq=>hx (by rw [an.mp q];exact ai)) lo'' hu'' λn hn hne=>(same'' n hne).trans (same n hn hne)
  refine aw htk (aw hs (bY h1.fo rfl ⟨Hh hie rfl,aw htk ⟨λp hp=>(aq hp).elim,ae,pM hie2 hk.1 k6 ?_⟩⟩));rcases nF Tb.i? .inside Tb.i_some (λz_=>rfl) s with ⟨a,ts,hm,hget⟩ | ⟨hno,hget⟩
  ·refine xe (h2.tbl hm) λte hte=>?_;rw [hget];refine aw (fj hte) ?_;rw [iW];refine A5 (C:=C) (λx hx=>h.ok _ hm x hx) hf lo.app (λn hn=>?_) λloc' σ' ag lo' same len=>tail ag lo' (λu=>by rw [fM,h.fact_iff hm]) λn hn hne=>(same n hne).trans (au hn);rw [an.mp hn];exact ⟨λe=>bh _ (ak (h.lt (sr hm)) (e▸lo.new)),rfl⟩
  ·rw [hget];refine aw (fj (show (σa++[gc [] [] 0])[σa.length]?=some (.dict [] 0) from aF)) ⟨λn z_=>rfl,tail .refl lo.app (λu=>⟨.inl,λq=>q.elim id λw=>dE w λa ts hm z_=>absurd hm (hno a ts)⟩) λn hn hne=>au hn⟩
end
section
variable{M:cZ}{L:FL}{S S' S'':Tabs}{nw nw' nw'':Bool}{ms:List V}
theorem AS{d l:Nat}(h:aY M L S nw J)(hx:∀x∈ts,x∈M.toks)(hs:loc "self"=some (.obj L.f))(hf:loc "found"=some (.obj d))(lo:Lo M J d fs σa)(hl:l≠d)(hl2:l<σa.length)(he:σa[l]?=σb[l]?)
  (hQ:∀loc' σ' fs',b6 ["token","inner","outer"] loc loc'->Lo M J d fs' σ'->(∀u,u∈fs'↔u∈fs\/∃t∈ts,Ld S.fact t u)->QQ .next loc' σ'):gh (b8 [l] σb) (.name "token") (ez C cN) ts loc σa QQ:=by
 induction ts generalizing fs loc σa with
 | nil=>exact ⟨λn hn=>by rw [an.mp hn];exact he,hQ loc σa fs .refl lo λu=>⟨.inl,λq=>q.elim id λw=>bO w λz_ q z_=>(aq q).elim⟩⟩
 | cons t ts ih =>
  refine ⟨λn hn=>by rw [an.mp hn];exact he,AT h lo (hx t ai) hs hf rfl λfl loc' σ' fs' hfl ag lo' hu same=>?_⟩;have ag2:b6 ["token","inner","outer"] loc loc':=(b6.refl.set ai).trans λx q=>ag x λq'=>q (aj _ q');have hl3:σ'[l]?=σa[l]?:=same l hl2 hl;have go:gh (b8 [l] σb) (.name "token") (ez C cN) ts loc' σ' QQ :=
   ih (λx q=>hx x (aj _ q)) (ag2.at (by decide) hs) (ag2.at (by decide) hf) lo' (a8 (hl3.trans (aA hl2))) (hl3.trans he) λloc'' σ'' fs'' ag' lo'' hu'=>hQ loc'' σ'' fs'' (ag2.trans ag') lo'' λu=>by
    rw [hu',hu,or_assoc];exact or_congr Iff.rfl ⟨λq=>q.elim (λq=>⟨t,ai,q⟩) λy=>bO y λt' q1 q2=>⟨t',aj _ q1,q2⟩,λz=>bO z λt' q1 q2=>(aO.mp q1).elim (λe=>.inl (e▸q2)) λq1=>.inr ⟨t',q1,q2⟩⟩
  rcases hfl with rfl | rfl<;>exact go
theorem Lo.nil:Lo M J J.length [] (J++[gc [] [] 0]):=⟨az,ay _,⟨0,aF⟩,List.nodup_nil,λu hu=>(aq hu).elim⟩
theorem Lo.big{d:Nat}{fs:List V}(h:Lo M J d fs σa):fs.length<Mine.big:=ax h.len (by decide)
theorem eT{p:V×V}(hp:p∈([]:List (V×V))):p.1.key=true/\p.1.dep<=6:=(aq hp).elim
theorem v3{d:Nat}(lo:Lo M J d fs σa)(hQ:Q (.obj σa.length) (σa++[.list fs])):jq .list [.obj d] σa Q:=by
 refine xe lo.at' λe he=>?_;have hi:=kr he;rw [iW] at hi;exact gj hi lo.big hQ
theorem fU{l:Nat}(h:aY M L S nw J)(hl:J[l]?=some (.list ts))(hx:∀x∈ts,x∈M.toks)
  (hQ:∀r σ' us,J <+:σ'->σ'[r]?=some (.list us)->J.length<=r->us.Nodup->(∀u∈us,u∈M.toks)->(∀u,u∈us↔∃t∈ts,Ld S.fact t u)->Q (.obj r) σ') :
  aZ a0 (n+1) ("EscapeFlow","loaded") [.obj L.f,.obj l] J Q:=by
 refine bq (d:=ig) rfl ae ae ⟨λp hp=>eT hp,ae,?_⟩;have hl2:(J++[gc [] [] 0])[l]?=some (.list ts):=aS hl;refine aw (ch hl2) (AS (C:=aZ a0 n) (d:=J.length) h hx rfl rfl Lo.nil (aW (a8 hl)) (a8 hl2) rfl λloc' σ' fs' ag lo' hu=>aw (ag.at (by decide) rfl) ?_);exact v3 lo' (hQ _ _ fs' (lo'.pre.trans az) aF (bS lo'.pre) lo'.nd lo'.ok λu=>by rw [hu];exact ⟨λq=>q.elim (λq=>(aq q).elim) id,.inr⟩)
inductive tF(r:V->V->Prop):V->V->Prop
 | refl {a:V}:tF r a a
 | tail {a b c:V}:tF r a b->r b c->tF r a c
theorem tF.mono{r r':V->V->Prop}(h:∀a b,r a b->r' a b)(x:tF r a b):tF r' a b:=by
 induction x with
 | refl=>exact .refl
 | tail _ q ih=>exact .tail ih (h _ _ q)
noncomputable def Rc(F:Facts)(T:V->Prop)(u:V):Prop:=∃t,T t/\tF (Ld F) t u
theorem kU{w r:Nat}{ws:List V}{b:Bool}{Q:Bool->Prop}(hw:J[w]?=some (.list ws))(hr:J[r]?=some (.list []))(h1:V.dats ws=true)(h2:V.deps ws<=6)(hb:ws.isEmpty=b)(q:Q (!b)):dn (jL .ne J (.obj w) (.obj r)) Q:=by
 refine aw (show (Im J (.obj w) (.obj r)).map (!·)=some (!b) from ?_) q;have:Im J (.obj w) (.obj r)=some (V.deq (.tup ws) (.tup [])):=Dw hw hr h1 h2 rfl;rw [this,<-hb];cases ws<;>rfl
theorem Fm{ws:List V}(h:∀x∈ws,x∈M.toks):V.dats ws=true/\V.deps ws<=6:=by
 constructor
 ·exact V.dats_iff.mpr λv hv=>V.dat_of_key (M.tok_key (h v hv)).1
 ·induction ws with
  | nil=>exact aC _
  | cons x r ih =>
   have h1:=(M.tok_key (h x ai)).2;have h2:=ih λy hy=>h y (aj _ hy);dsimp only [V.deps];omega
structure RI(F:Facts)(T:V->Prop)(fs ws:List V):Prop where
 i1:∀u,u∈fs\/u∈ws->Rc F T u
 i2:∀t,T t->t∈fs\/t∈ws
 i3:∀t u,t∈fs->Ld F t u->u∈fs\/u∈ws
section
variable{T:V->Prop}{ws us:List V}{t:V}
theorem bV{ws:List α}{t u:α}:u∈ws++[t]↔u∈ws\/u=t:=by rw [List.mem_append,List.mem_singleton]
theorem tF.keep(h:∀t u,t∈fs->Ld F t u->u∈fs)(st:tF (Ld F) a b):a∈fs->b∈fs:=by
 induction st with
 | refl=>exact id
 | tail _ q ih=>exact λha=>h _ _ (ih ha) q
theorem RI.done(h:RI F T fs [])(u:V):u∈fs↔Rc F T u :=
 have k:∀{u},u∈fs\/u∈([]:List V)->u∈fs:=λq=>q.elim id λq=>(aq q).elim
 ⟨λq=>h.i1 u (.inl q),λw=>bO w λt ht st=>st.keep (λa b ha l=>k (h.i3 a b ha l)) (k (h.i2 t ht))⟩
theorem RI.skip(h:RI F T fs (ws++[t]))(ht:t∈fs):RI F T fs ws :=
 have k:∀u,u∈fs\/u∈ws++[t]->u∈fs\/u∈ws:=λu q=>q.elim .inl λq=>(bV.mp q).elim .inr λe=>.inl (e▸ht)
 ⟨λu q=>h.i1 u (q.imp id λq=>bV.mpr (.inl q)),λu q=>k u (h.i2 u q),λa u q1 q2=>k u (h.i3 a u q1 q2)⟩
theorem RI.step(h:RI F T fs (ws++[t]))(hu:∀u,u∈us↔Ld F t u):RI F T (er fs t) (ws++us) :=
 have k:∀u,u∈fs\/u∈ws++[t]->u∈er fs t\/u∈ws++us:=λu q=>q.elim (λq=>.inl (eB.mpr (.inl q))) λq=>(bV.mp q).elim (λq=>.inr (bs.mpr (.inl q))) λe=>.inl (eB.mpr (.inr e))
 ⟨λu q=>q.elim (λq=>(eB.mp q).elim (λq=>h.i1 u (.inl q)) λe=>h.i1 u (.inr (bV.mpr (.inr e)))) λq=>(bt.mp q).elim (λq=>h.i1 u (.inr (bV.mpr (.inl q)))) λq=>let ⟨x,hx,st⟩:=h.i1 t (.inr (bV.mpr (.inr rfl)));⟨x,hx,st.tail ((hu u).mp q)⟩,
  λu q=>k u (h.i2 u q),λa u q1 q2=>(eB.mp q1).elim (λq1=>k u (h.i3 a u q1 q2)) λe=>.inr (bs.mpr (.inr ((hu u).mpr (e▸q2))))⟩
theorem v9(ws:List V):ws=[]\/∃a b,ws=a++[b]:=(List.eq_nil_or_concat ws).imp id λ⟨a,b,e⟩=>⟨a,b,e.trans List.concat_eq_append⟩
theorem Ci(h:t∉fs):er fs t=fs++[t]:=if_neg h
end
theorem Lo.setL{d w:Nat}{o:Ob}(lo:Lo M J d fs σa)(hdw:d≠w)(hw0:J.length<=w):Lo M J d fs (σa.set w o) :=
 ⟨kD lo.pre hw0,lo.new,let ⟨e,q⟩:=lo.at';⟨e,(aR (bg hdw)).trans q⟩,lo.nd,lo.ok⟩
theorem oh:M.toks.length<=23:=M.vals_len (.held .none)
theorem yF{k d w:Nat}(h:aY M L S nw J){T:V->Prop}(hdw:d≠w)(hw0:J.length<=w){m:Nat}:∀{fs ws:List V} {loc:Loc} {σa:Hp},(∀x∈ws,x∈M.toks)->loc "self"=some (.obj L.f)->loc "found"=some (.obj d)->loc "waiting"=some (.obj w)->Lo M J d fs σa->σa[w]?=some (.list ws)->
  RI S.fact T fs ws->(M.toks.length-fs.length)*24+ws.length<m->m<=100000->
  (∀loc' σ' fs',b6 ["token"] loc loc'->Lo M J d fs' σ'->(∀u,u∈fs'↔Rc S.fact T u)->QQ .next loc' σ')->jB (u3 (aZ a0 (k+1)) fR) (ez (aZ a0 (k+1)) fQ) m loc σa QQ:=by
 induction m with
 | zero=>intro fs ws loc σa hx hs hf hw lo he ri hm;exact absurd hm (Nat.not_lt_zero _)
 | succ m ih =>
  intro fs ws loc σa hx hs hf hw lo he ri hm hm2 hQ;have he2:(σa++[Ob.list []])[w]?=some (.list ws):=aS he;have hd:=Fm hx;refine aw hw ?_;rcases v9 ws with rfl | ⟨ws',t,rfl⟩
  ·exact kU (b:=true) he2 aF hd.1 hd.2 rfl (hQ loc _ fs .refl lo.app ri.done)
  ·refine kU (b:=false) he2 aF hd.1 hd.2 (by cases ws'<;>rfl) ?_;have tk:t∈M.toks:=hx t (bV.mpr (.inr rfl));have hk:=M.tok_key tk;have hlen:(ws'++[t]).length=ws'.length+1:=aH;have hm':(M.toks.length-fs.length)*24+(ws'.length+1)<m+1:=hlen▸hm;have hb:(ws'++[t]).length<big:=ax (Nat.le_add_left _ _) (ak hm (am hm2 (by decide)));have lo1:Lo M J d fs ((σa++[Ob.list []]).set w (.list ws')):=lo.app.setL hdw hw0;have hw1:((σa++[Ob.list []]).set w (.list ws'))[w]?=some (.list ws'):=bG he2;refine xe lo1.at' λfe hfe=>?_;have hx':∀x∈ws',x∈M.toks:=λx q=>hx x (bV.mpr (.inl q));refine aw hw ⟨A7 he2 rfl,?_⟩;refine zy he2 hb List.getLast?_concat ?_;rw [List.dropLast_concat];refine aw hf (nT (nI hfe hk.1 (bT hk.2)) ?_);have ag:b6 ["token"] loc (setL loc "token" t):=b6.refl.set ai;by_cases ht:t∈fs
   ·rw [bp ht];exact ih hx' hs hf hw lo1 hw1 (ri.skip ht) (Nat.lt_of_succ_lt_succ hm') (Nat.le_of_succ_le hm2) λloc' σ' fs' ag' lo' hu=>hQ loc' σ' fs' (ag.trans ag') lo' hu
   ·rw [decide_eq_false ht];refine aw hf ?_;refine fO hfe hk.1 (bT hk.2) (ax lo1.len (by decide)) λe'=>?_;have lo2:=lo1.set (e':=e') tk;have hw2:(((σa++[Ob.list []]).set w (.list ws')).set d (.dict (fX (er fs t)) e'))[w]?=some (.list ws'):=(aR hdw).trans hw1;generalize ((σa++[Ob.list []]).set w (.list ws')).set d (.dict (fX (er fs t)) e')=σc at lo2 hw2 ⊢;have h2:=h.ext lo2.pre;refine aw hw ⟨A7 hw2 rfl,aw hs (aU h2.fo rfl ?_)⟩;refine fU (h2.ext az) aF (λx q=>by rw [an.mp q];exact tk) λr σ' us p hr z_ nd ok hu=>?_;have p2:σc <+:σ':=az.trans p;have hul:us.length<=23:=am (cV nd ok) oh;have lo3:=lo2.ext p2;have e9:(er fs t).length=fs.length+1:=by rw [Ci ht];exact aH
    have hlt:(er fs t).length<=M.toks.length:=cV lo3.nd lo3.ok;refine fT (bR p2 hw2) (fD hr) (ax (Nat.add_le_add (Nat.le_of_succ_le_succ (am (cB (ax (Nat.le_add_left _ _) hm')) hm2:_<=100000)) hul) (by decide)) ?_;refine ih (λx q=>(bt.mp q).elim (hx' x) (ok x)) hs hf hw (lo3.setL hdw hw0) (bG (bR p2 hw2)) (ri.step λu=>(hu u).trans ⟨λy=>bO y λt' q1 q2=>an.mp q1▸q2,λq=>⟨t,ai,q⟩⟩) (by rw [e9,aH];exact Ih hm' (e9▸hlt) hul) (Nat.le_of_succ_le hm2) λloc' σ' fs' ag' lo' hu=>hQ loc' σ' fs' (ag.trans ag') lo' hu
theorem iB{l:Nat}(h:aY M L S nw J)(hl:J[l]?=some (.list ts))(hx:∀x∈ts,x∈M.toks)(hlen:ts.length<1000)
  (hQ:∀r σ' us,J <+:σ'->σ'[r]?=some (.list us)->J.length<=r->us.Nodup->(∀u∈us,u∈M.toks)->(∀u,u∈us↔Rc S.fact (·∈ts) u)->Q (.obj r) σ') :
  aZ a0 (n+2) ("EscapeFlow","reached") [.obj L.f,.obj l] J Q:=by
 refine bq (d:=gV) rfl ae ae ⟨λp hp=>eT hp,ae,gj (et (aS hl)) (aQ hlen (by decide)) ⟨((M.toks.length-0)*24+ts.length)+1,?_⟩⟩;have htl:M.toks.length<=23:=oh;exact yF (k:=n) (d:=J.length) (w:=(J++[gc [] [] 0]).length) (T:=(·∈ts)) h (aW (a8 aF)) (bS az) hx rfl rfl rfl Lo.nil.app aF ⟨λu q=>⟨u,q.elim (λq=>(aq q).elim) id,.refl⟩,λt=>.inr,λt u q=>(aq q).elim⟩ (bX _) (am (Nat.succ_le_succ (Nat.add_le_add (Nat.mul_le_mul_right 24 htl) (cB hlen))) (by decide)) λloc' σ' fs' ag lo' hu=>aw (ag.at (by decide) rfl) (v3 lo' (hQ _ _ fs' (lo'.pre.trans az) aF (bS lo'.pre) lo'.nd lo'.ok hu))
end
section
variable{M:cZ}{L:FL}{S S' S'':Tabs}{nw nw' nw'':Bool}{ms:List V}
noncomputable abbrev vT:V:=.tup [.str "ptr",.tup [.str "int",.str "int"]]
noncomputable abbrev oR(r:V):V:=.tup [.str "reg",r]
noncomputable def cg(F:Facts)(op:V)(t:V):Prop:=(∃r,op=oR r/\F (.held r) t)\/False
noncomputable def iq(op:V):Prop:=(∃r∈regs,op=oR r)\/False
theorem zN{r:V}(h:r∈regs):∃i:Nat,r=.int i/\i<10:=by
 unfold regs at h;refine bO (List.mem_map.mp h) λi hi q=>?_;subst q;exact ⟨i,rfl,List.mem_range.mp hi⟩
theorem Ir{r r':V}(h:oR r=oR r'):r=r':=by cases h;rfl
theorem w7{r u:V}:cg F (oR r) u↔F (.held r) u:=⟨λq=>q.elim (λw=>bO w λr' e q=>Ir e▸q) False.elim,λq=>.inl ⟨r,rfl,q⟩⟩
theorem bI{op:V}(h:aY M L S nw J)(ho:iq op)
  (hQ:∀r σ' us,J <+:σ'->σ'[r]?=some (.list us)->J.length<=r->us.Nodup->(∀u∈us,u∈M.toks)->(∀u,u∈us↔cg S.fact op u)->Q (.obj r) σ') :
  aZ a0 (n+2) ("EscapeFlow","tokens_of") [.obj L.f,op] J Q:=by
 refine bq (d:=f7) rfl ae ae ?_;obtain ⟨r,hr,rfl⟩:=ho.elim id False.elim;refine bO (zN hr) λi w hi=>?_;subst w;have h2:aY M L S nw (J++[gc [] [] 0]):=h.ext az;refine xe h.hd λie hie=>xe h2.hd λie2 hie2=>bY h.fo rfl ⟨Hh hie rfl,⟨λp hp=>eT hp,ae,pM hie2 rfl (aC _) ?_⟩⟩;rcases nF Tb.h? .held Tb.h_some (λz_=>rfl) (.int i) with ⟨a,ts,hm,hget⟩ | ⟨hno,hget⟩
 ·rw [hget];refine xe (h2.tbl hm) λte hte=>?_;have hi:=kr hte;rw [iW] at hi;exact gj hi (ax (h2.ln hm) (by decide)) (hQ _ _ ts (az.trans az) aF (bS az) (h.nd _ hm) (λu hu=>h.ok _ hm u hu) λu=>by rw [w7,h.fact_iff hm])
 ·rw [hget];refine gj (kr (aF (J:=J) (o:=gc [] [] 0))) ae ?_;exact hQ _ _ [] (az.trans az) aF (bS az) List.nodup_nil (λu hu=>(aq hu).elim) λu=>⟨λq=>(aq q).elim,λq=>let ⟨a,ts,hm,_⟩:=w7.mp q;absurd hm (hno a ts)⟩
end
section
variable{M:cZ}{L:FL}{S S' S'':Tabs}{nw nw' nw'':Bool}{ms:List V}
inductive Ix where | h | i | t
noncomputable def Ix.f:Ix->Tb->Option V | .h=>Tb.h? | .i=>Tb.i? | .t=>Tb.t?
noncomputable def Ix.g:Ix->V->Tb | .h=>.held | .i=>.inside | .t=>.told
noncomputable def Ix.ad(L:FL):Ix->Nat | .h=>L.held | .i=>L.inside | .t=>L.told
theorem Ix.some(c:Ix){t:Tb}{r:V}(h:c.f t=.some r):t=c.g r:=by
 cases c
 ·exact Tb.h_some h
 ·exact Tb.i_some h
 ·exact Tb.t_some h
theorem Ix.fg(c:Ix)(r:V):c.f (c.g r)=.some r:=by cases c<;>rfl
theorem Ix.other{c d:Ix}(h:c≠d)(r:V):c.f (d.g r)=none:=by cases c<;>cases d<;>first | exact absurd rfl h | rfl
theorem aY.ix(h:aY M L S nw J)(c:Ix):∃e,J[c.ad L]?=.some (.dict (S.idx c.f) e):=by
 cases c
 ·exact h.hd
 ·exact h.ins
 ·exact h.td
theorem aY.own5(h:aY M L S nw J):(L.f≠L.held/\L.f≠L.inside/\L.f≠L.summ/\L.f≠L.told)/\(L.held≠L.inside/\L.held≠L.summ/\L.held≠L.told)/\(L.inside≠L.summ/\L.inside≠L.told)/\L.summ≠L.told:=by
 have nd:=(cI.mp h.ads).1;unfold FL.own at nd;simp only [List.nodup_cons,List.mem_cons,aq,or_false,not_or] at nd;exact tz nd λq w x d10 z_=>mV q λd1 d2 d3 d4=>o9 w λd5 d6 d7=>xa x λd8 d9=>⟨⟨d1,d2,d3,d4⟩,⟨d5,d6,d7⟩,⟨d8,d9⟩,d10⟩
theorem Ix.inj(h:aY M L S nw J){c d:Ix}(hne:c≠d):c.ad L≠d.ad L:=by
 refine mV h.own5 λq w x d10=>mV q λd1 d2 d3 d4=>o9 w λd5 d6 d7=>xa x λd8 d9=>?_;cases c<;>cases d<;>first | exact absurd rfl hne | assumption | exact bg (by assumption)
theorem Ix.notFS(h:aY M L S nw J)(c:Ix):c.ad L≠L.f/\c.ad L≠L.summ:=by
 refine mV h.own5 λq w x d10=>mV q λd1 d2 d3 d4=>o9 w λd5 d6 d7=>xa x λd8 d9=>?_;cases c
 ·exact ⟨bg d1,d6⟩
 ·exact ⟨bg d2,d8⟩
 ·exact ⟨bg d4,bg d10⟩
theorem Ix.mem(c:Ix):c.ad L∈L.own:=by unfold FL.own;cases c<;>simp [Ix.ad]
theorem qF{a:Nat}:Tabs.fact (S++[(tb,a,[])])=S.fact:=by
 funext tb' v
 apply propext;constructor
 ·intro q;refine dE q λb us h1 h2=>?_;clear q;refine Or.elim (bt.mp h1) (λh1=>?_) (λh1=>?_)
  ·exact ⟨b,us,h1,h2⟩
  ·rw [List.mem_singleton] at h1;cases h1;cases h2
 ·exact λw=>dE w λb us h1 h2=>⟨b,us,bs.mpr (.inl h1),h2⟩
theorem DF(h:aY M L S nw J)(c:Ix){r:V}{e e':Nat}(hr:c.g r∈M.tbs)(hno:∀a ts,(c.g r,a,ts)∉S) :
  Op M L [] Kq S nw J (S++[(c.g r,J.length,[])]) nw ((J++[Ob.dict [] e]).set (c.ad L) (.dict (S.idx c.f++[(r,.obj J.length)]) e')):=by
 have new:∀{n},Ad L S n->n≠J.length:=λ{n} ha e=>bh _ (e▸h.lt ha);have adO:∀{n},n∈L.own->Ad L S n:=λ{n} q=>bs.mpr (.inl q);have adT:∀{p},p∈S->Ad L S p.2.1:=λ{p} q=>bs.mpr (.inr (aX.mpr ⟨_,q,rfl⟩));have clt:c.ad L<J.length:=h.lt (adO c.mem);refine xa (c.notFS h) λnf nsm=>?_;have at0:∀{n o},J[n]?=some o->n≠c.ad L->((J++[Ob.dict [] e]).set (c.ad L) (.dict (S.idx c.f++[(r,.obj J.length)]) e'))[n]?=some o:=λq1 q2=>(aR (bg q2)).trans (aS q1);have atI:((J++[Ob.dict [] e]).set (c.ad L) (.dict (S.idx c.f++[(r,.obj J.length)]) e'))[c.ad L]?=some (.dict (S.idx c.f++[(r,.obj J.length)]) e'):=by
  exact xe (h.ix c) λe0 q=>bG (aS q)
 have ix:∀d:Ix,∃e0,((J++[Ob.dict [] e]).set (c.ad L) (.dict (S.idx c.f++[(r,.obj J.length)]) e'))[d.ad L]?=some (.dict (Tabs.idx (S++[(c.g r,J.length,[])]) d.f) e0):=λd=>by
  by_cases hd:d=c
  ·subst hd;refine ⟨e',?_⟩;rw [atI];unfold Tabs.idx;rw [List.filterMap_append,List.filterMap_cons_some (b:=(r,V.obj J.length)) (by show (d.f (d.g r)).map _=_;rw [d.fg];rfl)];rfl
  ·refine xe (h.ix d) λe0 q=>⟨e0,?_⟩
   rw [at0 q (Ix.inj h hd)];unfold Tabs.idx;rw [List.filterMap_append,List.filterMap_cons_none (by show (d.f (c.g r)).map _=_;rw [Ix.other hd];rfl)];simp
 have m1:(S++[(c.g r,J.length,([]:List V))]).map (·.1)=S.map (·.1)++[c.g r]:=by simp
 have m2:(S++[(c.g r,J.length,([]:List V))]).map (·.2.1)=S.map (·.2.1)++[J.length]:=by simp
 refine ⟨⟨at0 h.fo (bg nf),at0 h.so (bg nsm),ix .h,ix .i,ix .t,λp hp=>?_,?_,?_,λp hp=>?_,λp hp=>?_,λp hp v hv=>?_,?_,?_,?_,?_⟩,?_,λn hn ha=>?_,λn hn=>?_,id,λz_=>qF,λz_ z_ z_ f=>f.elim,λtb v f=>?_,λC h1 z_ tb v f=>?_,λus us' h1 h2=>?_,λtb a us hu=>⟨us,bs.mpr (.inl hu)⟩,?_,λh1 h2=>?_⟩
 ·refine Or.elim (bt.mp hp) (λhp=>?_) (λhp=>?_)
  ·exact xe (h.tb p hp) λe0 q=>⟨e0,at0 q λe=>h.apart hp (e▸c.mem)⟩
  ·rw [List.mem_singleton] at hp;subst hp;exact ⟨e,(aR (aW clt)).trans aF⟩
 ·rw [m2,<-bi];exact List.nodup_append.mpr ⟨h.ads,by simp,λa ha b hb=>by rw [an.mp hb];exact new ha⟩
 ·rw [m1];refine List.nodup_append.mpr ⟨h.keys,by simp,λa ha b hb=>?_⟩;rw [an.mp hb];rintro rfl;exact bO (List.mem_map.mp ha) λp hp e=>hno p.2.1 p.2.2 (e▸hp)
 ·refine Or.elim (bt.mp hp) (λhp=>?_) (λhp=>?_)
  ·exact h.nd p hp
  ·rw [List.mem_singleton] at hp;subst hp;simp
 ·refine Or.elim (bt.mp hp) (λhp=>?_) (λhp=>?_)
  ·exact h.tbs p hp
  ·rw [List.mem_singleton] at hp;subst hp;exact hr
 ·refine Or.elim (bt.mp hp) (λhp=>?_) (λhp=>?_)
  ·exact h.ok p hp v hv
  ·rw [List.mem_singleton] at hp;subst hp;cases hv
 ·exact xe h.atS λts q=>⟨ts,bs.mpr (.inl q)⟩
 ·exact xe h.atG λts q=>⟨ts,bs.mpr (.inl q)⟩
 ·exact xe h.atL λts q=>⟨ts,bs.mpr (.inl q)⟩
 ·exact xe h.atK λts q=>⟨ts,bs.mpr (.inl q)⟩
 ·simp
 ·rw [aR λe:c.ad L=n=>ha (e▸adO c.mem),au hn]
 ·unfold Ad at hn ⊢;rw [m2,<-bi] at hn;exact (bt.mp hn).imp id λq=>Nat.le_of_eq (an.mp q).symm
 ·rw [qF];exact f
 ·rw [qF] at f;exact h1 tb v f
 ·refine Or.elim (bt.mp h2) (λh2=>?_) (λh2=>?_)
  ·exact (h.uniq h2 h1).2
  ·rw [List.mem_singleton] at h2;have:=congrArg (·.1) h2;cases c<;>cases this
 ·unfold Tabs.size;simp
 ·rw [h1] at h2;cases h2
theorem jY{l:List (V×V)}(h:getD l k=none):gK l k v=l++[(k,v)]:=by
 unfold gK;rw [oM h]
theorem oZ(h:aY M L S nw J)(c:Ix):Iu .setdefault J (.obj (c.ad L))=true:=let ⟨e,he⟩:=h.ix c;Hh he rfl
theorem zp(h:aY M L S nw J){f:Tb->Option V}:(S.idx f).length<big:=by
 have h3:=cV (l:=S.map (·.1)) (m:=M.tbs) h.keys λx hx=>let ⟨p,hp,e⟩:=List.mem_map.mp hx;e▸h.tbs p hp
 have h4:M.tbs.length<=100:=by
  have:=M.few;simp only [cZ.tbs,regs,aH,aM,List.length_range,List.length_cons,List.length_nil];omega
 rw [aM] at h3;exact ax (List.length_filterMap_le ..) (ax (am h3 h4) (by decide))
theorem lN(h:aY M L S nw J)(c:Ix){r:V}(hk:r.key=true)(hd:r.dep<=6)(hr:c.g r∈M.tbs)
  (hQ:∀a ts S' σ',(c.g r,a,ts)∈S'->Op M L [] Kq S nw J S' nw σ'->Q (.obj a) σ'):xp .setdefault (.obj (c.ad L)) [r,.obj J.length] (J++[gc [] [] 0]) Q:=by
 have h2:aY M L S nw (J++[gc [] [] 0]):=h.ext az;refine xe (h2.ix c) λe2 he2=>?_;rcases nF c.f c.g c.some c.fg r with ⟨a,ts,hm,hget⟩ | ⟨hno,hget⟩
 ·exact D5 he2 hk hd (zp h) hget (hQ a ts S _ hm (.ext h az λz_ z_ f=>f.elim))
 ·refine D2 he2 hk hd (zp h) hget ?_;have e3:gq (S.idx c.f) e2 r (.obj J.length)=.dict (S.idx c.f++[(r,.obj J.length)]) (e2+1):=by
   unfold gq;rw [jY hget,hget];rfl
  rw [e3];exact hQ _ [] _ _ (bs.mpr (.inr (List.mem_singleton.mpr rfl))) (DF h c hr hno)
theorem zn(f:α->V){names:List String}{t:Tn}{body:Loc->Hp->(Fl->Loc->Hp->Prop)->Prop}{Rx:α->Facts->Facts}{nx:α->List V}{loca:Loc}{Sc:Tabs}{nwa:Bool}(xsa:List α)(h0:aY M L Sc nwa σb)
  (hgd:∀S' nw' σ' ns R,Op M L ns R Sc nwa σb S' nw' σ'->gd σ')
  (hstep:∀x∈xsa,∀loc S nw J ns R,b6 names loca loc->Op M L ns R Sc nwa σb S nw J->∃loc1,vo t (f x) loc J=some loc1/\∀QQ:Fl->Loc->Hp->Prop,(∀fl loc2 S' nw' σ',(fl=.next\/fl=.cont)->b6 names loca loc2->Op M L (nx x) (Rx x) S nw J S' nw' σ'->QQ fl loc2 σ')->body loc1 J QQ)
  (hQ:∀loc S nw J,b6 names loca loc->Op M L (xsa.flatMap nx) (λF tb v=>∃x∈xsa,Rx x F tb v) Sc nwa σb S nw J->QQ .next loc J):gh gd t body (xsa.map f) loca σb QQ:=by
 suffices key:∀(rest done:List α),xsa=done++rest->∀{loc S nw J},b6 names loca loc->Op M L (done.flatMap nx) (λF tb v=>∃x∈done,Rx x F tb v) Sc nwa σb S nw J->gh gd t body (rest.map f) loc J QQ from
  key xsa [] rfl .refl ((Op.refl h0).conv' λF tb v=>⟨λw=>bO w λz_ q z_=>(aq q).elim,λq=>q.elim⟩)
 intro rest
 induction rest with
 | nil =>
  intro done e loc S nw J ag o;rw [bn] at e;exact ⟨hgd _ _ _ _ _ o,hQ loc S nw J ag (e▸o)⟩
 | cons x rest ih =>
  intro done e loc S nw J ag o;refine bO (hstep x (e▸bs.mpr (.inr ai)) loc S nw J _ _ ag o) λloc1 hb hs=>⟨hgd _ _ _ _ _ o,?_⟩
  rw [hb];refine hs _ λfl loc2 S' nw' σ' hfl ag2 o2=>?_;have:=ih (done++[x]) (e.trans (List.append_cons ..)) ag2 (by
   rw [List.flatMap_append,List.flatMap_singleton];exact (Op.trans h0 o o2).conv' λF tb v=>⟨λz=>bO z λy hy q=>(bV.mp hy).elim (λhy=>.inl ⟨y,hy,q⟩) λhy=>.inr (hy▸q),λq=>q.elim (λu=>bO u λy hy q=>⟨y,bV.mpr (.inl hy),q⟩) λq=>⟨x,bV.mpr (.inr rfl),q⟩⟩)
  rcases hfl with rfl | rfl<;>exact this
theorem kn{names:List String}{t:Tn}{body:Loc->Hp->(Fl->Loc->Hp->Prop)->Prop}{Rx:V->Facts->Facts}{nx:V->List V}{loca:Loc}{Sc:Tabs}{nwa:Bool}(xsa:List V)(h0:aY M L Sc nwa σb)
  (hgd:∀S' nw' σ' ns R,Op M L ns R Sc nwa σb S' nw' σ'->gd σ')
  (hstep:∀x∈xsa,∀loc S nw J ns R,b6 names loca loc->Op M L ns R Sc nwa σb S nw J->∃loc1,vo t x loc J=some loc1/\∀QQ:Fl->Loc->Hp->Prop,(∀fl loc2 S' nw' σ',(fl=.next\/fl=.cont)->b6 names loca loc2->Op M L (nx x) (Rx x) S nw J S' nw' σ'->QQ fl loc2 σ')->body loc1 J QQ)
  (hQ:∀loc S nw J,b6 names loca loc->Op M L (xsa.flatMap nx) (λF tb v=>∃x∈xsa,Rx x F tb v) Sc nwa σb S nw J->QQ .next loc J):gh gd t body xsa loca σb QQ :=
 List.map_id xsa▸zn id xsa h0 hgd hstep hQ
end
section
variable{M:cZ}{L:FL}{S S' S'':Tabs}{nw nw' nw'':Bool}{ms:List V}
theorem Op.stoodL(o:Op M L ns R S nw J S' nw' σ'){l:Nat}(hl:l<J.length)(hna:¬Ad L S l):b8 [l] J σ':=λn hn=>by
 rw [an.mp hn];exact o.fr l hl hna
theorem flatMap_nil:xs.flatMap (λz_=>([]:List V))=[]:=List.flatMap_eq_nil_iff.mpr λz_ z_=>rfl
theorem sW{l a:Nat}{us:List V}(h:aY M L S nw J)(hm:(tb,a,us)∈S)(hns:∀k,F3 tb k=[])(hx:∀x∈ts,x∈M.vals tb)(hl:J[l]?=some (.list ts))(hna:¬Ad L S l)(hs:loc "self"=some (.obj L.f))(hh:loc "held"=some (.obj a))
  (hQ:∀loc' S' nw' σ',b6 ["token"] loc loc'->Op M L [] (λz_ tb' v=>tb'=tb/\v∈ts) S nw J S' nw' σ'->QQ .next loc' σ'):gh (b8 [l] J) (.name "token") (ez (aZ a0 (n+1)) gT) ts loc J QQ:=by
 refine kn (names:=["token"]) (nx:=λz_=>[]) (Rx:=λx=>GY tb x) ts h (λS' nw' σ' ns R o=>o.stoodL (a8 hl) hna) (λx hxt loc' S' nw' σ' ns R ag o=>⟨_,rfl,λQQ hq=>?_⟩) λloc' S' nw' σ' ag o=>?_
 ·refine xe (o.tab _ _ _ hm) λus' hus=>aw (ag.at (by decide) hs) (aU o.fl.fo rfl (aw (ag.at (by decide) hh) (eD o.fl hus (hx x hxt) λS2 nw2 σ2 o2=>hq _ _ S2 nw2 σ2 (.inl rfl) (ag.set ai) ?_)));rw [hns] at o2;exact o2
 ·rw [flatMap_nil] at o;exact hQ loc' S' nw' σ' ag (o.conv' λF tb' v=>⟨λw=>xa w λe q=>⟨v,q,e,rfl⟩,λy=>cG y λx q e e2=>⟨e,e2▸q⟩⟩)
noncomputable def dA(r:V)(T:V->Prop):Facts->Facts:=λz_ tb v=>tb=.held r/\T v
theorem tW{r:V}(h:r∈regs):Tb.held r∈M.tbs:=by
 delta cZ.tbs;simp only [List.mem_append,List.mem_map];exact .inl (.inl ⟨r,h,rfl⟩)
theorem AB{r:V}(h:r∈M.sites):Tb.inside r∈M.tbs:=by
 delta cZ.tbs;simp only [List.mem_append,List.mem_map];exact .inl (.inr ⟨r,h,rfl⟩)
theorem dz{l:Nat}{r:V}(h:aY M L S nw J)(hr:r∈regs)(hl:J[l]?=some (.list ts))(hna:¬Ad L S l)(hx:∀x∈ts,x∈M.toks)
  (hQ:∀S' nw' σ',Op M L [] (dA r (·∈ts)) S nw J S' nw' σ'->Q .none σ'):aZ a0 (n+2) ("EscapeFlow","give") [.obj L.f,r,.obj l] J Q:=by
 refine bO (zN hr) λi w hi=>?_;subst w;refine bq (d:=jd) rfl ae ae (bY h.fo rfl ⟨oZ h .h,⟨λp hp=>eT hp,ae,lN h .h (r:=.int i) rfl (aC _) (tW hr) λa us S1 σ1 hm o=>?_⟩⟩);have hl1:=o.keep hl hna;exact aw (ch hl1.1) (sW o.fl hm (λz_=>rfl) hx hl1.1 hl1.2 rfl rfl λloc' S2 nw2 σ2 ag o2=>hQ S2 nw2 σ2 ((Op.trans h o o2).conv' λF tb v=>⟨.inr,λq=>q.elim (λq=>q.elim) id⟩))
theorem gQ(h:aY M L S nw J):¬Ad L S J.length:=λq=>bh _ (h.lt q)
theorem rD{s:V}(hs:s∈M.sites):tS s∈M.toks:=aj _ (aj _ (aj _ (aX.mpr ⟨s,hs,rfl⟩)))
theorem kA{t x:V}(ht:t∈M.toks)(hx:x∈[t]):x∈M.toks:=an.mp hx▸ht
theorem ma{r s:V}(h:aY M L S nw J)(hr:r∈regs)(hs:s∈M.sites)
  (hQ:∀S' nw' σ',Op M L [s] (Hn (GY .sites s) (dA r (·=tS s))) S nw J S' nw' σ'->Q .none σ'):aZ a0 (n+3) ("EscapeFlow","make") [.obj L.f,r,s] J Q:=by
 exact xe h.atS λss hss=>bq (d:=jf) rfl ae ae (aU h.fo rfl (bY h.fo rfl (eD h hss hs λS1 nw1 σ1 o1=>aU o1.fl.fo rfl (dz (o1.fl.ext (az (τ:=[Ob.list [tS s]]))) hr aF (gQ o1.fl) (λx hx=>kA (rD hs) hx) λS2 nw2 σ2 o2=>hQ S2 nw2 σ2 ((Op.trans h o1 (o2.pre az)).conv' λF tb v=>or_congr Iff.rfl (and_congr Iff.rfl List.mem_singleton.symm))))))
theorem Ld.mono{G:Facts}(h:∀tb v,F tb v->G tb v){t u:V}(l:Ld F t u):Ld G t u:=by
 rcases l with ⟨s,e,q | ⟨q1,q2⟩⟩ | ⟨q1,q | ⟨i,o,e,q,e2⟩⟩
 ·exact .inl ⟨s,e,.inl (h _ _ q)⟩
 ·exact .inl ⟨s,e,.inr ⟨h _ _ q1,q2⟩⟩
 ·exact .inr ⟨q1,.inl q⟩
 ·exact .inr ⟨q1,.inr ⟨i,o,e,h _ _ q,e2⟩⟩
theorem Rc.mono{F G:Facts}{T T':V->Prop}(h:∀tb v,F tb v->G tb v)(ht:∀v,T v->T' v){u:V}(r:Rc F T u):Rc G T' u :=
 let ⟨t,q1,q2⟩:=r;⟨t,ht t q1,q2.mono λz_ z_=>Ld.mono h⟩
noncomputable def fA(T:V->Prop):Facts->Facts:=λF tb v=>∃u,Rc F T u/\((tb=.gone/\u=tS v)\/(tb=.leaks/\u=tO v))
theorem fA.mono{F G:Facts}{T T':V->Prop}(h:∀tb v,F tb v->G tb v)(ht:∀v,T v->T' v){tb:Tb}{v:V}(l:fA T F tb v):fA T' G tb v :=
 let ⟨u,q1,q2⟩:=l;⟨u,q1.mono h ht,q2⟩
noncomputable abbrev He(x:V):Facts->Facts:=λz_ tb v=>(tb=.gone/\x=tS v)\/(tb=.leaks/\x=tO v)
theorem sR{x:V}{tb':Tb}(hb:tb'=.gone/\x=tS k\/tb'=.leaks/\x=tO k):He x F tb v↔GY tb' k F tb v:=by
 rcases hb with ⟨rfl,rfl⟩ | ⟨rfl,rfl⟩
 ·exact ⟨λq=>q.elim (λq=>⟨q.1,(yU q.2).symm⟩) λq=>absurd q.2.symm ju,λq=>.inl ⟨q.1,q.2▸rfl⟩⟩
 ·exact ⟨λq=>q.elim (λq=>absurd q.2 ju) λq=>⟨q.1,by cases q.2;rfl⟩,λq=>.inr ⟨q.1,q.2▸rfl⟩⟩
theorem AO{i:Int}(h:i=0\/i=1):V.int i∈M.vals .leaks:=by rcases h with rfl | rfl;exact ai;exact aj _ ai
theorem gH{l:Nat}(h:aY M L S nw J)(hl:J[l]?=some (.list ts))(hx:∀x∈ts,x∈M.toks)(hlen:ts.length<1000)
  (hQ:∀S' nw' σ',Op M L [] (fA (·∈ts)) S nw J S' nw' σ'->Q .none σ'):aZ a0 (n+3) ("EscapeFlow","leak") [.obj L.f,.obj l] J Q:=by
 refine bq (d:=je) rfl ae ae (aU h.fo rfl (iB h hl hx hlen λr σ1 us p hr hnew nd ok hu=>?_));have h1:=h.ext p;have hna:¬Ad L S r:=λq=>bh _ (ak (h.lt q) hnew);refine aw (ch hr) (kn (names:=["token"]) (nx:=λz_=>[]) (Rx:=He) us h1 (λS' nw' σ' ns R o=>o.stoodL (a8 hr) hna) (λx hxt loc' S' nw' σ' ns R ag o=>⟨_,rfl,λQQ hq=>?_⟩) λloc' S' nw' σ' ag o=>?_)
 ·have ag1:=ag.set (x:="token") (v:=x) ai;have hself:loc' "self"=some (.obj L.f):=ag.at (by decide) rfl;rcases gL (ok x hxt) with rfl | ⟨i,hi,rfl⟩ | ⟨s,hs',rfl⟩
  ·exact hq _ _ S' nw' σ' (.inl rfl) ag1 ((Op.refl o.fl).conv' λF tb v=>⟨λq=>q.elim (λq=>il q.2) λq=>o8 q.2,λq=>q.elim⟩)
  ·exact aw hself (aU o.fl.fo rfl (aw hself (bY o.fl.fo rfl (bY o.fl.so rfl (xe o.fl.atL λls hls=>eD o.fl hls (AO hi) λS2 nw2 σ2 o2=>hq _ _ S2 nw2 σ2 (.inl rfl) ag1 (o2.conv' λF tb v=>sR (.inr ⟨rfl,rfl⟩)))))))
  ·exact aw hself (aU o.fl.fo rfl (aw hself (bY o.fl.fo rfl (xe o.fl.atG λgs hgs=>eD o.fl hgs hs' λS2 nw2 σ2 o2=>hq _ _ S2 nw2 σ2 (.inl rfl) ag1 (o2.conv' λF tb v=>sR (.inl ⟨rfl,rfl⟩))))))
 ·rw [flatMap_nil] at o;exact hQ S' nw' σ' ((o.pre p).conv (λe tb v w=>bO w λu q1 q2=>⟨u,(hu u).mpr (e▸q1),q2⟩) λC hC tb v y=>bO y λu q1 q2=>⟨u,((hu u).mp q1).mono hC λz_=>id,q2⟩)
end
section
variable{M:cZ}{L:FL}{S S' S'':Tabs}{nw nw' nw'':Bool}{ms:List V}
noncomputable def lK:V->V
 | .tup [.str s,i]=>if s="outer" then i else .int (-1)
 | _=>.int (-1)
noncomputable abbrev kE(o x:V):Facts->Facts:=λF tb v=>((∃s,x=tS s)/\fA (·=x) F tb v)\/(tb=.kept/\v=.tup [lK x,o])
noncomputable def mf(o:V)(T:V->Prop):Facts->Facts:=λF tb v=>∃u,Rc F T u/\kE o u F tb v
theorem kE.mono{F G:Facts}{o x:V}(h:∀tb v,F tb v->G tb v){tb:Tb}{v:V}(l:kE o x F tb v):kE o x G tb v :=
 l.imp (λq=>⟨q.1,q.2.mono h λz_=>id⟩) id
theorem mf.mono{F G:Facts}{T T':V->Prop}{o:V}(h:∀tb v,F tb v->G tb v)(ht:∀v,T v->T' v){tb:Tb}{v:V}(l:mf o T F tb v):mf o T' G tb v :=
 let ⟨u,q1,q2⟩:=l;⟨u,q1.mono h ht,q2.mono h⟩
theorem uH{i:V}:lK (tO i)=i:=rfl
theorem uI{s:V}:lK (tS s)=.int (-1):=rfl
theorem oS{i:Int}(hi:i= -1\/i=0\/i=1)(ho:o=0\/o=1):V.tup [.int i,.int o]∈M.vals .kept:=by
 delta cZ.vals;rcases hi with rfl | rfl | rfl<;>rcases ho with rfl | rfl<;>simp only [List.mem_cons,true_or,or_true]
theorem JN{o x w:V}(hx:∀s,x≠tS s)(hw:lK x=w):kE o x F tb v↔GY .kept (.tup [w,o]) F tb v :=
 ⟨λq=>q.elim (λq=>let ⟨s,e⟩:=q.1;absurd e (hx s)) λq=>hw▸q,λq=>.inr (hw▸q)⟩
theorem uK{l:Nat}(h:aY M L S nw J)(ho:o=0\/o=1)(hl:J[l]?=some (.list ts))(hx:∀x∈ts,x∈M.toks)(hlen:ts.length<1000)
  (hQ:∀S' nw' σ',Op M L [] (mf (.int o) (·∈ts)) S nw J S' nw' σ'->Q .none σ'):aZ a0 (n+4) ("EscapeFlow","put_out") [.obj L.f,.int o,.obj l] J Q:=by
 refine bq (d:=gU) rfl ae ae (aU h.fo rfl (iB h hl hx hlen λr σ1 us p hr hnew nd ok hu=>?_));have h1:=h.ext p;have hna:¬Ad L S r:=λq=>bh _ (ak (h.lt q) hnew);refine aw (ch hr) (kn (names:=["token"]) (nx:=λz_=>[]) (Rx:=kE (.int o)) us h1 (λS' nw' σ' ns R o=>o.stoodL (a8 hr) hna) (λx hxt loc' S' nw' σ' ns R ag o'=>⟨_,rfl,λQQ hq=>?_⟩) λloc' S' nw' σ' ag o=>?_)
 ·have ag1:=ag.set (x:="token") (v:=x) ai;have hself:loc' "self"=some (.obj L.f):=ag.at (by decide) rfl;have hout:loc' "outer"=some (.int o):=ag.at (by decide) rfl;refine xe o'.fl.atK λks hks=>?_;rcases gL (ok x hxt) with rfl | ⟨i,hi,rfl⟩ | ⟨s,hs',rfl⟩
  ·exact aw hself (aU o'.fl.fo rfl (aw hself (bY o'.fl.fo rfl (bY o'.fl.so rfl (aw hout (eD o'.fl hks (oS (.inl rfl) ho) λS2 nw2 σ2 o2=>hq _ _ S2 nw2 σ2 (.inl rfl) ag1 (o2.conv' λF tb v=>JN (λs=>il) rfl)))))))
  ·exact aw hself (aU o'.fl.fo rfl (aw hself (bY o'.fl.fo rfl (bY o'.fl.so rfl (aw hout (eD o'.fl hks (oS (.inr hi) ho) λS2 nw2 σ2 o2=>hq _ _ S2 nw2 σ2 (.inl rfl) ag1 (o2.conv' λF tb v=>JN (λs=>ju) uH)))))))
  ·refine aw hself (aU o'.fl.fo rfl (gH (o'.fl.ext az) aF (λy hy=>kA (ok _ hxt) hy) ae λS2 nw2 σ2 o2=>xe o2.fl.atK λks2 hks2=>aw hself (aU o2.fl.fo rfl (aw hself (bY o2.fl.fo rfl (bY o2.fl.so rfl (aw hout (eD o2.fl hks2 (oS (.inl rfl) ho) λS3 nw3 σ3 o3=>hq _ _ S3 nw3 σ3 (.inl rfl) ag1 ((Op.trans o'.fl (o2.pre az) o3).conv' λF tb v=>?_)))))))));delta kE;rw [uI];refine or_congr ⟨λq=>?_,λq=>⟨⟨s,rfl⟩,?_⟩⟩ Iff.rfl
   ·exact q.2.mono (λz_ z_=>id) λv e=>List.mem_singleton.mpr e
   ·exact q.mono (λz_ z_=>id) λv e=>an.mp e
 ·rw [flatMap_nil] at o;exact hQ S' nw' σ' ((o.pre p).conv (λe tb v w=>bO w λu q1 q2=>⟨u,(hu u).mpr (e▸q1),q2⟩) λC hC tb v z=>bO z λu q1 q2=>⟨u,((hu u).mp q1).mono hC λz_=>id,q2⟩)
noncomputable abbrev DQ(T:V->Prop)(g:V):Facts->Facts:=λF tb v=>(g=tB/\fA T F tb v)\/(∃o,g=tO o/\mf o T F tb v)\/(∃s,g=tS s/\((tb=.inside s/\T v)\/(F .gone s/\fA T F tb v)))
noncomputable def eW(G T:V->Prop):Facts->Facts:=λF tb v=>∃g,G g/\DQ T g F tb v
theorem DQ.mono{F F':Facts}{T T':V->Prop}{g:V}(h:∀tb v,F tb v->F' tb v)(ht:∀v,T v->T' v){tb:Tb}{v:V}(l:DQ T g F tb v):DQ T' g F' tb v:=by
 rcases l with ⟨q1,q2⟩ | ⟨o,q1,q2⟩ | ⟨s,q1,⟨q2,q3⟩ | ⟨q2,q3⟩⟩
 ·exact .inl ⟨q1,q2.mono h ht⟩
 ·exact .inr (.inl ⟨o,q1,q2.mono h ht⟩)
 ·exact .inr (.inr ⟨s,q1,.inl ⟨q2,ht _ q3⟩⟩)
 ·exact .inr (.inr ⟨s,q1,.inr ⟨h _ _ q2,q3.mono h ht⟩⟩)
theorem eW.mono{F F':Facts}{G G' T T':V->Prop}(h:∀tb v,F tb v->F' tb v)(hg:∀v,G v->G' v)(ht:∀v,T v->T' v){tb:Tb}{v:V}(l:eW G T F tb v):eW G' T' F' tb v :=
 let ⟨g,q1,q2⟩:=l;⟨g,hg g q1,q2.mono h ht⟩
theorem yT:tB∈M.toks:=ai
theorem HV{b:Bool}{Q:Bool->Prop}(ha:a∈M.toks)(hb:V.deq a tB=b)(q:Q b):dn (jL .eq J a tB) Q :=
 CK (V.dat_of_key (M.tok_key ha).1) rfl (bT (M.tok_key ha).2) (hb▸q)
theorem i7{l g:Nat}{gs:List V}(h:aY M L S nw J)(hg:J[g]?=some (.list gs))(hgna:¬Ad L S g)(hgx:∀x∈gs,x∈M.toks)(hl:J[l]?=some (.list ts))(hna:¬Ad L S l)(hx:∀x∈ts,x∈M.toks)(hlen:ts.length<1000)
  (hQ:∀S' nw' σ',Op M L [] (eW (·∈gs) (·∈ts)) S nw J S' nw' σ'->Q .none σ'):aZ a0 (n+5) ("EscapeFlow","put") [.obj L.f,.obj g,.obj l] J Q:=by
 refine bq (d:=jD) rfl ae ae (aw (ch hg) (kn (names:=["target","held","token"]) (nx:=λz_=>[]) (Rx:=DQ (·∈ts)) gs h (λS' nw' σ' ns R o=>o.stoodL (a8 hg) hgna) (λx hxt loc' S' nw' σ' ns R ag o'=>⟨_,rfl,λQQ hq=>?_⟩) λloc' S' nw' σ' ag o=>?_))
 ·have ag1:=ag.set (x:="target") (v:=x) ai;have hself:loc' "self"=some (.obj L.f):=ag.at (by decide) rfl;have htok:loc' "tokens"=some (.obj l):=ag.at (by decide) rfl;have hl':=o'.keep hl hna;rcases gL (hgx x hxt) with rfl | ⟨i,hi,rfl⟩ | ⟨s,hs',rfl⟩
  ·exact aw hself (aU o'.fl.fo rfl (aw htok (gH o'.fl hl'.1 hx hlen λS2 nw2 σ2 o2=>hq _ _ S2 nw2 σ2 (.inl rfl) ag1 (o2.conv' λF tb v=>⟨λq=>q.elim And.right λq=>q.elim (λw=>bO w λz_ e z_=>absurd e o8) λz=>bO z λz_ e z_=>absurd e il,λq=>.inl ⟨rfl,q⟩⟩))))
  ·refine aw hself (aU o'.fl.fo rfl (aw htok ?_));exact uK o'.fl hi hl'.1 hx hlen λS2 nw2 σ2 o2=>hq _ _ S2 nw2 σ2 (.inl rfl) ag1 (o2.conv' λF tb v=>⟨λq=>q.elim (λq=>absurd q.1.symm o8) λq=>q.elim (λu=>bO u λz_ e q=>by cases e;exact q) λt=>bO t λz_ e z_=>absurd e ju,λq=>.inr (.inl ⟨_,rfl,q⟩)⟩)
  ·have hk:=M.key s hs';have k6:s.dep<=6:=am hk.2 (by decide);refine HV (hgx _ hxt) (V.deq_ne λe=>il e.symm) (aw hself (bY o'.fl.fo rfl ⟨oZ o'.fl .i,⟨λp hp=>eT hp,ae,lN o'.fl .i (r:=s) hk.1 k6 (AB hs') λa us S1 σ1 hm o=>?_⟩⟩));have hl1:=o.keep hl'.1 hl'.2;refine aw htok (aw (ch hl1.1) (sW o.fl hm (λz_=>rfl) hx hl1.1 hl1.2 hself rfl λloc2 S2 nw2 σ2 ag2 o2=>?_));have hself2:loc2 "self"=some (.obj L.f):=ag2.at (by decide) hself;have agf:=(ag1.set (x:="held") (v:=.obj a) (by decide)).trans λy hy=>ag2 y λq=>hy (by rw [an.mp q];decide);refine xe o2.fl.atG λgs' hgs'=>xe (o2.fl.tbl hgs') λge hge=>?_;have o12:=Op.trans o'.fl o o2;have fin:∀{S3 nw3 σ3},Op M L [] (λF tb v=>F .gone s/\fA (·∈ts) F tb v) S2 nw2 σ2 S3 nw3 σ3->QQ .next loc2 σ3:=λ{S3 nw3 σ3} o3 =>
    hq _ _ S3 nw3 σ3 (.inl rfl) agf ((Op.trans o'.fl o12 o3).conv' λF tb v =>
     ⟨λq=>q.elim (λq=>absurd q.1.symm il) λq=>q.elim (λm=>bO m λz_ e z_=>absurd e.symm ju) λk=>bO k λs' e q=>by cases e;exact q.imp .inr id,
      λq=>.inr (.inr ⟨s,rfl,q.imp (λq=>q.elim (λq=>q.elim) id) id⟩)⟩)
   refine aw (ag2.at (by decide) rfl) (aw hself2 (bY o2.fl.fo rfl (iw (nI hge hk.1 k6) ?_)));by_cases hgone:s∈gs'
   ·rw [bp hgone];have hl2:=o2.keep hl1.1 hl1.2;exact aw hself2 (aU o2.fl.fo rfl (aw (ag2.at (by decide) htok) (gH o2.fl hl2.1 hx hlen λS3 nw3 σ3 o3=>fin (o3.conv (λe tb v q=>q.2) λC hC tb v q=>⟨hC _ _ ((o2.fl.fact_iff hgs').mpr hgone),q⟩))))
   ·rw [decide_eq_false hgone];exact fin (.ext o2.fl (aD _) λtb v q=>absurd ((o2.fl.fact_iff hgs').mp q.1) hgone)
 ·rw [flatMap_nil] at o;exact hQ S' nw' σ' o
noncomputable def mF(F:Facts)(ops:List V)(t:V):Prop:=∃op∈ops,cg F op t
theorem Cm{f:Nat}(h:aY M L S nw J)(hf0:J.length<=f){rest:List V}:∀{us:List V} {loc:Loc} {σa:Hp} {QQ:Fl->Loc->Hp->Prop},(∀op∈rest,iq op)->us.length+23*rest.length<=500->loc "self"=some (.obj L.f)->loc "found"=some (.obj f)->J <+:σa->σa[f]?=some (.list us)->(∀u∈us,u∈M.toks)->
   (∀loc' σ' us',b6 ["operand"] loc loc'->J <+:σ'->σ'[f]?=some (.list us')->us'.length<=us.length+23*rest.length->(∀u∈us',u∈M.toks)->(∀u,u∈us'↔u∈us\/mF S.fact rest u)->QQ .next loc' σ')->
   gh (b8 [] σb) (.name "operand") (ez (aZ a0 (n+2)) eh) rest loc σa QQ:=by
 induction rest with
 | nil =>
  intro us loc σa QQ _ _ hs hf p hr ok hq;exact ⟨λz_ q=>(aq q).elim,hq loc σa us .refl p hr (ay _) ok λu=>⟨.inl,λq=>q.elim id λw=>bO w λz_ q z_=>(aq q).elim⟩⟩
 | cons op rest ih =>
  intro us loc σa QQ ho hlen hs hf p hr ok hq;refine ⟨λz_ q=>(aq q).elim,?_⟩;have h1:=h.ext p;refine aw hf ⟨A7 hr rfl,aw hs (aU h1.fo rfl (bI h1 (ho op ai) λr σ2 ws p2 hr2 hnew nd okw hu=>?_))⟩;have hw:ws.length<=23:=am (cV nd okw) oh;rw [List.length_cons] at hlen hq;refine fT (bR p2 hr) (fD hr2) (by unfold big;omega) ?_;refine ih (λo q=>ho o (aj _ q)) (us:=us++ws) (by rw [aH];omega) hs hf (kD (p.trans p2) hf0) (bG (bR p2 hr)) (λu q=>(bt.mp q).elim (ok u) (okw u)) λloc' σ' us' ag' p' hr' hl' ok' hu'=>?_;refine hq loc' σ' us' ((b6.refl.set ai).trans ag') p' hr' (by rw [aH] at hl';omega) ok' λu=>?_;rw [hu',List.mem_append,hu,or_assoc];exact or_congr Iff.rfl ⟨λq=>q.elim (λq=>⟨op,ai,q⟩) λx=>bO x λo q1 q2=>⟨o,aj _ q1,q2⟩,λy=>bO y λo q1 q2=>(aO.mp q1).elim (λe=>.inl (e▸q2)) λq1=>.inr ⟨o,q1,q2⟩⟩
theorem i9{ops:List V}(h:aY M L S nw J)(ho:∀op∈ops,iq op)(hn:ops.length<=20)
  (hQ:∀r σ' us,J <+:σ'->σ'[r]?=some (.list us)->J.length<=r->us.length<=23*ops.length->(∀u∈us,u∈M.toks)->(∀u,u∈us↔mF S.fact ops u)->Q (.obj r) σ') :
  aZ a0 (n+3) ("EscapeFlow","tokens_of_all") [.obj L.f,.tup ops] J Q:=by
 refine bq (d:=eR) rfl ae ae ?_;refine Cm (rest:=ops) h (ay _) ho (us:=[]) (by rw [List.length_nil];omega) rfl rfl az aF (λu hu=>(aq hu).elim) λloc' σ' us' ag p hr hl ok hu=>aw (ag.at (by decide) rfl) ?_;exact hQ _ _ us' p hr (ay _) (by rw [List.length_nil] at hl;omega) ok λu=>by rw [hu];exact ⟨λq=>q.elim (λq=>(aq q).elim) id,.inr⟩
end
section
variable{M:cZ}{L:FL}{S S' S'' T:Tabs}{nw nw' nw'':Bool}{ms:List V}
noncomputable def gr:Tb->List V
 | .told _=>[.int (-1),.int 0,.int 1]
 | .leaks=>[.int 0,.int 1]
 | .kept=>[.tup [.int (-1),.int 0],.tup [.int (-1),.int 1],.tup [.int 0,.int 0],.tup [.int 0,.int 1],.tup [.int 1,.int 0],.tup [.int 1,.int 1]]
 | _=>[]
structure iJ(B:Nat)(J:Hp)(a:Nat)(T:Tabs):Prop where
 so:∃lk kp td,J[a]?=some (.inst "Summary" [("leaks",.obj lk),("kept",.obj kp),("told",.obj td)])/\a<B/\td<B/\(∃e,J[td]?=some (.dict (T.idx Tb.t?) e))/\(∃ts,(Tb.leaks,lk,ts)∈T)/\(∃ts,(Tb.kept,kp,ts)∈T)
 tb:∀p∈T,p.2.1<B/\∃e,J[p.2.1]?=some (.dict (fX p.2.2) e)
 keys:(T.map (·.1)).Nodup
 nd:∀p∈T,p.2.2.Nodup
 ok:∀p∈T,∀v∈p.2.2,v∈gr p.1
noncomputable def xk(B:Nat)(L:FL)(S:Tabs):Prop:=∀n,Ad L S n->B<=n
theorem Op.low(o:Op M L ns R S nw J S' nw' σ')(h:xk B L S)(hB:B<=J.length):xk B L S':=λn hn=>(o.ad n hn).elim (h n) λq=>am hB q
theorem Op.below(o:Op M L ns R S nw J S' nw' σ')(h:xk B L S)(hB:B<=J.length):∀n,n<B->σ'[n]?=J[n]?:=λn hn=>o.fr n (ak hn hB) λq=>absurd (h n q) (Nat.not_le.mpr hn)
theorem iJ.same{a:Nat}(s:iJ B J a T)(h:∀n,n<B->σ'[n]?=J[n]?):iJ B σ' a T:=by
 refine j6 s.so λlk kp td h1 h2 h3 q h5 h6=>xe q λe h4=>?_;exact ⟨⟨lk,kp,td,(h _ h2).trans h1,h2,h3,⟨e,(h _ h3).trans h4⟩,h5,h6⟩,λp hp=>let ⟨q1,e,q2⟩:=s.tb p hp;⟨q1,e,(h _ q1).trans q2⟩,s.keys,s.nd,s.ok⟩
theorem iJ.ext{a:Nat}(s:iJ B J a T)(h:J <+:σ'):iJ B σ' a T:=by
 refine j6 s.so λlk kp td h1 h2 h3 q h5 h6=>xe q λe h4=>?_;exact ⟨⟨lk,kp,td,bR h h1,h2,h3,⟨e,bR h h4⟩,h5,h6⟩,λp hp=>let ⟨q1,e,q2⟩:=s.tb p hp;⟨q1,e,bR h q2⟩,s.keys,s.nd,s.ok⟩
noncomputable def za(F:Facts)(a b i u:V):Prop:=(i=.int 0/\Rc F (cg F a) u)\/(i=.int 1/\Rc F (cg F b) u)\/(i=.int (-1)/\u=tB)
theorem cg.mono{G:Facts}(h:∀tb v,F tb v->G tb v){op t:V}(q:cg F op t):cg G op t:=q.imp (λ⟨r,e,q⟩=>⟨r,e,h _ _ q⟩) id
theorem za.mono{F G:Facts}(h:∀tb v,F tb v->G tb v){a b i u:V}(q:za F a b i u):za G a b i u :=
 q.imp (λq=>⟨q.1,q.2.mono h λz_=>cg.mono h⟩) λq=>q.imp (λq=>⟨q.1,q.2.mono h λz_=>cg.mono h⟩) id
noncomputable def gf(G:Facts)(a b d1 d2:V):Facts->Facts:=λF tb v =>
 (∃o,G .leaks o/\fA (za F a b o) F tb v)\/(∃i o,G .kept (.tup [i,o])/\eW (za F a b o) (za F a b i) F tb v)\/
 (∃x,G (.told (.int 0)) x/\dA d1 (za F a b x) F tb v)\/(∃x,G (.told (.int 1)) x/\dA d2 (za F a b x) F tb v)
theorem zd(ha:iq a)(hb:iq b):∀op∈[a,b],iq op:=λop h=>by
 simp only [List.mem_cons,aq,or_false] at h;rcases h with rfl | rfl<;>assumption
theorem Ap{l:Nat}(h:J[l]?=some (.list ts)):eA .enum [.obj l] J=some (ts.zipIdx.map λp=>.tup [.int p.2,p.1],[l]):=cF h
theorem Ev(ht:tb=.leaks\/tb=.kept):(gr tb).length<=6:=by rcases ht with rfl | rfl<;>exact ae
theorem AE:(gr .leaks).all Js=true:=rfl
theorem AD:(gr .kept).all xM=true:=rfl
theorem xm{p:V->Bool}{m:List V}(h:∀v∈l,v∈m)(hm:m.all p=true):l.all p=true:=List.all_eq_true.mpr λv hv=>List.all_eq_true.mp hm v (h v hv)
theorem mw(h:∀v∈ts,v∈gr tb)(hn:ts.Nodup)(ht:tb=.leaks\/tb=.kept):cO ts=true:=by
 have hl:ts.length<64:=ax (am (cV hn h) (Ev ht)) (by decide);delta cO;rw [bp hl];rcases ht with rfl | rfl
 ·rw [xm h AE];rfl
 ·rw [xm h AD,Bool.or_true];rfl
theorem Dq{l e:Nat}(h:J[l]?=some (.dict (fX ts) e)):wj J (.obj l)=some ts:=by rw [uj h,iW]
theorem C9{X:Type}{f g:Hp->X->Prop}{Q:X}{b:Bool}(h:b=true)(q:f J Q):FI f g Q b J:=by rw [h];exact q
noncomputable def Hl(ua ub:List V)(i u:V):Prop:=(i=.int 0/\u∈ua)\/(i=.int 1/\u∈ub)\/(i=.int (-1)/\u=tB)
structure zb(M:cZ)(L:FL)(S:Tabs)(J:Hp)(hA r2 r4:Nat)(ua ub:List V):Prop where
 h:J[hA]?=some (.list [.obj r2,.obj r4])
 a:J[r2]?=some (.list ua)
 b:J[r4]?=some (.list ub)
 nh:¬Ad L S hA
 na:¬Ad L S r2
 nb:¬Ad L S r4
 oa:∀u∈ua,u∈M.toks
 ob:∀u∈ub,u∈M.toks
 la:ua.length<1000
 lb:ub.length<1000
theorem zb.step{hA r2 r4:Nat}{ua ub:List V}(x:zb M L S J hA r2 r4 ua ub)(o:Op M L ns R S nw J S' nw' σ'):zb M L S' σ' hA r2 r4 ua ub :=
 ⟨(o.keep x.h x.nh).1,(o.keep x.a x.na).1,(o.keep x.b x.nb).1,(o.keep x.h x.nh).2,(o.keep x.a x.na).2,(o.keep x.b x.nb).2,x.oa,x.ob,x.la,x.lb⟩
theorem zb.ext{hA r2 r4:Nat}{ua ub:List V}(x:zb M L S J hA r2 r4 ua ub)(p:J <+:σ'):zb M L S σ' hA r2 r4 ua ub :=
 ⟨bR p x.h,bR p x.a,bR p x.b,x.nh,x.na,x.nb,x.oa,x.ob,x.la,x.lb⟩
theorem KT{ua ub:List V}:(λu=>u∈ua)=Hl ua ub (.int 0):=funext λu=>propext ⟨λq=>.inl ⟨rfl,q⟩,λq=>q.elim And.right λq=>q.elim (λq=>by cases q.1) λq=>by cases q.1⟩
theorem KU{ua ub:List V}:(λu=>u∈ub)=Hl ua ub (.int 1):=funext λu=>propext ⟨λq=>.inr (.inl ⟨rfl,q⟩),λq=>q.elim (λq=>by cases q.1) λq=>q.elim And.right λq=>by cases q.1⟩
theorem KH{ua ub:List V}:(λu=>u∈[tB])=Hl ua ub (.int (-1)):=funext λu=>propext ⟨λq=>.inr (.inr ⟨rfl,an.mp q⟩),λq=>q.elim (λq=>by cases q.1) λq=>q.elim (λq=>by cases q.1) λq=>List.mem_singleton.mpr q.2⟩
theorem zb.at{hA r2 r4:Nat}{ua ub:List V}(x:zb M L S J hA r2 r4 ua ub){i:Int}(hi:i=0\/i=1){G:Prop}(k:∀r us,zE [V.obj r2,V.obj r4] i=some (.obj r)->J[r]?=some (.list us)->¬Ad L S r->(∀u∈us,u∈M.toks)->us.length<1000->(λu=>u∈us)=Hl ua ub (.int i)->G):G:=by
 rcases hi with rfl | rfl
 ·exact k r2 ua rfl x.a x.na x.oa x.la KT
 ·exact k r4 ub rfl x.b x.nb x.ob x.lb KU
theorem yX{i:Int}(hi:i=0\/i=1):i<2:=by rcases hi with rfl | rfl<;>decide
theorem xY{l hA r2 r4:Nat}{ua ub ls:List V}(h:aY M L S nw J)(H:zb M L S J hA r2 r4 ua ub)(hl:J[l]?=some (.list ls))(hna:¬Ad L S l)(hok:∀v∈ls,v∈gr .leaks)(hs:loc "self"=some (.obj L.f))(hh:loc "handed"=some (.obj hA))
  (hQ:∀loc' S' nw' σ',b6 ["outer"] loc loc'->Op M L [] (λF tb v=>∃o∈ls,fA (Hl ua ub o) F tb v) S nw J S' nw' σ'->QQ .next loc' σ'):gh (b8 [l] J) (.name "outer") (ez (aZ a0 (n+3)) fY) ls loc J QQ:=by
 refine kn (names:=["outer"]) (nx:=λz_=>[]) (Rx:=λo=>fA (Hl ua ub o)) ls h (λS' nw' σ' ns R o=>o.stoodL (a8 hl) hna) (λx hxt loc' S' nw' σ' ns R ag o=>⟨_,rfl,λQQ hq=>?_⟩) λloc' S' nw' σ' ag o=>?_
 ·have H':=H.step o;obtain ⟨i,hi,rfl⟩:∃i:Int,(i=0\/i=1)/\x=.int i:=by
   refine Or.elim (aO.mp (hok x hxt)) (λe=>?_) (λe=>?_)
   ·exact ⟨0,.inl rfl,e⟩
   ·exact ⟨1,.inr rfl,an.mp e⟩
  refine H'.at hi λr us h1 h2 h3 h4 h5 h6=>?_;have ahh:=ag.at (by decide) hh;have ahs:=ag.at (by decide) hs;refine aw ahh (ku (iX H'.h) ae ?_)
  (conv=>whnf)
  refine C9 (bp (yX hi)) ?_
  (conv=>whnf)
  refine aw ahs (aU o.fl.fo rfl (aw ahh (bD H'.h ae h1 ?_)))
  (conv=>whnf)
  exact gH o.fl h2 h4 h5 λS2 nw2 σ2 o2=>hq _ _ S2 nw2 σ2 (.inl rfl) (ag.set ai) (h6▸o2)
 ·rw [flatMap_nil] at o;exact hQ loc' S' nw' σ' ag o
theorem xU{l hA r2 r4:Nat}{ua ub ls:List V}(h:aY M L S nw J)(H:zb M L S J hA r2 r4 ua ub)(hl:J[l]?=some (.list ls))(hna:¬Ad L S l)(hok:∀v∈ls,v∈gr .kept)(hs:loc "self"=some (.obj L.f))(hh:loc "handed"=some (.obj hA))
  (hQ:∀loc' S' nw' σ',b6 ["inner","outer"] loc loc'->Op M L [] (λF tb v=>∃i o,V.tup [i,o]∈ls/\eW (Hl ua ub o) (Hl ua ub i) F tb v) S nw J S' nw' σ'->QQ .next loc' σ'):gh (b8 [l] J) (.pair "inner" "outer") (ez (aZ a0 (n+5)) fZ) ls loc J QQ:=by
 refine kn (names:=["inner","outer"]) (nx:=λz_=>[]) (Rx:=λx F tb v=>∃i o,x=V.tup [i,o]/\eW (Hl ua ub o) (Hl ua ub i) F tb v) ls h (λS' nw' σ' ns R o=>o.stoodL (a8 hl) hna) (λx hxt loc' S' nw' σ' ns R ag o=>?_) λloc' S' nw' σ' ag o=>?_
 ·refine cU (v2 (M:=M) (hok x hxt)) λi o' w hi ho=>?_;subst w;refine ⟨_,rfl,λQQ hq=>?_⟩;have ag1:b6 ["inner","outer"] loc (setL (setL loc' "inner" (.int i)) "outer" (.int o')):=(ag.set ai).set (aj _ ai);have H':=H.step o;have ahh:=ag.at (by decide) hh;have ahs:=ag.at (by decide) hs;have fin:∀{S2 nw2 σ2},Op M L [] (eW (Hl ua ub (.int o')) (Hl ua ub (.int i))) S' nw' σ' S2 nw2 σ2->QQ .next (setL (setL loc' "inner" (.int i)) "outer" (.int o')) σ2:=λ{S2 nw2 σ2} o2 =>
   hq _ _ S2 nw2 σ2 (.inl rfl) ag1 (o2.conv' λF tb v=>⟨λz=>dE z λi o e q=>by cases e;exact q,λq=>⟨_,_,rfl,q⟩⟩)
  refine H'.at ho λr us h1 h2 h3 h4 h5 h6=>aw ahh (ku (iX H'.h) ae ?_)
  (conv=>whnf)
  refine C9 (bp (yX ho)) ?_
  (conv=>whnf)
  refine aw ahs (aU o.fl.fo rfl (aw ahh (bD H'.h ae h1 ?_)))
  (conv=>whnf)
  rcases hi with rfl | hi
  ·(conv=>whnf)
   exact i7 (o.fl.ext az) (aS h2) h3 h4 aF (gQ o.fl) (λy hy=>kA yT hy) ae λS2 nw2 σ2 o2=>fin (h6▸KH▸o2.pre az)
  ·refine H'.at hi λr' us' g1 g2 g3 g4 g5 g6=>?_;have e1:(0:Int)<=i:=by rcases hi with rfl | rfl<;>decide
   rw [bp e1];(conv=>whnf)
   refine aw ahh (ku (iX H'.h) ae ?_)
   (conv=>whnf)
   refine C9 (bp (yX hi)) ?_
   (conv=>whnf)
   refine aw ahh (bD H'.h ae g1 ?_)
   (conv=>whnf)
   exact i7 o.fl h2 h3 h4 g2 g3 g4 g5 λS2 nw2 σ2 o2=>fin (h6▸g6▸o2)
 ·rw [flatMap_nil] at o;exact hQ loc' S' nw' σ' ag (o.conv' λF tb v=>⟨λu=>dE u λi o q1 q2=>⟨_,q1,i,o,rfl,q2⟩,λt=>bO t λz_ q1 s=>dE s λi o e q2=>⟨i,o,e▸q1,q2⟩⟩)
theorem tp{l hA r2 r4:Nat}{e:Nat}{d:V}{ua ub ls:List V}(h:aY M L S nw J)(H:zb M L S J hA r2 r4 ua ub)(hd:d∈regs)(hl:J[l]?=some (.dict (fX ls) e))(hna:¬Ad L S l)(hok:∀v∈ls,v∈gr (.told .none))(hs:loc "self"=some (.obj L.f))(hh:loc "handed"=some (.obj hA))(hr:loc "register"=some d)
  (hQ:∀loc' S' nw' σ',b6 ["told"] loc loc'->Op M L [] (λF tb v=>∃x∈ls,dA d (Hl ua ub x) F tb v) S nw J S' nw' σ'->QQ .next loc' σ'):gh (b8 [l] J) (.name "told") (ez (aZ a0 (n+2)) f5) ls loc J QQ:=by
 refine kn (names:=["told"]) (nx:=λz_=>[]) (Rx:=λx=>dA d (Hl ua ub x)) ls h (λS' nw' σ' ns R o=>o.stoodL (a8 hl) hna) (λx hxt loc' S' nw' σ' ns R ag o=>⟨_,rfl,λQQ hq=>?_⟩) λloc' S' nw' σ' ag o=>?_
 ·have ag1:=ag.set (x:="told") (v:=x) ai;have H':=H.step o;have ahs:=ag.at (by decide) hs;have ahr:=ag.at (by decide) hr;obtain ⟨i,hi,rfl⟩:∃i:Int,(i= -1\/i=0\/i=1)/\x=.int i:=by
   have:=hok x hxt;unfold gr at this;refine Or.elim (aO.mp this) (λe=>?_) (λe=>?_)
   ·exact ⟨_,.inl rfl,e⟩
   refine Or.elim (aO.mp e) (λe=>?_) (λe=>?_)
   ·exact ⟨_,.inr (.inl rfl),e⟩
   ·exact ⟨_,.inr (.inr rfl),an.mp e⟩
  refine aw ahs (aU o.fl.fo rfl (aw ahr ?_))
  (conv=>whnf)
  rcases hi with rfl | hi
  ·(conv=>whnf)
   exact dz (o.fl.ext az) hd aF (gQ o.fl) (λy hy=>kA yT hy) λS2 nw2 σ2 o2=>hq _ _ S2 nw2 σ2 (.inl rfl) ag1 (KH▸o2.pre az)
  ·refine H'.at hi λr us h1 h2 h3 h4 h5 h6=>?_;have hne:V.int i≠.int (-1):=λe=>by rcases hi with rfl | rfl<;>cases e
   rw [V.deq_ne hne];(conv=>whnf)
   refine aw (ag.at (by decide) hh) (bD H'.h ae h1 ?_)
   (conv=>whnf)
   exact dz o.fl hd h2 h3 h4 λS2 nw2 σ2 o2=>hq _ _ S2 nw2 σ2 (.inl rfl) ag1 (h6▸o2)
 ·rw [flatMap_nil] at o;exact hQ loc' S' nw' σ' ag o
theorem Bz{s rg hA r2 r4:Nat}{d1 d2:V}{ua ub:List V}(h:aY M L S nw J)(H:zb M L S J hA r2 r4 ua ub)(hd1:d1∈regs)(hd2:d2∈regs)(sm:iJ B J s T)(low:xk B L S)(hB:B<=J.length)(hrg:J[rg]?=some (.list [d1,d2]))(hrna:¬Ad L S rg)
  (hs:loc "self"=some (.obj L.f)) (hh:loc "handed"=some (.obj hA)) (hsm:loc "summary"=some (.obj s))
  (hQ:∀loc' S' nw' σ',Op M L [] (λF tb v=>(∃x,T.fact (.told (.int 0)) x/\dA d1 (Hl ua ub x) F tb v)\/(∃x,T.fact (.told (.int 1)) x/\dA d2 (Hl ua ub x) F tb v)) S nw J S' nw' σ'->QQ .next loc' σ') :
  gh (b8 [rg] J) (.pair "at" "register") (ez (aZ a0 (n+2)) f0) [V.tup [.int 0,d1],V.tup [.int 1,d2]] loc J QQ:=by
 refine kn (names:=["at","register","told"]) (nx:=λz_=>[]) (Rx:=λx F tb v=>∃i d,x=V.tup [i,d]/\∃y,T.fact (.told i) y/\dA d (Hl ua ub y) F tb v) _ h (λS' nw' σ' ns R o=>o.stoodL (a8 hrg) hrna) (λx hxt loc' S' nw' σ' ns R ag o=>?_) λloc' S' nw' σ' ag o=>?_
 ·obtain ⟨i,d,hd,rfl⟩:∃(i:Int) (d:V),d∈regs/\x=V.tup [.int i,d]:=by
   refine Or.elim (aO.mp hxt) (λe=>?_) (λe=>?_)
   ·exact ⟨0,d1,hd1,e⟩
   ·exact ⟨1,d2,hd2,an.mp e⟩
  refine ⟨_,rfl,λQQ hq=>?_⟩;have ag':b6 ["at","register","told"] loc (setL (setL loc' "at" (.int i)) "register" d):=(ag.set ai).set (aj _ ai);have sm9:=sm.same (o.below low hB);refine fE sm9.so λlk kp td s1 s2 s3 w z_=>xe w λte s4=>?_;have H9:=(H.step o).ext (az (τ:=[gc [] [] 0]));have h9:aY M L S' nw' (σ'++[gc [] [] 0]):=o.fl.ext az;have ahs:=ag.at (by decide) hs;have ahh:=ag.at (by decide) hh;refine aw (ag.at (by decide) hsm) (bY s1 rfl ⟨Hh s4 rfl,?_⟩)
  (conv=>whnf)
  refine ⟨λp hp=>eT hp,ae,?_⟩
  (conv=>whnf)
  refine pM (aS s4) rfl (aC _) ?_;have fin:∀{ls:List V} {loc3:Loc} {S3:Tabs} {nw3:Bool} {σ3:Hp},(∀y,T.fact (.told (.int i)) y↔y∈ls)->b6 ["told"] (setL (setL loc' "at" (.int i)) "register" d) loc3->Op M L [] (λF tb v=>∃x∈ls,dA d (Hl ua ub x) F tb v) S' nw' (σ'++[gc [] [] 0]) S3 nw3 σ3->QQ .next loc3 σ3:=λ{ls loc3 S3 nw3 σ3} hl ag3 o3 =>
   hq _ _ S3 nw3 σ3 (.inl rfl) (ag'.trans λy hy=>ag3 y λq=>hy (by rw [an.mp q];decide)) ((o3.pre az).conv' λF tb v=>⟨λz=>y8 z λi' d' e y q1 q2=>by cases e;exact ⟨y,(hl y).mp q1,q2⟩,λu=>bO u λy q1 q2=>⟨_,_,rfl,y,(hl y).mpr q1,q2⟩⟩)
  refine Or.elim (nF (S:=T) Tb.t? .told Tb.t_some (λz_=>rfl) (.int i)) (λt=>dE t λbb ts hm hget=>?_) (λr=>xa r λhno hget=>?_)
  ·rw [hget];(conv=>whnf)
   have tb:=sm9.tb _ hm;refine y6 tb λbB be hbe=>aw (fj (aS hbe)) ?_;rw [iW];exact tp h9 H9 hd (aS hbe) (λq=>absurd (o.low low hB _ q) (Nat.not_le.mpr bB)) (λv hv=>sm.ok _ hm v hv) ahs ahh rfl λloc3 S3 nw3 σ10 ag3 o3=>fin (λy=>sK sm.keys hm) ag3 o3
  ·rw [hget];(conv=>whnf)
   have nw:(σ'++[gc [] [] 0])[σ'.length]?=some (.dict (fX []) 0):=aF;exact aw (fj nw) (tp (ls:=[]) h9 H9 hd nw (gQ o.fl) (λv hv=>(aq hv).elim) ahs ahh rfl λloc3 S3 nw3 σ10 ag3 o3=>fin (λy=>⟨λm=>dE m λz_ z_ q z_=>absurd q (hno _ _),λq=>(aq q).elim⟩) ag3 o3)
 ·rw [flatMap_nil] at o;refine hQ loc' S' nw' σ' (o.conv' λF tb v=>⟨λq=>q.elim (λk=>bO k λx q1 q2=>⟨_,ai,_,_,rfl,x,q1,q2⟩) λj=>bO j λx q1 q2=>⟨_,aj _ ai,_,_,rfl,x,q1,q2⟩,λg=>bO g λx hx c=>y8 c λi d e y q1 q2=>?_⟩);refine Or.elim (aO.mp hx) (λe2=>?_) (λe2=>?_)
  ·cases e2;cases e;exact .inl ⟨y,q1,q2⟩
  ·cases an.mp e2;cases e;exact .inr ⟨y,q1,q2⟩
theorem dI{us:List V}(h:us.Nodup)(ok:∀u∈us,u∈M.toks):us.length<1000:=ax (am (cV h ok) oh) (by decide)
theorem vL{s rg hA r2 r4:Nat}{d1 d2:V}{ua ub:List V}{QQ:KS}(h:aY M L S nw J)(H:zb M L S J hA r2 r4 ua ub)(HE:∀i u,Hl ua ub i u↔za S.fact a b i u)(hd1:d1∈regs)(hd2:d2∈regs)(sm:iJ B J s T)(low:xk B L S)(hB:B<=J.length)(hrg:J[rg]?=some (.list [d1,d2]))(hrna:¬Ad L S rg)
  (hs:loc "self"=some (.obj L.f)) (hh:loc "handed"=some (.obj hA)) (hsm:loc "summary"=some (.obj s)) (hrs:loc "registers"=some (.obj rg))
  (hQ:∀loc' S' nw' σ',Op M L [] (gf T.fact a b d1 d2) S nw J S' nw' σ'->QQ .next loc' σ'):ez (aZ a0 (n+5)) (fv.body.drop 1) loc J QQ:=by
 refine rU sm.so λlk kp td s1 s2 s3 s4 w ks s6=>xe w λls s5=>?_;have tL:=sm.tb _ s5;refine y6 tL λlkB le hle=>aw hsm (bY s1 rfl ?_)
 (conv=>whnf)
 refine j3 (Dq hle) (mw (sm.ok _ s5) (sm.nd _ s5) (.inl rfl)) ?_
 (conv=>whnf)
 refine aw (ch aF) (xY (h.ext az) (H.ext az) aF (gQ h) (λv hv=>sm.ok _ s5 v (fV.mp hv)) hs hh λloc1 S1 nw1 σ7 ag1 o1=>?_);have o1':=o1.pre az;have sm7:=sm.same (o1'.below low hB);have low1:=o1'.low low hB;have B7:B<=σ7.length:=am hB o1'.le;have tK:=sm7.tb _ s6;refine y6 tK λkpB ke hke=>?_;have H7:=H.step o1';refine aw (ag1.at (by decide) hsm) (bY ((o1'.below low hB _ s2).trans s1) rfl ?_)
 (conv=>whnf)
 refine j3 (Dq hke) (mw (sm.ok _ s6) (sm.nd _ s6) (.inr rfl)) ?_
 (conv=>whnf)
 refine aw (ch aF) (xU (o1.fl.ext az) (H7.ext az) aF (gQ o1.fl) (λv hv=>sm.ok _ s6 v (fV.mp hv)) (ag1.at (by decide) hs) (ag1.at (by decide) hh) λloc2 S2 nw2 σ8 ag2 o2=>?_);have o2':=o2.pre az;have o12:=Op.trans h o1' o2';have hk:=o12.keep hrg hrna;refine aw (ag2.at (by decide) (ag1.at (by decide) hrs)) ?_
 (conv=>whnf)
 refine aw (Ap hk.1) (Bz o2.fl (H7.step o2') hd1 hd2 (sm7.same (o2'.below low1 B7)) (o2'.low low1 B7) (am B7 o2'.le) hk.1 hk.2 (ag2.at (by decide) (ag1.at (by decide) hs)) (ag2.at (by decide) (ag1.at (by decide) hh)) (ag2.at (by decide) (ag1.at (by decide) hsm)) λloc3 S3 nw3 σ9 o3=>?_)
 (conv=>whnf)
 refine hQ loc3 S3 nw3 σ9 ((Op.trans h o12 o3).conv (λe tb v q=>?_) λC hC tb v q=>?_)
 ·rw [e] at q ⊢;exact q.elim (λy=>bO y λx q1 q2=>.inl (.inl ⟨x,fV.mpr ((sK sm.keys s5).mp q1),q2.mono (λz_ z_=>id) λu=>(HE x u).mpr⟩))
   λq=>q.elim (λz=>dE z λi x q1 q2=>.inl (.inr ⟨i,x,fV.mpr ((sK sm.keys s6).mp q1),q2.mono (λz_ z_=>id) (λu=>(HE x u).mpr) λu=>(HE i u).mpr⟩))
   λq=>.inr (q.imp (λ⟨x,q1,q2⟩=>⟨x,q1,q2.1,(HE x v).mpr q2.2⟩) λ⟨x,q1,q2⟩=>⟨x,q1,q2.1,(HE x v).mpr q2.2⟩)
 ·have HC:∀i u,Hl ua ub i u->za C a b i u:=λi u q=>((HE i u).mp q).mono hC;exact q.elim (λq=>q.elim (λt=>bO t λx q1 q2=>.inl ⟨x,(sK sm.keys s5).mpr (fV.mp q1),q2.mono (λz_ z_=>id) (HC x)⟩)
   λr=>dE r λi x q1 q2=>.inr (.inl ⟨i,x,(sK sm.keys s6).mpr (fV.mp q1),q2.mono (λz_ z_=>id) (HC x) (HC i)⟩))
   λq=>.inr (.inr (q.imp (λ⟨x,q1,q2⟩=>⟨x,q1,q2.1,HC x v q2.2⟩) λ⟨x,q1,q2⟩=>⟨x,q1,q2.1,HC x v q2.2⟩))
theorem vM{s rg:Nat}{d1 d2:V}(h:aY M L S nw J)(ha:iq a)(hb:iq b)(hd1:d1∈regs)(hd2:d2∈regs)(sm:iJ B J s T)(low:xk B L S)(hB:B<=J.length)(hrg:J[rg]?=some (.list [d1,d2]))(hrna:¬Ad L S rg)
  (hQ:∀S' nw' σ',Op M L [] (gf T.fact a b d1 d2) S nw J S' nw' σ'->Q .none σ'):aZ a0 (n+6) ("EscapeFlow","follow") [.obj L.f,.obj s,.tup [a,b],.obj rg] J Q:=by
 refine bq (d:=fv) rfl ae ae ?_
 (conv=>whnf)
 refine ⟨λz_ q=>(aq q).elim,?_⟩
 (conv=>whnf)
 refine aU h.fo rfl (aU h.fo rfl ?_)
 (conv=>whnf)
 refine bI h ha λr1 σ1 ta p1 hr1 z_ nd1 ok1 hu1=>?_
 (conv=>whnf)
 refine iB (h.ext p1) hr1 ok1 (dI nd1 ok1) λr2 σ2 ua p2 hr2 hn2 nd2 ok2 hu2=>?_;have h2:=h.ext (p1.trans p2);refine ⟨ae,λz_ q=>(aq q).elim,?_⟩
 (conv=>whnf)
 refine aU h2.fo rfl (aU h2.fo rfl ?_)
 (conv=>whnf)
 refine bI h2 hb λr3 σ3 tb' p3 hr3 z_ nd3 ok3 hu3=>?_
 (conv=>whnf)
 refine iB (h2.ext p3) hr3 ok3 (dI nd3 ok3) λr4 σ4 ub p4 hr4 hn4 nd4 ok4 hu4=>⟨ae,λz_ q=>(aq q).elim,?_⟩
 have pA:J <+:σ4++[Ob.list [V.obj r2,V.obj r4]]:=((p1.trans p2).trans (p3.trans p4)).trans az;have ln:=λ{n:Nat} (q:J.length<=n) (x:Ad L S n)=>bh _ (ak (h.lt x) q);have H5:zb M L S (σ4++[Ob.list [V.obj r2,V.obj r4]]) σ4.length r2 r4 ua ub :=
  ⟨aF,aS (bR (p3.trans p4) hr2),aS hr4,ln (bS ((p1.trans p2).trans (p3.trans p4))),ln (am (bS p1) hn2),ln (am (bS ((p1.trans p2).trans p3)) hn4),ok2,ok4,dI nd2 ok2,dI nd4 ok4⟩
 have e1:(λt=>t∈ta)=cg S.fact a:=funext λt=>propext (hu1 t);have e3:(λt=>t∈tb')=cg S.fact b:=funext λt=>propext (hu3 t);have HE:∀i u,Hl ua ub i u↔za S.fact a b i u:=λi u=>or_congr (and_congr Iff.rfl (e1▸hu2 u)) (or_congr (and_congr Iff.rfl (e3▸hu4 u)) Iff.rfl);dsimp only [iV,t9,HP,ud];exact vL (h.ext pA) H5 HE hd1 hd2 (sm.ext pA) low (am hB (bS pA)) (bR pA hrg) hrna rfl rfl rfl rfl λloc' S' nw' σ' o=>hQ S' nw' σ' (o.pre pA)
end
section
variable{M:cZ}{L:FL}{S S' S'':Tabs}{T:V->Tabs}{nw nw' nw'':Bool}{ms:List V}
noncomputable abbrev vROW:V:=.tup [.str "slice",.tup [.str "ptr",.tup [.str "int",.str "int"]]]
noncomputable abbrev GN(i:Int):V:=.tup [.str "const",.tup [.str "int",.str "int"],.int i]
noncomputable abbrev vCHAN:V:=.tup [.str "const",.tup [.str "chan",.str "both",vT],.tup [.str "chan",.str "main.c"]]
set_option genCtorIdx false
inductive Ln where
 | new (d s:V) | store (a b:V) | load (d a:V) | move (d a:V) | struct (a b:V) | part (d i:V) | call (d1 d2 k a b:V)
 | mslice (d s:V) | append (d a b s:V) | copy (a b:V) | cut (d a:V) | elem (d a:V) (i:Int) | mmap (t s:V) | mapset (a b:V) | mapget (d a:V) | face (a:V) | send (a:V) | recv (d:V)
noncomputable def Ln.vl:Ln->V
 | .new d s=>.tup [.str "new",d,vT,s]
 | .store a b=>.tup [.str "store",a,b]
 | .load d a=>.tup [.str "load",d,a]
 | .move d a=>.tup [.str "move",d,a]
 | .struct a b=>.tup [.str "struct",.int 8,.tup [a,b]]
 | .part d i=>.tup [.str "part",d,oR (.int 8),i]
 | .call d1 d2 k a b=>.tup [.str "call",.tup [d1,d2],.tup [.str "fn",k],.tup [a,b]]
 | .mslice d s=>.tup [.str "makeslice",d,vROW,GN 1,GN 1,s]
 | .append d a b s=>.tup [.str "append",d,a,b,vROW,s]
 | .copy a b=>.tup [.str "copy",.none,a,b]
 | .cut d a=>.tup [.str "cut",d,a,.none,.none,.none,vROW]
 | .elem d a i=>.tup [.str "elemptr",d,a,GN i]
 | .mmap t s=>.tup [.str "makemap",.int 7,t,s]
 | .mapset a b=>.tup [.str "mapset",oR (.int 7),a,b]
 | .mapget d a=>.tup [.str "mapget",d,.none,oR (.int 7),a,vT]
 | .face a=>.tup [.str "face",.int 9,a,vT]
 | .send a=>.tup [.str "send",vCHAN,a]
 | .recv d=>.tup [.str "recv",d,.none,vCHAN,vT]
noncomputable def bP:List V:=[.str "f",.str "g"]
noncomputable def Ln.ok(st:List V):Ln->Prop
 | .new d s | .mslice d s=>d∈regs/\s∈st
 | .mmap _ s=>s∈st
 | .store a b | .copy a b | .mapset a b | .struct a b=>iq a/\iq b
 | .load d a | .move d a | .cut d a | .elem d a _=>d∈regs/\iq a
 | .append d a b s=>d∈regs/\iq a/\iq b/\s∈st
 | .part d _ | .mapget d _ | .recv d=>d∈regs
 | .face a | .send a=>iq a
 | .call d1 d2 k a b=>d1∈regs/\d2∈regs/\k∈bP/\iq a/\iq b
noncomputable def Ln.news:Ln->List V
 | .new _ s | .mslice _ s | .append _ _ _ s | .mmap _ s=>[s]
 | _=>[]
noncomputable def mN(F:Facts)(a u:V):Prop:=∃t,cg F a t/\Ld F t u
noncomputable def wm(d s:V):Facts->Facts:=Hn (GY .sites s) (dA d (·=tS s))
noncomputable def HO(d a b s:V):Facts->Facts:=Hn (wm d s) (Hn (λF=>dA d (cg F a) F) (Hn (λF=>eW (λt=>cg F a t\/t=tS s) (mN F b) F) λF=>eW (·=tS s) (mN F a) F))
noncomputable def qQ(G:V->Facts):Ln->Facts->Facts
 | .new d s | .mslice d s=>wm d s
 | .mmap _ s=>wm (.int 7) s
 | .store a b=>λF=>eW (cg F a) (cg F b) F
 | .copy a b=>λF=>eW (cg F a) (mN F b) F
 | .mapset a b=>λF=>eW (cg F (oR (.int 7))) (mF F [a,b]) F
 | .append d a b s=>HO d a b s
 | .load d a=>λF=>dA d (mN F a) F
 | .mapget d _=>λF=>dA d (mN F (oR (.int 7))) F
 | .move d a | .cut d a | .elem d a _=>λF=>dA d (cg F a) F
 | .part d _=>λF=>dA d (cg F (oR (.int 8))) F
 | .struct a b=>λF=>dA (.int 8) (mF F [a,b]) F
 | .face a=>Hn (λF=>fA (cg F a) F) λF=>dA (.int 9) (cg F a) F
 | .send a=>λF=>fA (cg F a) F
 | .recv d=>dA d (·=tB)
 | .call d1 d2 k a b=>gf (G k) a b d1 d2
structure tG(B:Nat)(J:Hp)(sums:Nat)(T:V->Tabs):Prop where
 lt:sums<B
 d:∃l e,J[sums]?=some (.dict l e)/\∀k∈bP,∃s,getD l k=some (.obj s)/\iJ B J s (T k)
theorem n7(h:i<10):V.int (i:Int)∈regs:=aX.mpr ⟨i,List.mem_range.mpr h,rfl⟩
theorem Do{d s:V}(h:aY M L S nw J)(hd:d∈regs)(hs:s∈M.sites)
  (hQ:∀S' nw' σ',Op M L [s] (wm d s) S nw J S' nw' σ'->Q .none σ'):aZ a0 (n+5) ("EscapeFlow","look") [.obj L.f,(Ln.new d s).vl] J Q:=by
 exact bq (d:=bw) rfl ae ae (aU h.fo rfl (bq (d:=cp) rfl ae ae (aU h.fo rfl (ma h hd hs hQ))))
theorem wg{d s:V}(h:aY M L S nw J)(hd:d∈regs)(hs:s∈M.sites)
  (hQ:∀S' nw' σ',Op M L [s] (wm d s) S nw J S' nw' σ'->Q .none σ'):aZ a0 (n+5) ("EscapeFlow","look") [.obj L.f,(Ln.mslice d s).vl] J Q:=by
 exact bq (d:=bw) rfl ae ae (aU h.fo rfl (bq (d:=cp) rfl ae ae (aU h.fo rfl (ma h hd hs hQ))))
theorem AZ{t s:V}(h:aY M L S nw J)(hs:s∈M.sites)
  (hQ:∀S' nw' σ',Op M L [s] (wm (.int 7) s) S nw J S' nw' σ'->Q .none σ'):aZ a0 (n+5) ("EscapeFlow","look") [.obj L.f,(Ln.mmap t s).vl] J Q:=by
 exact bq (d:=bw) rfl ae ae (aU h.fo rfl (bq (d:=cp) rfl ae ae (aU h.fo rfl (ma h (n7 (i:=7) (by decide)) hs hQ))))
theorem mN.mono{F G:Facts}(h:∀tb v,F tb v->G tb v){a u:V}(q:mN F a u):mN G a u:=let ⟨t,q1,q2⟩:=q;⟨t,q1.mono h,q2.mono h⟩
theorem mF.mono{F G:Facts}(h:∀tb v,F tb v->G tb v){l:List V}{u:V}(q:mF F l u):mF G l u:=let ⟨t,q1,q2⟩:=q;⟨t,q1,q2.mono h⟩
theorem Di{ta ua:List V}(hu:∀u,u∈ta↔cg F a u)(hv:∀u,u∈ua↔∃t∈ta,Ld F t u):(λt=>t∈ua)=mN F a:=funext λu=>propext ((hv u).trans ⟨λ⟨t,q1,q2⟩=>⟨t,(hu t).mp q1,q2⟩,λ⟨t,q1,q2⟩=>⟨t,(hu t).mpr q1,q2⟩⟩)
theorem E2{ta:List V}(hu:∀u,u∈ta↔mF F l u):(λt=>t∈ta)=mF F l:=funext λt=>propext (hu t)
theorem gS{ta:List V}(hu:∀u,u∈ta↔cg F a u):(λt=>t∈ta)=cg F a:=funext λt=>propext (hu t)
theorem yb(h:aY M L S nw J)(ha:iq a)(hb:iq b)
  (hQ:∀S' nw' σ',Op M L [] (λF=>eW (cg F a) (cg F b) F) S nw J S' nw' σ'->Q .none σ'):aZ a0 (n+7) ("EscapeFlow","look") [.obj L.f,(Ln.store a b).vl] J Q:=by
 refine bq (d:=bw) rfl ae ae (aU h.fo rfl (bq (d:=b9) rfl ae ae (aU h.fo rfl (aU h.fo rfl (bI h ha λr1 σ1 ta p1 hr1 hn1 nd1 ok1 hu1=>?_)))));have h1:=h.ext p1;refine aU h1.fo rfl (bI h1 hb λr2 σ2 tb p2 hr2 hn2 nd2 ok2 hu2=>i7 (h1.ext p2) (bR p2 hr1) (λq=>bh _ (ak (h.lt q) hn1)) ok1 hr2 (λq=>bh _ (ak (h1.lt q) hn2)) ok2 (dI nd2 ok2) λS' nw' σ' o=>?_);rw [gS hu1,gS hu2] at o;exact hQ S' nw' σ' ((o.pre (p1.trans p2)).conv (λe tb v q=>by rw [e] at q ⊢;exact q) λC hC tb v q=>q.mono (λz_ z_=>id) (λz_=>cg.mono hC) λz_=>cg.mono hC)
theorem eS{G:Facts->V->Prop}{us:V->Prop}{d:V}(hus:us=G S.fact)(hm:∀C:Facts,(∀tb v,S.fact tb v->C tb v)->∀t,G S.fact t->G C t)(o:Op M L ns (dA d us) S nw J S' nw' σ'):Op M L ns (λF=>dA d (G F) F) S nw J S' nw' σ' :=
 o.conv (λe tb v q=>⟨q.1,by rw [hus,<-e];exact q.2⟩) λC hC tb v q=>⟨q.1,hm C hC v (hus▸q.2)⟩
theorem AY{d:V}(h:aY M L S nw J)(hd:d∈regs)(ha:iq a)
  (hQ:∀S' nw' σ',Op M L [] (λF=>dA d (mN F a) F) S nw J S' nw' σ'->Q .none σ'):aZ a0 (n+4) ("EscapeFlow","look") [.obj L.f,(Ln.load d a).vl] J Q:=by
 refine bq (d:=bw) rfl ae ae (aU h.fo rfl (bq (d:=cH) rfl ae ae (aU h.fo rfl (aU h.fo rfl (aU h.fo rfl (bI h ha λr1 σ1 ta p1 hr1 hn1 nd1 ok1 hu1=>fU (h.ext p1) hr1 ok1 λr2 σ2 ua p2 hr2 hn2 nd2 ok2 hu2=>dz ((h.ext p1).ext p2) hd hr2 (λq=>bh _ (ak ((h.ext p1).lt q) hn2)) ok2 λS' nw' σ' o=>?_))))));refine hQ S' nw' σ' (eS (G:=λF=>mN F a) (funext λu=>propext ?_) (λC hC t q=>let ⟨u,q1,q2⟩:=q;⟨u,q1.mono hC,q2.mono hC⟩) (o.pre (p1.trans p2)));exact (hu2 u).trans ⟨λw=>bO w λt q1 q2=>⟨t,(hu1 t).mp q1,q2⟩,λx=>bO x λt q1 q2=>⟨t,(hu1 t).mpr q1,q2⟩⟩
theorem A0{d:V}(h:aY M L S nw J)(hd:d∈regs)(ha:iq a)
  (hQ:∀S' nw' σ',Op M L [] (λF=>dA d (cg F a) F) S nw J S' nw' σ'->Q .none σ'):aZ a0 (n+3) ("EscapeFlow","look") [.obj L.f,(Ln.move d a).vl] J Q:=by
 exact bq (d:=bw) rfl ae ae (aU h.fo rfl (aU h.fo rfl (bI h ha λr1 σ1 ta p1 hr1 hn1 nd1 ok1 hu1=>dz (h.ext p1) hd hr1 (λq=>bh _ (ak (h.lt q) hn1)) ok1 λS' nw' σ' o=>hQ S' nw' σ' (eS (G:=λF=>cg F a) (gS hu1) (λC hC t q=>q.mono hC) (o.pre p1)))))
theorem Dn{d:V}(h:aY M L S nw J)(hd:d∈regs)(ha:iq a)
  (hQ:∀S' nw' σ',Op M L [] (λF=>dA d (cg F a) F) S nw J S' nw' σ'->Q .none σ'):aZ a0 (n+3) ("EscapeFlow","look") [.obj L.f,(Ln.cut d a).vl] J Q:=by
 exact bq (d:=bw) rfl ae ae (aU h.fo rfl (aU h.fo rfl (bI h ha λr1 σ1 ta p1 hr1 hn1 nd1 ok1 hu1=>dz (h.ext p1) hd hr1 (λq=>bh _ (ak (h.lt q) hn1)) ok1 λS' nw' σ' o=>hQ S' nw' σ' (eS (G:=λF=>cg F a) (gS hu1) (λC hC t q=>q.mono hC) (o.pre p1)))))
theorem AW{d:V}{i:Int}(h:aY M L S nw J)(hd:d∈regs)(ha:iq a)
  (hQ:∀S' nw' σ',Op M L [] (λF=>dA d (cg F a) F) S nw J S' nw' σ'->Q .none σ'):aZ a0 (n+3) ("EscapeFlow","look") [.obj L.f,(Ln.elem d a i).vl] J Q:=by
 exact bq (d:=bw) rfl ae ae (aU h.fo rfl (aU h.fo rfl (bI h ha λr1 σ1 ta p1 hr1 hn1 nd1 ok1 hu1=>dz (h.ext p1) hd hr1 (λq=>bh _ (ak (h.lt q) hn1)) ok1 λS' nw' σ' o=>hQ S' nw' σ' (eS (G:=λF=>cg F a) (gS hu1) (λC hC t q=>q.mono hC) (o.pre p1)))))
theorem pY(h:i<10):iq (oR (.int i)):=.inl ⟨_,n7 h,rfl⟩
theorem A1{d i:V}(h:aY M L S nw J)(hd:d∈regs)
  (hQ:∀S' nw' σ',Op M L [] (λF=>dA d (cg F (oR (.int 8))) F) S nw J S' nw' σ'->Q .none σ'):aZ a0 (n+3) ("EscapeFlow","look") [.obj L.f,(Ln.part d i).vl] J Q:=by
 have ha:iq (oR (.int 8)):=pY (i:=8) (by decide);exact bq (d:=bw) rfl ae ae (aU h.fo rfl (aU h.fo rfl (bI h ha λr1 σ1 ta p1 hr1 hn1 nd1 ok1 hu1=>dz (h.ext p1) hd hr1 (λq=>bh _ (ak (h.lt q) hn1)) ok1 λS' nw' σ' o=>hQ S' nw' σ' (eS (G:=λF=>cg F (oR (.int 8))) (gS hu1) (λC hC t q=>q.mono hC) (o.pre p1)))))
theorem wh(h:aY M L S nw J)(ha:iq a)(hb:iq b)
  (hQ:∀S' nw' σ',Op M L [] (λF=>dA (.int 8) (mF F [a,b]) F) S nw J S' nw' σ'->Q .none σ'):aZ a0 (n+4) ("EscapeFlow","look") [.obj L.f,(Ln.struct a b).vl] J Q:=by
 exact bq (d:=bw) rfl ae ae (aU h.fo rfl (aU h.fo rfl (i9 h (zd ha hb) ae λr1 σ1 ta p1 hr1 hn1 z_ ok1 hu1=>dz (h.ext p1) (n7 (i:=8) (by decide)) hr1 (λq=>bh _ (ak (h.lt q) hn1)) ok1 λS' nw' σ' o=>hQ S' nw' σ' (eS (G:=λF=>mF F [a,b]) (funext λu=>propext (hu1 u)) (λC hC t w=>bO w λop q1 q2=>⟨op,q1,q2.mono hC⟩) (o.pre p1)))))
theorem AV(h:aY M L S nw J)(ha:iq a)(hb:iq b)
  (hQ:∀S' nw' σ',Op M L [] (λF=>eW (cg F a) (mN F b) F) S nw J S' nw' σ'->Q .none σ'):aZ a0 (n+7) ("EscapeFlow","look") [.obj L.f,(Ln.copy a b).vl] J Q:=by
 refine bq (d:=bw) rfl ae ae (aU h.fo rfl (bq (d:=b9) rfl ae ae (aU h.fo rfl (aU h.fo rfl (bI h ha λr1 σ1 ta p1 hr1 hn1 nd1 ok1 hu1=>?_)))));have h1:=h.ext p1;refine aU h1.fo rfl (aU h1.fo rfl (bI h1 hb λr2 σ2 tb p2 hr2 hn2 nd2 ok2 hu2=>?_));have h2:=h1.ext p2;refine fU h2 hr2 ok2 λr3 σ3 ub p3 hr3 hn3 nd3 ok3 hu3=>i7 (h2.ext p3) (bR p3 (bR p2 hr1)) (λq=>bh _ (ak (h.lt q) hn1)) ok1 hr3 (λq=>bh _ (ak (h2.lt q) hn3)) ok3 (dI nd3 ok3) λS' nw' σ' o=>?_;rw [gS hu1,Di hu2 hu3] at o;exact hQ S' nw' σ' ((o.pre (p1.trans (p2.trans p3))).conv (λe tb v q=>by rw [e] at q ⊢;exact q) λC hC tb v q=>q.mono (λz_ z_=>id) (λz_=>cg.mono hC) λz_=>mN.mono hC)
theorem we(h:aY M L S nw J)(ha:iq a)(hb:iq b)
  (hQ:∀S' nw' σ',Op M L [] (λF=>eW (cg F (oR (.int 7))) (mF F [a,b]) F) S nw J S' nw' σ'->Q .none σ'):aZ a0 (n+7) ("EscapeFlow","look") [.obj L.f,(Ln.mapset a b).vl] J Q:=by
 refine bq (d:=bw) rfl ae ae (aU h.fo rfl (bq (d:=b9) rfl ae ae (aU h.fo rfl (aU h.fo rfl (bI h (pY (i:=7) (by decide)) λr1 σ1 ta p1 hr1 hn1 nd1 ok1 hu1=>?_)))));have h1:=h.ext p1;refine aU h1.fo rfl ⟨rfl,rfl,ae,i9 h1 (zd ha hb) ae λr2 σ2 tb p2 hr2 hn2 nd2 ok2 hu2=>i7 (h1.ext p2) (bR p2 hr1) (λq=>bh _ (ak (h.lt q) hn1)) ok1 hr2 (λq=>bh _ (ak (h1.lt q) hn2)) ok2 (ax nd2 (show 23*2<1000 by decide)) λS' nw' σ' o=>?_⟩;rw [gS hu1,E2 hu2] at o;exact hQ S' nw' σ' ((o.pre (p1.trans p2)).conv (λe tb v q=>by rw [e] at q ⊢;exact q) λC hC tb v q=>q.mono (λz_ z_=>id) (λz_=>cg.mono hC) λz_=>mF.mono hC)
theorem wc{d:V}(h:aY M L S nw J)(hd:d∈regs)
  (hQ:∀S' nw' σ',Op M L [] (λF=>dA d (mN F (oR (.int 7))) F) S nw J S' nw' σ'->Q .none σ'):aZ a0 (n+4) ("EscapeFlow","look") [.obj L.f,(Ln.mapget d a).vl] J Q:=by
 exact bq (d:=bw) rfl ae ae (aU h.fo rfl (bq (d:=cH) rfl ae ae (aU h.fo rfl (aU h.fo rfl (aU h.fo rfl (bI h (pY (i:=7) (by decide)) λr1 σ1 ta p1 hr1 hn1 nd1 ok1 hu1=>fU (h.ext p1) hr1 ok1 λr2 σ2 ua p2 hr2 hn2 nd2 ok2 hu2=>dz ((h.ext p1).ext p2) hd hr2 (λq=>bh _ (ak ((h.ext p1).lt q) hn2)) ok2 λS' nw' σ' o=>hQ S' nw' σ' (eS (G:=λF=>mN F (oR (.int 7))) (Di hu1 hu2) (λC hC t q=>mN.mono hC q) (o.pre (p1.trans p2)))))))))
theorem A2{d:V}(h:aY M L S nw J)(hd:d∈regs)
  (hQ:∀S' nw' σ',Op M L [] (dA d (·=tB)) S nw J S' nw' σ'->Q .none σ'):aZ a0 (n+4) ("EscapeFlow","look") [.obj L.f,(Ln.recv d).vl] J Q:=by
 exact bq (d:=bw) rfl ae ae (aU h.fo rfl (bq (d:=cH) rfl ae ae (aU h.fo rfl (dz (h.ext (az (τ:=[Ob.list [tB]]))) hd aF (gQ h) (λx hx=>kA yT hx) λS' nw' σ' o=>hQ S' nw' σ' ((o.pre az).conv' λF tb v=>and_congr Iff.rfl List.mem_singleton.symm)))))
theorem qO{ta:List V}(hu:∀u,u∈ta↔cg S.fact a u)(o:Op M L ns (fA (·∈ta)) S nw J S' nw' σ'):Op M L ns (λF=>fA (cg F a) F) S nw J S' nw' σ':=by
 rw [gS hu] at o;exact o.conv (λe tb v q=>by rw [e] at q ⊢;exact q) λC hC tb v q=>q.mono (λz_ z_=>id) λz_=>cg.mono hC
theorem A3(h:aY M L S nw J)(ha:iq a)
  (hQ:∀S' nw' σ',Op M L [] (λF=>fA (cg F a) F) S nw J S' nw' σ'->Q .none σ'):aZ a0 (n+5) ("EscapeFlow","look") [.obj L.f,(Ln.send a).vl] J Q:=by
 exact bq (d:=bw) rfl ae ae (aU h.fo rfl (bq (d:=b9) rfl ae ae (aU h.fo rfl (aU h.fo rfl (bI h ha λr1 σ1 ta p1 hr1 hn1 nd1 ok1 hu1=>gH (h.ext p1) hr1 ok1 (dI nd1 ok1) λS' nw' σ' o=>hQ S' nw' σ' (qO hu1 (o.pre p1)))))))
theorem AX(h:aY M L S nw J)(ha:iq a)
  (hQ:∀S' nw' σ',Op M L [] (Hn (λF=>fA (cg F a) F) λF=>dA (.int 9) (cg F a) F) S nw J S' nw' σ'->Q .none σ'):aZ a0 (n+5) ("EscapeFlow","look") [.obj L.f,(Ln.face a).vl] J Q:=by
 refine bq (d:=bw) rfl ae ae (aU h.fo rfl (bq (d:=b9) rfl ae ae (aU h.fo rfl (aU h.fo rfl (bI h ha λr1 σ1 ta p1 hr1 hn1 nd1 ok1 hu1=>gH (h.ext p1) hr1 ok1 (dI nd1 ok1) λS1 nw1 σ2 o=>?_)))));have h1:=o.fl;exact aU h1.fo rfl (aU h1.fo rfl (bI h1 ha λr2 σ3 tb p2 hr2 hn2 nd2 ok2 hu2=>dz (h1.ext p2) (n7 (i:=9) (by decide)) hr2 (λq=>bh _ (ak (h1.lt q) hn2)) ok2 λS' nw' σ' o2=>hQ S' nw' σ' (Op.trans h (qO hu1 (o.pre p1)) (eS (G:=λF=>cg F a) (gS hu2) (λC hC t q=>q.mono hC) (o2.pre p2)))))
theorem lT{a b:Nat}{x y:List V}(h:J[a]?=some (.list x))(h2:J[b]?=some (.list y))(hl:x.length+y.length<big)(q:Q (.obj J.length) (J++[.list (x++y)])):z9 .add (.obj a) (.obj b) J Q:=by
 exact dZ h (dZ h2 ⟨hl,q⟩)
theorem Op.conv2(x:Op M L ns R S nw J S' nw' σ')(h1:nw'=false->∀tb v,R' S'.fact tb v->S'.fact tb v)(h2:∀C:Facts,(∀tb v,S.fact tb v->C tb v)->(∀tb v,R' C tb v->C tb v)->∀tb v,S'.fact tb v->C tb v):Op M L ns R' S nw J S' nw' σ' :=
 {x with snd:=h1,lst:=h2}
theorem wb{d s:V}(h:aY M L S nw J)(hd:d∈regs)(ha:iq a)(hb:iq b)(hs:s∈M.sites)
  (hQ:∀S' nw' σ',Op M L [s] (HO d a b s) S nw J S' nw' σ'->Q .none σ'):aZ a0 (n+8) ("EscapeFlow","look") [.obj L.f,(Ln.append d a b s).vl] J Q:=by
 refine bq (d:=bw) rfl ae ae (aU h.fo rfl (bq (d:=cp) rfl ae ae (aU h.fo rfl (ma h hd hs λS1 nw1 σ1 o1=>?_))));have g1:=o1.fl;refine aU g1.fo rfl (bI g1 ha λr1 σ2 ta p1 hr1 hn1 nd1 ok1 hu1=>?_);have g2:=g1.ext p1;refine aU g2.fo rfl (aU g2.fo rfl (bI g2 hb λr2 σ3 tb p2 hr2 hn2 nd2 ok2 hu2=>?_));have g3:=g2.ext p2;refine fU g3 hr2 ok2 λr3 σ4 ub p3 hr3 hn3 nd3 ok3 hu3=>?_;have g4:=g3.ext p3;have hr1':σ4[r1]?=some (.list ta):=bR p3 (bR p2 hr1);have na1:¬Ad L S1 r1:=λq=>bh _ (ak (g1.lt q) hn1);have na3:¬Ad L S1 r3:=λq=>bh _ (ak (g3.lt q) hn3);refine aU g4.fo rfl (dz g4 hd hr1' na1 ok1 λS2 nw2 σ5 o2=>?_);have g5:=o2.fl;have k1:=o2.keep hr1' na1;have k3:=o2.keep hr3 na3;refine aU g5.fo rfl ?_;have la:ta.length<1000:=dI nd1 ok1;refine lT (bR (az (τ:=[Ob.list [tS s]])) k1.1) aF (ax (bQ (cB la) 1) (by decide)) ?_;have pA:σ5 <+:(σ5++[Ob.list [tS s]])++[Ob.list (ta++[tS s])]:=az.trans az;have g6:=g5.ext pA;refine i7 g6 aF (gQ (g5.ext az)) (λx hx=>(bt.mp hx).elim (ok1 x) λhx=>kA (rD hs) hx) (bR pA k3.1) k3.2 ok3 (dI nd3 ok3) λS3 nw3 σ6 o3=>?_;have g7:=o3.fl;have j1:=o3.keep (bR pA k1.1) k1.2;refine aU g7.fo rfl ?_;have g8:=g7.ext (az (τ:=[Ob.list [tS s]]));refine aU g8.fo rfl (fU g8 (bR az j1.1) ok1 λr4 σ7 vb p4 hr4 hn4 nd4 ok4 hu4=>i7 (g8.ext p4) (bR p4 aF) (gQ g7) (λx hx=>kA (rD hs) hx) hr4 (λq=>bh _ (ak (g8.lt q) hn4)) ok4 (dI nd4 ok4) λS4 nw4 σ8 o4=>?_);have t2:=o2.pre (p1.trans (p2.trans p3));have t3:=o3.pre pA;have t4:=o4.pre (az.trans p4);have T3:=Op.trans h o1 (Op.trans g1 t2 t3);have T:=Op.trans h o1 (Op.trans g1 t2 (Op.trans g5 t3 t4));have c1:∀C:Facts,(∀tb v,S1.fact tb v->C tb v)->∀t,t∈ta->cg C a t:=λC hC t q=>((hu1 t).mp q).mono hC;have c2:∀C:Facts,(∀tb v,S1.fact tb v->C tb v)->∀t,t∈ub->mN C b t:=λC hC t q=>let ⟨u,q1,q2⟩:=(hu3 t).mp q;⟨u,((hu2 u).mp q1).mono hC,q2.mono hC⟩
 have c4:∀C:Facts,(∀tb v,S1.fact tb v->C tb v)->(∀tb v,S3.fact tb v->C tb v)->∀t,t∈vb->mN C a t:=λC h1 h3 t q=>let ⟨u,q1,q2⟩:=(hu4 t).mp q;⟨u,c1 C h1 u q1,q2.mono h3⟩
 refine hQ S4 nw4 σ8 (T.conv2 (λe=>?_) λC hC hR=>?_)
 ·have m3:∀tb v,S1.fact tb v->S3.fact tb v:=λtb v q=>t3.mono tb v (t2.mono tb v q);have e0:=T.same e;have b1:∀tb v,S4.fact tb v->S1.fact tb v:=λtb v q=>o1.mono tb v (e0▸q);have b3:∀tb v,S4.fact tb v->S3.fact tb v:=λtb v q=>m3 tb v (b1 tb v q);intro tb v q;refine T.snd e tb v (q.imp id λq=>q.imp (λq=>⟨q.1,(hu1 v).mpr (q.2.mono b1)⟩) λq=>q.imp (λq=>q.mono (λz_ z_=>id) (λt q=>bs.mpr (q.imp (λq=>(hu1 t).mpr (q.mono b1)) List.mem_singleton.mpr)) λt q=>?_) λq=>q.mono (λz_ z_=>id) (λt q=>List.mem_singleton.mpr q) λt q=>?_)
  ·exact let ⟨u,q1,q2⟩:=q;(hu3 t).mpr ⟨u,(hu2 u).mpr (q1.mono b1),q2.mono b1⟩
  ·exact let ⟨u,q1,q2⟩:=q;(hu4 t).mpr ⟨u,(hu1 u).mpr (q1.mono b1),q2.mono b3⟩
 ·have d1:∀tb v,S1.fact tb v->C tb v:=o1.lst C hC λtb v q=>hR tb v (.inl q);have r2:∀tb v,dA d (·∈ta) C tb v->C tb v:=λtb v q=>hR tb v (.inr (.inl ⟨q.1,c1 C d1 v q.2⟩));have r3:∀tb v,eW (·∈ta++[tS s]) (·∈ub) C tb v->C tb v:=λtb v q=>hR tb v (.inr (.inr (.inl (q.mono (λz_ z_=>id) (λt q=>(bt.mp q).imp (c1 C d1 t) an.mp) (c2 C d1)))));have d3:∀tb v,S3.fact tb v->C tb v:=T3.lst C hC λtb v q=>q.elim (λq=>hR tb v (.inl q)) λq=>q.elim (r2 tb v) (r3 tb v);exact T.lst C hC λtb v q=>q.elim (λq=>hR tb v (.inl q)) λq=>q.elim (r2 tb v) λq=>q.elim (r3 tb v) λq=>hR tb v (.inr (.inr (.inr (q.mono (λz_ z_=>id) (λt q=>an.mp q) (c4 C d1 d3)))))
theorem AU{d1 d2:V}(h:aY M L S nw J)(hd1:d1∈regs)(hd2:d2∈regs)(hk:k∈bP)(ha:iq a)(hb:iq b)(sm:tG B J L.sums T)(low:xk B L S)(hB:B<=J.length)
  (hQ:∀S' nw' σ',Op M L [] (gf (T k).fact a b d1 d2) S nw J S' nw' σ'->Q .none σ'):aZ a0 (n+8) ("EscapeFlow","look") [.obj L.f,(Ln.call d1 d2 k a b).vl] J Q:=by
 have kk:k.key=true/\k.dep<=6:=by
  rcases aO.mp hk with rfl | hk
  ·exact ⟨rfl,aC _⟩
  ·cases an.mp hk;exact ⟨rfl,aC _⟩
 have h2:=h.ext (az (τ:=[Ob.list [d1,d2]]));refine dE sm.d λl e hl hs=>bO (hs k hk) λs hs1 hs2=>bq (d:=bw) rfl ae ae (aU h.fo rfl (bq (d:=fq) rfl ae ae ?_));have hl2:(J++[Ob.list [d1,d2]])[L.sums]?=some (.dict l e):=aS hl;refine ⟨ae,bY h2.fo rfl ⟨Hh hl2 rfl,zo hl2 kk.1 kk.2 ?_⟩⟩;rw [hs1];exact aU h2.fo rfl (vM h2 ha hb hd1 hd2 (hs2.ext az) low (am hB (bS az)) aF (gQ h) λS' nw' σ' o=>hQ S' nw' σ' (o.pre az))
theorem A4(x:Ln)(h:aY M L S nw J)(hx:x.ok M.sites)(sm:tG B J L.sums T)(low:xk B L S)(hB:B<=J.length)
  (hQ:∀S' nw' σ',Op M L x.news (qQ (λk=>(T k).fact) x) S nw J S' nw' σ'->Q .none σ'):aZ a0 (n+8) ("EscapeFlow","look") [.obj L.f,x.vl] J Q:=by
 cases x with
 | new d s=>exact Do h hx.1 hx.2 hQ
 | store a b=>exact yb h hx.1 hx.2 hQ
 | load d a=>exact AY h hx.1 hx.2 hQ
 | move d a=>exact A0 h hx.1 hx.2 hQ
 | struct a b=>exact wh h hx.1 hx.2 hQ
 | part d i=>exact A1 h hx hQ
 | call d1 d2 k a b=>exact AU h hx.1 hx.2.1 hx.2.2.1 hx.2.2.2.1 hx.2.2.2.2 sm low hB hQ
 | mslice d s=>exact wg h hx.1 hx.2 hQ
 | append d a b s=>exact wb h hx.1 hx.2.1 hx.2.2.1 hx.2.2.2 hQ
 | copy a b=>exact AV h hx.1 hx.2 hQ
 | cut d a=>exact Dn h hx.1 hx.2 hQ
 | elem d a i=>exact AW h hx.1 hx.2 hQ
 | mmap t s=>exact AZ h hx hQ
 | mapset a b=>exact we h hx.1 hx.2 hQ
 | mapget d a=>exact wc h hx hQ
 | face a=>exact AX h hx hQ
 | send a=>exact A3 h hx hQ
 | recv d=>exact A2 h hx hQ
end
set_option genCtorIdx true
section
variable{M:cZ}{L:FL}{S S' S'':Tabs}{T:V->Tabs}{nw nw' nw'':Bool}{ms:List V}
noncomputable def wJ:V->Bool
 | .tup [.str s,_]=>s=="site"
 | _=>false
theorem ti{t:V}(h:t∈M.toks):wJ t=true↔∃s,t=tS s:=by
 rcases gL h with rfl | ⟨i,_,rfl⟩ | ⟨s,_,rfl⟩
 ·exact ⟨λe=>absurd e (by decide),λq=>xe q λs e=>absurd e il⟩
 ·exact ⟨λe=>absurd (show false=true from e) (by decide),λw=>xe w λs e=>absurd e ju⟩
 ·exact ⟨λz_=>⟨s,rfl⟩,λz_=>rfl⟩
theorem At{K:List V->Hp->Prop}(hg:gd J):∀{acc:List V},(∀x∈xs,x∈M.toks)->acc.length+xs.length<1000->K (acc++xs.filter wJ) J->
  dH gd (.name "token") (cq ["token"] loc) (dY (hO C eI) (ev C eH)) 0 xs acc J K:=by
 induction xs with
 | nil=>intro acc hx hl hk;exact ⟨hg,bn acc▸hk⟩
 | cons x xs ih =>
  intro acc hx hl hk;rw [List.length_cons] at hl;have l1:0+acc.length+1<big:=by unfold big;omega
  have no:wJ x=false->0+acc.length+0<big/\dH gd (.name "token") (cq ["token"] loc) (dY (hO C eI) (ev C eH)) 0 xs (acc++[]) J K:=λh1=>by
   rw [List.filter_cons_of_neg (by rw [h1];decide)] at hk;exact ⟨aQ (bX _) l1,ih (λy hy=>hx y (aj _ hy)) (by rw [bn];omega) (by rw [bn];exact hk)⟩
  refine ⟨hg,?_⟩;rcases gL (hx x ai) with rfl | ⟨i,_,rfl⟩ | ⟨s,_,rfl⟩
  ·(conv=>whnf);exact no rfl
  ·(conv=>whnf);exact no rfl
  ·rw [List.filter_cons_of_pos (show wJ (tS s)=true from rfl),List.append_cons] at hk
   (conv=>whnf);exact ⟨l1,ih (λy hy=>hx y (aj _ hy)) (by rw [aH];exact ax (Nat.le_of_eq (by rw [Nat.add_assoc,Nat.add_comm _ xs.length];rfl)) hl) hk⟩
theorem GD{i:Int}(h:i=0\/i=1):Tb.told (.int i)∈M.tbs:=by
 delta cZ.tbs;rw [List.mem_append];rcases h with rfl | rfl
 ·exact .inr ai
 ·exact .inr (aj _ ai)
theorem rI{i j:Int}(h:j= -1\/j=0\/j=1):V.int j∈M.vals (.told (.int i)):=by
 rcases h with rfl | rfl | rfl
 ·exact ai
 ·exact aj _ ai
 ·exact aj _ (aj _ ai)
theorem rH{l a:Nat}{i:Int}{us:List V}(h:aY M L S nw J)(hm:(Tb.told (.int i),a,us)∈S)(hx:∀x∈ts,x∈M.toks)(hl:J[l]?=some (.list ts))(hna:¬Ad L S l)(hs:loc "self"=some (.obj L.f))(hh:loc "told"=some (.obj a))
  (hQ:∀loc' S' nw' σ',b6 ["token"] loc loc'->Op M L [] (λz_ tb' v=>∃x∈ts,tb'=.told (.int i)/\v=lK x) S nw J S' nw' σ'->QQ .next loc' σ'):gh (b8 [l] J) (.name "token") (ez (aZ a0 (n+1)) gy) ts loc J QQ:=by
 refine kn (names:=["token"]) (nx:=λz_=>[]) (Rx:=λx=>GY (.told (.int i)) (lK x)) ts h (λS' nw' σ' ns R o=>o.stoodL (a8 hl) hna) (λx hxt loc' S' nw' σ' ns R ag o=>⟨_,rfl,λQQ hq=>?_⟩) λloc' S' nw' σ' ag o=>?_
 ·have ag1:=ag.set (x:="token") (v:=x) ai;have ahs:=ag.at (by decide) hs;have ahh:=ag.at (by decide) hh;obtain ⟨us',hus⟩:=o.tab _ _ _ hm;rcases gL (hx x hxt) with rfl | ⟨j,hj,rfl⟩ | ⟨s,hs',rfl⟩
  ·exact aw ahs (aU o.fl.fo rfl (aw ahh (eD o.fl hus (rI (.inl rfl)) λS2 nw2 σ2 o2=>hq _ _ S2 nw2 σ2 (.inl rfl) ag1 o2)))
  ·exact aw ahs (aU o.fl.fo rfl (aw ahh (eD o.fl hus (rI (.inr hj)) λS2 nw2 σ2 o2=>hq _ _ S2 nw2 σ2 (.inl rfl) ag1 o2)))
  ·exact aw ahs (aU o.fl.fo rfl (aw ahh (eD o.fl hus (rI (.inl rfl)) λS2 nw2 σ2 o2=>hq _ _ S2 nw2 σ2 (.inl rfl) ag1 o2)))
 ·rw [flatMap_nil] at o;exact hQ loc' S' nw' σ' ag o
noncomputable abbrev oT(i op:V):Facts->Facts:=λF tb v=>(tb=.told i/\∃t,cg F op t/\v=lK t)\/fA (λt=>cg F op t/\∃s,t=tS s) F tb v
noncomputable def xZ(a b:V):Facts->Facts:=λF tb v=>oT (.int 0) a F tb v\/oT (.int 1) b F tb v
theorem qP{i:Int}{op:V}{QQ:KS}(h:aY M L S nw J)(hi:i=0\/i=1)(ho:iq op)(hs:loc "self"=some (.obj L.f))(hat:loc "at"=some (.int i))(hop:loc "operand"=some op)
  (hQ:∀loc' S' nw' σ',b6 ["told","tokens","token"] loc loc'->Op M L [] (oT (.int i) op) S nw J S' nw' σ'->QQ .next loc' σ'):ez (aZ a0 (n+3)) gx loc J QQ:=by
 refine aw hs (bY h.fo rfl (aU h.so rfl (aw hat (bq (d:=jh) rfl ae ae (bY h.so rfl ⟨oZ h .t,⟨λp hp=>eT hp,ae,lN h .t (r:=.int i) rfl (aC _) (GD hi) λad us S1 σ1 hm o1=>aw hs (aU o1.fl.fo rfl (aw hop (bI o1.fl ho λr σ2 ts p2 hr2 hn2 nd2 ok2 hu2=>?_)))⟩⟩)))));have h2:=o1.fl.ext p2;have hna2:¬Ad L S1 r:=λq=>bh _ (ak (o1.fl.lt q) hn2);have tl:=dI nd2 ok2;refine aw (ch hr2) (rH h2 hm ok2 hr2 hna2 hs rfl λloc2 S2 nw2 σ3 ag2 o2=>?_);have hk:=o2.keep hr2 hna2;have agf:b6 ["told","tokens","token"] loc loc2:=((b6.refl.set (x:="told") (v:=.obj ad) (by decide)).set (x:="tokens") (v:=.obj r) (by decide)).trans λy hy=>ag2 y λq=>hy (by rw [an.mp q];decide);refine aw (ag2.at (by decide) hs) (aU o2.fl.fo rfl (aw (ag2.at (by decide) rfl) (aw (ch hk.1) ?_)));refine At (M:=M) (λz_ z_=>rfl) ok2 (by rw [List.length_nil,Nat.zero_add];exact tl) (gH (o2.fl.ext az) aF (λy hy=>ok2 y (cL.mp hy).1) (ax (List.length_filter_le _ _) tl) λS3 nw3 σ4 o3=>?_);have e0:∀tb v,S1.fact tb v↔S.fact tb v:=λtb v=>⟨o1.lst S.fact (λz_ z_=>id) (λz_ z_ q=>q.elim) tb v,o1.mono tb v⟩
 have hu:∀t,t∈ts↔cg S.fact op t:=λt=>(hu2 t).trans ⟨cg.mono λtb v=>(e0 tb v).mp,cg.mono λtb v=>(e0 tb v).mpr⟩;have hf:∀t,t∈[]++ts.filter wJ↔cg S.fact op t/\∃s,t=tS s:=λt=>by
  rw [List.nil_append,List.mem_filter];exact ⟨λq=>⟨(hu t).mp q.1,(ti (ok2 t q.1)).mp q.2⟩,λq=>⟨(hu t).mpr q.1,(ti (ok2 t ((hu t).mpr q.1))).mpr q.2⟩⟩
 refine hQ _ S3 nw3 σ4 agf ((Op.trans h (Op.trans h o1 (o2.pre p2)) (o3.pre az)).conv (λe tb v q=>?_) λC hC tb v q=>?_)
 ·rw [e] at q ⊢;exact q.imp (λ⟨q1,t,q2,q3⟩=>.inr ⟨t,(hu t).mpr q2,q1,q3⟩) λq=>q.mono (λz_ z_=>id) λt=>(hf t).mpr
 ·exact q.imp (λq=>q.elim (λq=>q.elim) λw=>cG w λt q1 q2 q3=>⟨q2,t,((hu t).mp q1).mono hC,q3⟩) λq=>q.mono (λz_ z_=>id) λt ht=>⟨((hf t).mp ht).1.mono hC,((hf t).mp ht).2⟩
theorem x8(h:aY M L S nw J)(ha:iq a)(hb:iq b)
  (hQ:∀S' nw' σ',Op M L [] (xZ a b) S nw J S' nw' σ'->Q .none σ'):aZ a0 (n+4) ("EscapeFlow","leave") [.obj L.f,.tup [.str "return",.tup [a,b]]] J Q:=by
 refine bq (d:=iL) rfl ae ae ?_;have nl:∀{J σ':Hp},b8 [] J σ':=λz_ q=>(aq q).elim;exact ⟨nl,qP (i:=0) h (.inl rfl) ha rfl rfl rfl λloc1 S1 nw1 σ1 ag1 o1=>⟨nl,qP (i:=1) o1.fl (.inr rfl) hb (ag1.at (by decide) rfl) rfl rfl λloc2 S2 nw2 σ2 ag2 o2=>⟨nl,hQ S2 nw2 σ2 (Op.trans h o1 o2)⟩⟩⟩
end
section
variable{M:cZ}{L:FL}{S S' S'':Tabs}{T:V->Tabs}{nw nw' nw'':Bool}{ms:List V}
structure iH(B:Nat)(J:Hp)(c:Nat)(ls:List Ln)(a b:V):Prop where
 ex:∃k rg bl blk li,c<B/\bl<B/\blk<B/\li<B/\
  J[c]?=some (.inst "Code" [("key",k),("params",.int 2),("registers",rg),("blocks",.obj bl),("captured",.int 0),("results",.int 2),("recovery",.none)])/\
  J[bl]?=some (.list [.obj blk])/\J[blk]?=some (.list [.obj li,.tup [.str "return",.tup [a,b]]])/\J[li]?=some (.list (ls.map Ln.vl))
theorem iH.same{ls:List Ln}(s:iH B J c ls a b)(h:∀n,n<B->σ'[n]?=J[n]?):iH B σ' c ls a b:=by
 exact eF s.ex λk rg bl blk li h1 h2 h3 h4 g1 g2 g3 g4=>⟨k,rg,bl,blk,li,h1,h2,h3,h4,(h _ h1).trans g1,(h _ h2).trans g2,(h _ h3).trans g3,(h _ h4).trans g4⟩
theorem tG.same{s:Nat}(x:tG B J s T)(h:∀n,n<B->σ'[n]?=J[n]?):tG B σ' s T:=by
 obtain ⟨h1,l,e,h2,h3⟩:=x;exact ⟨h1,l,e,(h _ h1).trans h2,λk hk=>let ⟨s,q1,q2⟩:=h3 k hk;⟨s,q1,q2.same h⟩⟩
structure Wk(M:cZ)(L:FL)(ns:List V)(R:Facts->Facts)(S:Tabs)(J:Hp)(S':Tabs)(nw':Bool)(σ':Hp):Prop where
 fl:aY M L S' nw' σ'
 le:J.length<=σ'.length
 fr:∀n,n<J.length->¬Ad L S n->σ'[n]?=J[n]?
 ad:∀n,Ad L S' n->Ad L S n\/J.length<=n
 mono:∀tb v,S.fact tb v->S'.fact tb v
 lst:∀C:Facts,(∀tb v,S.fact tb v->C tb v)->(∀tb v,R C tb v->C tb v)->∀tb v,S'.fact tb v->C tb v
 sts:∀ts ts',(Tb.sites,L.sites,ts)∈S->(Tb.sites,L.sites,ts')∈S'->ts'=bZ ts ns
 tab:∀tb a ts,(tb,a,ts)∈S->∃ts',(tb,a,ts')∈S'
theorem Op.wk(o:Op M L ns R S nw J S' nw' σ'):Wk M L ns R S J S' nw' σ':=⟨o.fl,o.le,o.fr,o.ad,o.mono,o.lst,o.sts,o.tab⟩
theorem Wk.low(o:Wk M L ns R S J S' nw' σ')(h:xk B L S)(hB:B<=J.length):xk B L S':=λn hn=>(o.ad n hn).elim (h n) λq=>am hB q
theorem Wk.below(o:Wk M L ns R S J S' nw' σ')(h:xk B L S)(hB:B<=J.length):∀n,n<B->σ'[n]?=J[n]?:=λn hn=>o.fr n (ak hn hB) λq=>absurd (h n q) (Nat.not_le.mpr hn)
theorem Wk.trans(x:Wk M L ns R S J S' nw' σ')(y:Wk M L ms R S' σ' S'' nw'' σ''):Wk M L (ns++ms) R S J S'' nw'' σ'' where
 fl:=y.fl
 le:=am x.le y.le
 fr n hn ha:=(y.fr n (ak hn x.le) λq=>(x.ad n q).elim ha λq=>absurd hn (ci.mpr q)).trans (x.fr n hn ha)
 ad n hn:=(y.ad n hn).elim (x.ad n) λq=>.inr (am x.le q)
 mono tb v f:=y.mono tb v (x.mono tb v f)
 lst C h1 h2:=y.lst C (x.lst C h1 h2) h2
 sts ts ts' h1 h2:=by
  refine xe x.fl.atS λus hu=>?_;rw [y.sts us ts' hu h2,x.sts ts us h1 hu,fy]
 tab tb a ts h:=let ⟨us,q⟩:=x.tab tb a ts h;y.tab tb a us q
theorem aY.setNew(h:aY M L S nw J)(b:Bool):aY M L S b (J.set L.f (L.flow b)):=by
 refine xa h.own5 λw z_=>mV w λd1 d2 d3 d4=>?_;exact ⟨bG h.fo,(aR d3).trans h.so,let ⟨e,q⟩:=h.hd;⟨e,(aR d1).trans q⟩,let ⟨e,q⟩:=h.ins;⟨e,(aR d2).trans q⟩,let ⟨e,q⟩:=h.td;⟨e,(aR d4).trans q⟩,
  λx hx=>let ⟨e,q⟩:=h.tb x hx;⟨e,(aR λe:L.f=x.2.1=>h.apart hx (e▸ai)).trans q⟩,h.ads,h.keys,h.nd,h.tbs,h.ok,h.atS,h.atG,h.atL,h.atK⟩
theorem tx(h:aY M L S nw J)(b:Bool):Wk M L [] R S J S b (J.set L.f (L.flow b)) where
 fl:=h.setNew b
 le:=by simp
 fr n hn ha:=aR λe:L.f=n=>ha (e▸bs.mpr (.inl ai))
 ad n hn:=.inl hn
 mono _ _:=id
 lst C h1 _:=h1
 sts ts ts' h1 h2:=(h.uniq h2 h1).2
 tab tb a ts h:=⟨ts,h⟩
theorem wN:∀{l:Tabs},(∀p∈l,p.2.2.length<=c)->l.size<=l.length*c:=λ{l}=>by
 induction l with
 | nil=>intro _;exact aC _
 | cons p r ih =>
  intro hl;show p.2.2.length+Tabs.size r<=(r.length+1)*c;rw [Nat.add_mul,Nat.one_mul,Nat.add_comm];exact Nat.add_le_add (ih λq hq=>hl q (aj _ hq)) (hl p ai)
theorem wZ(h:aY M L S nw J):S.length<=36:=by
 have h3:=cV (l:=S.map (·.1)) (m:=M.tbs) h.keys λx hx=>let ⟨p,hp,e⟩:=List.mem_map.mp hx;e▸h.tbs p hp
 have h4:=M.few;rw [aM] at h3;simp only [cZ.tbs,regs,aH,aM,List.length_range,List.length_cons,List.length_nil] at h3;omega
theorem yM(h:aY M L S nw J):S.size<=2300 :=
 am (wN λp hp=>h.len hp) (am (Nat.mul_le_mul_right 23 (wZ h)) (by decide))
noncomputable def gn(G:V->Facts)(ls:List Ln)(a b:V):Facts->Facts:=λF tb v=>(∃x∈ls,qQ G x F tb v)\/xZ a b F tb v
theorem pf(h:k∈l):er l k=l:=if_pos h
theorem mr:∀{ns l:List V},(∀x∈ns,x∈l)->bZ l ns=l
 | [],l,_=>rfl
 | x::ns,l,h=>by
  rw [lq,pf (h x ai)];exact mr λy hy=>h y (aj _ hy)
theorem nc:bZ (bZ l ns) ns=bZ l ns:=mr λx hx=>fM.mpr (.inr hx)
theorem Fx{ls:List Ln}(h:aY M L S nw J)(hls:∀x∈ls,x.ok M.sites)(ha:iq a)(hb:iq b)(cd:iH B J L.code ls a b)(sm:tG B J L.sums T)(low:xk B L S)(hB:B<=J.length)(hs:loc "self"=some (.obj L.f))
  (hQ:∀loc' S' nw' σ',loc' "self"=some (.obj L.f)->Op M L (ls.flatMap Ln.news) (gn (λk=>(T k).fact) ls a b) S nw J S' nw' σ'->QQ .next loc' σ') :
  ex (aZ a0 (n+8)) (.forr (.pair "instructions" "terminator") .over [.attr (.attr (.var "self") "code") "blocks"] eP) loc J QQ:=by
 refine eF cd.ex λk rg bl blk li h1 h2 h3 h4 g1 g2 g3 g4=>?_;have nB:∀{n},n<B->¬Ad L S n:=λq x=>absurd (low _ x) (Nat.not_le.mpr q);refine aw hs (bY h.fo rfl (bY g1 rfl (aw (ch g2) ⟨λz_ z_=>rfl,?_⟩)));show match (match gz J (.obj blk) with | some [a,b]=>some (setL (setL loc "instructions" a) "terminator" b) | _=>none) with | some loc'=>_ | none=>False
 rw [fD g3];refine aw (ch g4) (zn Ln.vl (names:=["instruction"]) (nx:=Ln.news) (Rx:=λx=>qQ (λk=>(T k).fact) x) ls h (λS' nw' σ' ns R o=>o.stoodL (a8 g4) (nB h4)) (λx hxt loc' S' nw' σ' ns R ag o=>⟨_,rfl,λQQ hq=>?_⟩) λloc' S' nw' σ' ag o=>?_)
 ·exact aw (ag.at (by decide) hs) (aU o.fl.fo rfl (A4 x o.fl (hls x hxt) (sm.same (o.below low hB)) (o.low low hB) (am hB o.le) λS2 nw2 σ2 o2=>hq _ _ S2 nw2 σ2 (.inl rfl) (ag.set ai) o2))
 ·have hself:loc' "self"=some (.obj L.f):=ag.at (by decide) hs;refine aw hself (aU o.fl.fo rfl (aw (ag.at (by decide) rfl) (x8 o.fl ha hb λS2 nw2 σ2 o2=>?_)));have o3:=Op.trans h o o2;rw [bn] at o3;exact ⟨o3.stoodL (a8 g2) (nB h2),hQ loc' S2 nw2 σ2 hself o3⟩
theorem Fw{ls:List Ln}(h:aY M L S nw J)(hls:∀x∈ls,x.ok M.sites)(ha:iq a)(hb:iq b)(cd:iH B J L.code ls a b)(sm:tG B J L.sums T)(low:xk B L S)(hB:B<=J.length){m:Nat} :
  ∀{Sd:Tabs} {σa:Hp} {loc:Loc} {QQ:Fl->Loc->Hp->Prop} {ns:List V},loc "self"=some (.obj L.f)->Wk M L ns (gn (λk=>(T k).fact) ls a b) S J Sd true σa->(∀l:List V,bZ (bZ l ns) (ls.flatMap Ln.news)=bZ l (ls.flatMap Ln.news))->2300-Sd.size<m->
   (∀loc' S' σ',Wk M L (ls.flatMap Ln.news) (gn (λk=>(T k).fact) ls a b) S J S' false σ'->(∀tb v,gn (λk=>(T k).fact) ls a b S'.fact tb v->S'.fact tb v)->QQ .next loc' σ')->
   jB (u3 (aZ a0 (n+8)) eQ) (ez (aZ a0 (n+8)) eO) (m+1) loc σa QQ:=by
 induction m with
 | zero=>intro Sd σa loc QQ ns _ _ _ hm;exact absurd hm (Nat.not_lt_zero _)
 | succ m ih =>
  intro Sd σa loc QQ ns hs w hns hm hq;have w1:=w.trans (tx w.fl false);have bel:=w1.below low hB;refine aw hs (bY w.fl.fo rfl (aw hs (kG (c:="EscapeFlow") w.fl.fo ae (Fx (n:=n) w1.fl hls ha hb (cd.same bel) (sm.same bel) (w1.low low hB) (am hB w1.le) hs λloc2 S2 nw2 σ2 hs2 o=>?_))));have w2:=w1.trans o.wk;rw [bn] at w2
  cases nw2 with
  | true =>
   have hlt:=o.sz rfl rfl;have hle:=yM o.fl;exact ih hs2 w2 (λl=>by rw [fy,hns,nc]) (ak (Nat.sub_lt_sub_left (ak hlt hle) hlt) (Nat.le_of_lt_succ hm)) hq
  | false =>
   exact aw hs2 (bY o.fl.fo rfl (hq _ _ _ {w2 with sts:=λts ts' h1 h2=>by rw [w2.sts ts ts' h1 h2,fy,hns]} (o.snd rfl)))
theorem pG{ls:List Ln}(h:aY M L S nw J)(hls:∀x∈ls,x.ok M.sites)(ha:iq a)(hb:iq b)(cd:iH B J L.code ls a b)(sm:tG B J L.sums T)(low:xk B L S)(hB:B<=J.length)
  (hQ:∀S' σ',Wk M L (ls.flatMap Ln.news) (gn (λk=>(T k).fact) ls a b) S J S' false σ'->(∀tb v,gn (λk=>(T k).fact) ls a b S'.fact tb v->S'.fact tb v)->Q .none σ') :
  aZ a0 (n+9) ("EscapeFlow","go_through") [.obj L.f] J Q:=by
 exact bq (d:=fP) rfl ae ae (kG (c:="EscapeFlow") h.fo ae ⟨2302,Fw h hls ha hb cd sm low hB rfl (tx h true) (λl=>rfl) (Nat.lt_succ_of_le (Nat.sub_le _ _)) λloc' S' σ' w hc=>hQ S' σ' w hc⟩)
end
section
variable{M:cZ}{L:FL}{S S' S'':Tabs}{T:V->Tabs}{nw nw' nw'':Bool}{ms:List V}
theorem zO{l:Hp}{k:Nat}{o:Ob}:(J++l).set (J.length+k) o=J++l.set k o:=by
 rw [List.set_append_right _ _ (aN _ _),Nat.add_sub_cancel_left]
theorem dK{l:Hp}{k:Nat}:(J++l)[J.length+k]?=l[k]?:=by
 rw [aL (aN _ _),Nat.add_sub_cancel_left]
theorem oc{l:Hp}{o:Ob}:(J++l).set J.length o=J++l.set 0 o:=zO (k:=0)
theorem iS{l:Hp}:(J++l)[J.length]?=l[0]?:=dK (k:=0)
theorem fh{l:Hp}:(J++l).length=J.length+l.length:=aH
theorem wz:gK [] k v=[(k,v)]:=jY rfl
theorem i8{r:List Mine.S}{Q:KS}{τ:Hp}{c a:String}{l:List (String×V)}(hs:loc "self"=some (.obj J.length))(ht:τ[0]?=some (.inst c l))(hl:l.length<100)
  (q:ez C r loc (J++(τ++[Ob.dict [] 0]).set 0 (.inst c (kZ l a (.obj (J.length+τ.length))))) Q):ez C (.assign (.attr (.var "self") a) (.dict [])::r) loc (J++τ) Q:=by
 refine ⟨λp hp=>eT hp,ae,aw hs ?_⟩;have h0:0<τ.length:=a8 ht;refine kG (c:=c) (l:=l) (by rw [bi,iS,au h0];exact ht) hl ?_;rw [bi,oc,fh];exact q
theorem gp{r:List Mine.S}{Q:KS}{τ:Hp}{c a:String}{l:List (String×V)}(he:∀{Q:K1},Q v (J++τ)->ev C e loc (J++τ) Q)(hs:loc "self"=some (.obj J.length))(ht:τ[0]?=some (.inst c l))(hl:l.length<100)
  (q:ez C r loc (J++τ.set 0 (.inst c (kZ l a v))) Q):ez C (.assign (.attr (.var "self") a) e::r) loc (J++τ) Q:=by
 refine he (Q:=t9 C (.attr (.var "self") a) (ud (ez C r) Q) loc) (aw hs ?_);refine kG (c:=c) (l:=l) (by rw [iS];exact ht) hl ?_;rw [oc];exact q
theorem wX(hQ:Q .none (J++[.inst "Summary" [("leaks",.obj (J.length+1)),("kept",.obj (J.length+2)),("told",.obj (J.length+3))],.dict [] 0,.dict [] 0,.dict [] 0])) :
  aZ a0 (n+1) ("Summary","__init__") [.obj J.length] (J++[.inst "Summary" []]) Q:=by
 exact bq (d:=iM) rfl ae ae (i8 (c:="Summary") rfl rfl ae (i8 (c:="Summary") rfl rfl ae (i8 (c:="Summary") rfl rfl ae hQ)))
noncomputable def L0(J:Hp)(c s:Nat):FL:=⟨J.length,c,s,J.length+1,J.length+2,J.length+3,J.length+4,J.length+5,J.length+6,J.length+7,J.length+8⟩
noncomputable def S0(J:Hp):Tabs:=[(.sites,J.length+3,[]),(.gone,J.length+4,[]),(.leaks,J.length+6,[]),(.kept,J.length+7,[]),(.held (.int 0),J.length+9,[tO (.int 0)]),(.held (.int 1),J.length+10,[tO (.int 1)])]
noncomputable def H0(J:Hp)(c s:Nat):Hp:=[(L0 J c s).flow false,.dict [(.int 0,.obj (J.length+9)),(.int 1,.obj (J.length+10))] 2,.dict [] 0,.dict [] 0,.dict [] 0,(L0 J c s).summary,.dict [] 0,.dict [] 0,.dict [] 0,.dict [(tO (.int 0),.bool true)] 1,.dict [(tO (.int 1),.bool true)] 1]
theorem sO{Q:KS}{τ:Hp}{c:String}{l:List (String×V)}{m:List (V×V)}{e:Nat}(hs:loc "self"=some (.obj J.length))(hr:loc "register"=some (.int i))(ht:τ[0]?=some (.inst c l))(hl:nC l "held"=some (.obj (J.length+1)))(h1:τ[1]?=some (.dict m e))(hm:m.length<big)(hn:getD m (.int i)=none)
  (q:Q .next loc (J++(τ++[Ob.dict [(tO (.int i),.bool true)] 1]).set 1 (.dict (m++[(.int i,.obj (J.length+τ.length))]) (e+1)))):ez C fw loc (J++τ) Q:=by
 have h0:1<τ.length:=a8 h1;refine aw hr ?_;refine ⟨λp hp=>by rw [an.mp hp];exact ⟨rfl,ae⟩,ae,aw hs ?_⟩;refine bY (c:=c) (by rw [bi,iS,au (aQ (bX _) h0)];exact ht) hl ?_;refine aw hr ?_;refine jt (i:=.int i) (m:=m) (e:=e) (show (J++τ++[Ob.dict [(tO (.int i),.bool true)] 1])[J.length+1]?=_ by rw [bi,dK,au h0];exact h1) rfl (aC _) hm ?_;rw [bi,zO,fh];delta gq;rw [jY hn,hn];exact q
theorem Ax{s:Nat}{at':List (String×V)}(hc:J[c]?=some (.inst "Code" at'))(h1:nC at' "captured"=some (.int 0))(h2:nC at' "params"=some (.int 2))(hQ:Q .none (J++H0 J c s)) :
  aZ a0 (n+2) ("EscapeFlow","__init__") [.obj J.length,.obj c,.obj s] (J++[.inst "EscapeFlow" []]) Q:=by
 refine bq (d:=eG) rfl ae ae (gp (c:="EscapeFlow") (v:=.obj c) (λq=>q) rfl rfl ae (gp (c:="EscapeFlow") (v:=.obj s) (λq=>q) rfl rfl ae (i8 (c:="EscapeFlow") rfl rfl ae (i8 (c:="EscapeFlow") rfl rfl ae (i8 (c:="EscapeFlow") rfl rfl ae (i8 (c:="EscapeFlow") rfl rfl ae ?_))))));have nl:∀{J σ':Hp},b8 [] J σ':=λz_ q=>(aq q).elim
 let at4:List (String×V):=[("code",.obj c),("summaries",.obj s),("held",.obj (J.length+1)),("inside",.obj (J.length+2)),("sites",.obj (J.length+3)),("gone",.obj (J.length+4))]
 show ez (aZ a0 (n+1)) (eG.body.drop 6) (jV ["self","code","summaries"] [.obj J.length,.obj c,.obj s]) (J++[Ob.inst "EscapeFlow" at4,.dict [] 0,.dict [] 0,.dict [] 0,.dict [] 0]) (uc Q);refine wX (J:=J++[Ob.inst "EscapeFlow" at4,.dict [] 0,.dict [] 0,.dict [] 0,.dict [] 0]) ⟨rfl,?_⟩;rw [fh];refine kG (c:="EscapeFlow") (l:=at4) (by rw [bi,iS];rfl) ae ?_;rw [bi,oc];exact gp (c:="EscapeFlow") (v:=.bool false) (λq=>q) rfl rfl ae (bY (aS hc) h1 (bY (aS hc) h2 ⟨nl,sO (i:=0) (c:="EscapeFlow") rfl rfl rfl rfl rfl ae rfl ⟨nl,sO (i:=1) (c:="EscapeFlow") rfl rfl rfl rfl rfl ae rfl ⟨nl,hQ⟩⟩⟩))
theorem z6{p:α->Prop}{a b c d e f:α}(h1:p a)(h2:p b)(h3:p c)(h4:p d)(h5:p e)(h6:p f):∀x∈[a,b,c,d,e,f],p x :=
 aP.mpr ⟨h1,aP.mpr ⟨h2,aP.mpr ⟨h3,aP.mpr ⟨h4,aP.mpr ⟨h5,aP.mpr ⟨h6,λz_ q=>(aq q).elim⟩⟩⟩⟩⟩⟩
noncomputable def Tb.num:Tb->Nat | .sites=>0 | .gone=>1 | .leaks=>2 | .kept=>3 | .held (.int i)=>4+i.toNat | _=>9
theorem Bq{s:Nat}:(L0 J c s).own++(S0 J).map (·.2.1)=[0,1,2,5,8,3,4,6,7,9,10].map (J.length+·):=rfl
theorem Jp(M:cZ){s:Nat}:aY M (L0 J c s) (S0 J) false (J++H0 J c s):=by
 have r:∀{t},t∈[Tb.told (.int 0),.told (.int 1),.sites,.gone,.leaks,.kept]->t∈M.tbs:=λq=>bs.mpr (.inr q);have no:∀{x:V} {l:List V},x∈([]:List V)->x∈l:=λq=>(aq q).elim;have one:∀{x y:V},y∈M.toks->x∈[y]->x∈M.toks:=λh q=>an.mp q▸h;exact ⟨iS,dK (k:=5),⟨_,dK (k:=1)⟩,⟨_,dK (k:=2)⟩,⟨_,dK (k:=8)⟩,
  z6 ⟨_,dK (k:=3)⟩ ⟨_,dK (k:=4)⟩ ⟨_,dK (k:=6)⟩ ⟨_,dK (k:=7)⟩ ⟨_,dK (k:=9)⟩ ⟨_,dK (k:=10)⟩,
  Bq▸List.Pairwise.map _ (λa b h e=>h (Nat.add_left_cancel e)) (by decide:[0,1,2,5,8,3,4,6,7,9,10].Nodup),
  List.Pairwise.of_map Tb.num (λa b h e=>h (congrArg Tb.num e)) (by decide:[0,1,2,3,4,5].Nodup),
  z6 List.nodup_nil List.nodup_nil List.nodup_nil List.nodup_nil (List.nodup_cons.mpr ⟨aq,List.nodup_nil⟩) (List.nodup_cons.mpr ⟨aq,List.nodup_nil⟩),
  z6 (r (aj _ (aj _ ai))) (r (aj _ (aj _ (aj _ ai)))) (r (aj _ (aj _ (aj _ (aj _ ai))))) (r (aj _ (aj _ (aj _ (aj _ (aj _ ai)))))) (tW (aX.mpr ⟨0,List.mem_range.mpr (by decide),rfl⟩)) (tW (aX.mpr ⟨1,List.mem_range.mpr (by decide),rfl⟩)),
  z6 (λz_=>no) (λz_=>no) (λz_=>no) (λz_=>no) (λz_=>one (aj _ ai)) (λz_=>one (aj _ (aj _ ai))),
  ⟨[],ai⟩,⟨[],aj _ ai⟩,⟨[],aj _ (aj _ ai)⟩,⟨[],aj _ (aj _ (aj _ ai))⟩⟩
theorem Ie{s:Nat}:xk J.length (L0 J c s) (S0 J):=λn hn=>by
 unfold Ad at hn;rw [Bq] at hn;refine bO (List.mem_map.mp hn) λk z_ q=>?_;subst q;exact aN _ _
noncomputable def F0:Facts:=λtb v=>(tb=.held (.int 0)/\v=tO (.int 0))\/(tb=.held (.int 1)/\v=tO (.int 1))
theorem KY:∀p∈S0 J,∀v∈p.2.2,F0 p.1 v :=
 z6 (λz_ q=>(aq q).elim) (λz_ q=>(aq q).elim) (λz_ q=>(aq q).elim) (λz_ q=>(aq q).elim) (λz_ q=>.inl ⟨rfl,an.mp q⟩) (λz_ q=>.inr ⟨rfl,an.mp q⟩)
theorem GZ:(S0 J).fact=F0:=by
 funext tb v
 refine propext ⟨λq=>dE q λa ts h1 h2=>KY _ h1 v h2,?_⟩;rintro (⟨rfl,rfl⟩ | ⟨rfl,rfl⟩)
 ·exact ⟨J.length+9,_,aj _ (aj _ (aj _ (aj _ ai))),List.mem_singleton.mpr rfl⟩
 ·exact ⟨J.length+10,_,aj _ (aj _ (aj _ (aj _ (aj _ ai)))),List.mem_singleton.mpr rfl⟩
end
section
variable{M:cZ}{L:FL}{S S' S'':Tabs}{T:Tabs}{nw nw' nw'':Bool}{ms:List V}
noncomputable def kq:Tb->Bool | .told _=>true | _=>false
noncomputable def ko:Tb->Bool | .leaks=>true | _=>false
noncomputable def mL:Tb->Bool | .kept=>true | _=>false
noncomputable def jO(t:Tb):Bool:=kq t ||ko t ||mL t
noncomputable def Tabs.sumT(S:Tabs):Tabs:=S.filter λp=>jO p.1
theorem vV(t:Tb):ko t=true↔t=.leaks:=⟨λh=>(by cases t<;>first | rfl | cases h),λh=>h▸rfl⟩
theorem xN(t:Tb):mL t=true↔t=.kept:=⟨λh=>(by cases t<;>first | rfl | cases h),λh=>h▸rfl⟩
theorem C1:S.sumT.idx Tb.t?=S.idx Tb.t?:=by
 delta Tabs.sumT Tabs.idx;rw [List.filterMap_filter]
 congr 1
 funext p
 obtain ⟨tb,a,ts⟩:=p;cases tb<;>rfl
theorem Ar(h:jO tb=true):S.sumT.fact tb v↔S.fact tb v:=by
 constructor
 ·intro q;refine dE q λa ts h1 h2=>?_;clear q;exact ⟨a,ts,(cL.mp h1).1,h2⟩
 ·intro w;refine dE w λa ts h1 h2=>?_;clear w;exact ⟨a,ts,List.mem_filter.mpr ⟨h1,h⟩,h2⟩
theorem yR(h:jO tb=true)(hv:v∈M.vals tb):v∈gr tb:=by
 cases tb<;>first | exact hv | (simp [jO,kq,ko,mL] at h)
theorem aY.sum(h:aY M L S nw J):iJ J.length J L.summ S.sumT:=by
 refine xe h.td λte hte=>xe h.atL λls hls=>xe h.atK λks hks=>?_;refine ⟨⟨L.leaks,L.kept,L.told,h.so,a8 h.so,a8 hte,⟨te,by rw [C1];exact hte⟩,⟨ls,List.mem_filter.mpr ⟨hls,rfl⟩⟩,⟨ks,List.mem_filter.mpr ⟨hks,rfl⟩⟩⟩,λp hp=>?_,?_,λp hp=>h.nd p (cL.mp hp).1,λp hp v hv=>yR (cL.mp hp).2 (h.ok p (cL.mp hp).1 v hv)⟩
 ·exact xe (h.tb p (cL.mp hp).1) λe q=>⟨a8 q,e,q⟩
 ·exact h.keys.sublist ((List.filter_sublist).map _)
noncomputable def fb(T:Tabs):Prop:=∀p∈T,jO p.1=true
theorem Bp:fb S.sumT:=λp hp=>(cL.mp hp).2
theorem rE:∀{T:Tabs},fb T->T.size=Tabs.size (T.filter λp=>ko p.1)+Tabs.size (T.filter λp=>mL p.1)+Tabs.size (T.filter λp=>kq p.1)
 | [],_=>rfl
 | p::r,h=>by
  have ih:=rE (T:=r) λq hq=>h q (aj _ hq);have hp:=h p ai;obtain ⟨tb,a,ts⟩:=p;have e:∀(x:Tb×Nat×List V) (l:Tabs),Tabs.size (x::l)=x.2.2.length+Tabs.size l:=λx l=>by unfold Tabs.size;simp
  cases tb<;>simp [jO,kq,ko,mL] at hp<;>simp [kq,ko,mL,e] at ih ⊢<;>omega
theorem wM{f:Tb->Bool}(hf:∀t,f t=true↔t=tb)(hk:(T.map (·.1)).Nodup){a:Nat}(hm:(tb,a,ts)∈T):Tabs.size (T.filter λp=>f p.1)=ts.length:=by
 induction T with
 | nil=>cases hm
 | cons p r ih =>
  refine xa (List.nodup_cons.mp hk) λk1 k2=>?_;have none:∀l:Tabs,tb∉l.map (·.1)->l.filter (λp=>f p.1)=[]:=λl hl=>List.filter_eq_nil_iff.mpr λq hq e=>hl (aX.mpr ⟨q,hq,(hf _).mp e⟩);refine Or.elim (aO.mp hm) (λe=>?_) (λhm=>?_)
  ·subst e;rw [List.filter_cons_of_pos (p:=λp:Tb×Nat×List V=>f p.1) ((hf tb).mpr rfl),none r k1];unfold Tabs.size;simp
  ·have:f p.1=false:=by
    cases e:f p.1 with
    | false=>rfl
    | true=>exact absurd (aX.mpr ⟨_,hm,((hf _).mp e).symm⟩) k1
   rw [List.filter_cons_of_neg (by simp [this])];exact ih k2 hm
noncomputable def Tabs.all(T:Tabs):List (Tb×V):=T.flatMap λp=>p.2.2.map λv=>(p.1,v)
theorem pK:T.all.length=T.size:=by
 delta Tabs.all Tabs.size;rw [List.length_flatMap];simp
theorem kx:(tb,v)∈T.all↔T.fact tb v:=by
 delta Tabs.all;rw [List.mem_flatMap];constructor
 ·rintro ⟨⟨t,a,ts⟩,h1,h2⟩;refine bO (List.mem_map.mp h2) λw h3 e=>?_;cases e;exact ⟨a,ts,h1,h3⟩
 ·intro q;refine dE q λa ts h1 h2=>?_;clear q;exact ⟨_,h1,aX.mpr ⟨v,h2,rfl⟩⟩
theorem sv(hk:(T.map (·.1)).Nodup)(hn:∀p∈T,p.2.2.Nodup):T.all.Nodup:=by
 induction T with
 | nil=>exact List.nodup_nil
 | cons p r ih =>
  refine xa (List.nodup_cons.mp hk) λk1 k2=>?_;have e:Tabs.all (p::r)=p.2.2.map (λv=>(p.1,v))++Tabs.all r:=by unfold Tabs.all;simp
  rw [e];refine List.nodup_append.mpr ⟨?_,ih k2 λq hq=>hn q (aj _ hq),λx hx y hy exy=>?_⟩
  ·have:=hn p ai;exact List.Pairwise.map _ (λa b h e=>h (by cases e;rfl)) this
  ·refine bO (List.mem_map.mp hx) λw h3 e=>?_;subst e;subst exy;exact dE (kx.mp hy) λa ts h1 h2=>k1 (aX.mpr ⟨_,h1,rfl⟩)
theorem un{l m:List α}(hl:l.Nodup)(hs:∀x∈l,x∈m)(hlen:m.length<=l.length):∀x∈m,x∈l:=λx hx=>by
 by_cases h:x∈l
 ·exact h
 ·have:=cV (l:=x::l) (m:=m) (List.nodup_cons.mpr ⟨h,hl⟩) λy hy=>(aO.mp hy).elim (λe=>e▸hx) (hs y);dsimp only [List.length_cons] at this;omega
theorem tj{T T':Tabs}(hk:(T.map (·.1)).Nodup)(hn:∀p∈T,p.2.2.Nodup)(h:∀tb v,T.fact tb v->T'.fact tb v):T.size<=T'.size:=by
 rw [<-pK,<-pK];exact cV (sv hk hn) λ⟨tb,v⟩ hx=>kx.mpr (h tb v (kx.mp hx))
theorem pF{T T':Tabs}(hk:(T.map (·.1)).Nodup)(hn:∀p∈T,p.2.2.Nodup)(h:∀tb v,T.fact tb v->T'.fact tb v)(hs:T'.size<=T.size):T'.fact=T.fact:=by
 funext tb v
 refine propext ⟨λq=>?_,h tb v⟩;rw [<-pK,<-pK] at hs;exact kx.mp (un (sv hk hn) (λ⟨tb,v⟩ hx=>kx.mpr (h tb v (kx.mp hx))) hs _ (kx.mpr q))
theorem uh{l e:Nat}(h:J[l]?=some (.dict (fX ts) e))(hl:ts.length<1000)(hQ:Q (.int ts.length) J):jq .len [.obj l] J Q :=
 ku ((Dl h).trans (congrArg some (aM _))) (aQ hl (by decide)) hQ
theorem vE(f g:α->V){t:String}{ns:List String}{tl:List E}{elt:E}{K:List V->Hp->Prop}(htl:tl=[])(hg:∀σ',J <+:σ'->gd σ'){ps:List α}
  (hs:∀p∈ps,∀σ' Q,J <+:σ'->(∀σ'',σ' <+:σ''->Q (g p) σ'')->ev C elt (setL (cq ns loc) t (f p)) σ' Q):∀{acc:List V} {σa:Hp},J <+:σa->acc.length+ps.length<1000->(∀σ',J <+:σ'->K (acc++ps.map g) σ')->
  dH gd (.name t) (cq ns loc) (dY (hO C tl) (ev C elt)) 0 (ps.map f) acc σa K:=by
 subst htl
 induction ps with
 | nil=>intro acc σa p hl hk;exact ⟨hg _ p,bn acc▸hk _ p⟩
 | cons x ps ih =>
  intro acc σa p hl hk;rw [List.length_cons] at hl;refine ⟨hg _ p,hs x ai σa _ p λσ2 p2=>⟨?_,ih (λy hy=>hs y (aj _ hy)) (p.trans p2) ?_ λσ' p'=>?_⟩⟩
  ·show 0+acc.length+1<big;unfold big;omega
  ·rw [aH,List.length_singleton,Nat.add_assoc,Nat.add_comm 1];exact hl
  ·rw [bi];exact hk σ' p'
theorem wW(tb:Tb):(gr tb).length<=6:=by cases tb<;>exact ae
theorem iJ.len{s:Nat}(x:iJ B J s T){p:Tb×Nat×List V}(hp:p∈T):p.2.2.length<=6:=am (cV (x.nd p hp) (x.ok p hp)) (wW _)
theorem w9:∀{T:Tabs},(T.idx Tb.t?).map (·.2)=(T.filter λp=>kq p.1).map λp=>V.obj p.2.1
 | []=>rfl
 | (tb,a,ts)::r=>by
  have ih:=w9 (T:=r);unfold Tabs.idx at ih ⊢
  cases tb with
  | told i=>exact congrArg _ ih
  | _=>exact ih
theorem FA{l:Tabs}:(List.map V.toInt (l.map λp=>V.int p.2.2.length)).sum=((l.size:Nat):Int):=by
 induction l with
 | nil=>rfl
 | cons p r ih =>
  show (p.2.2.length:Int)+(List.map V.toInt (r.map λp=>V.int p.2.2.length)).sum=((p.2.2.length+Tabs.size r:Nat):Int);rw [ih];rfl
theorem Eu{w:Nat}(h:J[w]?=some (.list l))(hl:l.length<1000)(hv:∀v∈l,∃i:Int,v=.int i/\0<=i/\i<2^40)(q:Q (.int (l.map V.toInt).sum) J):jq .sum [.obj w] J Q:=by
 exact dZ h ⟨hl,hv,q⟩
theorem zC{j:Nat}(h:j<=2000):∃i:Int,V.int (j:Int)=.int i/\0<=i/\i<2^40:=⟨j,rfl,Int.natCast_nonneg _,Int.lt_of_le_of_lt (Int.ofNat_le.mpr h) (by decide)⟩
theorem BH{s:Nat}(x:iJ B J s T)(ho:fb T)(hT:T.length<100)(hQ:∀σ',J <+:σ'->Q (.int T.size) σ'):aZ a0 (n+1) ("","size_of_summary") [.obj s] J Q:=by
 refine rU x.so λlk kp td h1 h2 h3 q w ks h6=>xe q λte h4=>xe w λls h5=>?_;have tl:=(x.tb _ h5).2;have tk:=(x.tb _ h6).2;refine xe tl λle hle=>xe tk λke hke=>?_;have lf:(T.filter λp=>kq p.1).length<100:=ax (List.length_filter_le _ _) hT;have hx:∀p∈T.filter (λp=>kq p.1),p.2.2.length<=6/\∃e,J[p.2.1]?=some (.dict (fX p.2.2) e):=λp hp=>⟨x.len (cL.mp hp).1,(x.tb p (cL.mp hp).1).2⟩
 refine bq (d:=jk) rfl ae ae (bY h1 rfl (uh hle (ax (x.len h5) (by decide)) (bY h1 rfl (uh hke (ax (x.len h6) (by decide)) (bY h1 rfl (aw (xi h4) ?_))))));rw [w9];refine vE (J:=J) (λp:Tb×Nat×List V=>V.obj p.2.1) (λp=>V.int p.2.2.length) (tl:=gW) rfl (λσ' p=>En h4 (bR p h4)) (λp hp σ' Q p1 hq=>?_) (aD _) (by rw [List.length_nil,Nat.zero_add];exact aQ lf (by decide)) λσ' p'=>?_
 ·exact y6 (hx p hp) λl6 e he=>uh (bR p1 he) (ax l6 (by decide)) (hq _ (aD _))
 ·refine Eu aF (by rw [List.nil_append,aM];exact aQ lf (by decide)) (λv hv=>?_) ?_
  ·refine bO (List.mem_map.mp hv) λp hp y=>?_;subst y;exact zC (am (hx p hp).1 (by decide))
  ·rw [List.nil_append,FA];have e2:=rE ho;rw [wM (tb:=.leaks) (f:=ko) vV x.keys h5,wM (tb:=.kept) (f:=mL) xN x.keys h6] at e2;have:=hQ _ (p'.trans (az (τ:=[Ob.list ([]++(T.filter λp=>kq p.1).map λp=>V.int p.2.2.length)])));rw [e2] at this;exact this
end
section
variable{M:cZ}{L:FL}{S S' S'':Tabs}{T:V->Tabs}{nw nw' nw'':Bool}{ms:List V}
theorem sZ{p:V×V}{r:List (V×V)}:gK (p::r) k v=if p.1=k then (p.1,v)::r else p::gK r k v:=by
 delta gK gF;rw [List.findIdx?_cons];by_cases h:p.1=k
 ·rw [if_pos h,if_pos (V.deq_iff.mpr h)];simp
 ·rw [if_neg h,if_neg (by rw [V.deq_ne h];simp)]
  cases List.findIdx? (λp:V×V=>V.deq p.1 k) r with
  | none=>simp
  | some i=>simp
theorem dX{p:V×V}{r:List (V×V)}:getD (p::r) k=if p.1=k then some p.2 else getD r k:=by
 delta getD;by_cases h:p.1=k
 ·rw [if_pos h,List.find?_cons_of_pos (by exact V.deq_iff.mpr h)];rfl
 ·rw [if_neg h,List.find?_cons_of_neg (by rw [V.deq_ne h];simp)]
theorem l8{k v:V}:∀{l:List (V×V)},(gK l k v).map (·.1)=er (l.map (·.1)) k
 | []=>by simp [wz,er]
 | p::r=>by
  rw [sZ];by_cases h:p.1=k
  ·rw [if_pos h];delta er;rw [if_pos (by simp [h])];simp
  ·rw [if_neg h,List.map_cons,l8 (l:=r)];delta er;by_cases h2:k∈r.map (·.1)
   ·rw [if_pos h2,if_pos (by rw [List.map_cons];exact aj _ h2)];rfl
   ·rw [if_neg h2,if_neg (by rw [List.map_cons,List.mem_cons,not_or];exact ⟨bg h,h2⟩)];rfl
theorem lZ{k v k':V}:∀{l:List (V×V)},getD (gK l k v) k'=if k'=k then some v else getD l k'
 | []=>by
  rw [wz,dX];by_cases h:k'=k
  ·rw [if_pos h,if_pos h.symm]
  ·rw [if_neg h,if_neg (bg h)]
 | p::r=>by
  rw [sZ];by_cases h:p.1=k
  ·rw [if_pos h,dX,dX];by_cases h2:k'=k
   ·simp [h,h2]
   ·simp [h,h2,bg h2]
  ·rw [if_neg h,dX,lZ (l:=r),dX];by_cases h2:p.1=k'
   ·rw [if_pos h2,if_pos h2,if_neg (λe=>h (h2.trans e))]
   ·rw [if_neg h2,if_neg h2]
theorem nD{f:V->V}{k:V}:∀{ks:List V},k∈ks->getD (ks.map λk=>(k,f k)) k=some (f k)
 | x::r,h=>by
  rw [List.map_cons,dX];by_cases e:x=k
  ·rw [if_pos e,e]
  ·rw [if_neg e];exact nD ((aO.mp h).elim (λq=>absurd q.symm e) id)
structure dh where
 ks:List V
 cA:V->Nat
 ls:V->List Ln
 a:V->V
 b:V->V
noncomputable def dh.news(P:dh)(k:V):List V:=(P.ls k).flatMap Ln.news
structure dh.Ok(P:dh):Prop where
 perm:P.ks.Perm bP
 few:∀k∈bP,(P.news k).length<=20
 key:∀k∈bP,∀s∈P.news k,s.key=true/\s.dep<=3
 ls:∀k∈bP,∀x∈P.ls k,x.ok (P.news k)
 a:∀k∈bP,iq (P.a k)
 b:∀k∈bP,iq (P.b k)
 disj:∀k∈bP,∀k'∈bP,k≠k'->∀s∈P.news k,s∉P.news k'
theorem dh.Ok.mem{P:dh}(h:P.Ok):k∈P.ks↔k∈bP:=h.perm.mem_iff
theorem dh.Ok.len{P:dh}(h:P.Ok):P.ks.length=2:=h.perm.length_eq
structure gN(B:Nat)(J:Hp)(codes:Nat)(P:dh):Prop where
 lt:codes<B
 d:∃e,J[codes]?=some (.dict (P.ks.map λk=>(k,V.obj (P.cA k))) e)
 c:∀k∈bP,iH B J (P.cA k) (P.ls k) (P.a k) (P.b k)
theorem gN.same{codes:Nat}{P:dh}(x:gN B J codes P)(h:∀n,n<B->σ'[n]?=J[n]?):gN B σ' codes P :=
 ⟨x.lt,let ⟨e,q⟩:=x.d;⟨e,(h _ x.lt).trans q⟩,λk hk=>(x.c k hk).same h⟩
structure k8(lo:Nat)(J:Hp)(s:Nat)(T:Tabs):Prop where
 at':iJ J.length J s T
 only:fb T
 few:T.length<100
 los:lo<=s
 lot:∀lk kp td,J[s]?=some (.inst "Summary" [("leaks",.obj lk),("kept",.obj kp),("told",.obj td)])->lo<=td
 lop:∀p∈T,lo<=p.2.1
theorem k8.same{lo s:Nat}{T:Tabs}(x:k8 lo J s T)(hz:J.length<=σ'.length)(h:∀n,lo<=n->n<J.length->σ'[n]?=J[n]?):k8 lo σ' s T:=by
 refine j6 x.at'.so λlk kp td h1 h2 h3 w h5 h6=>xe w λe h4=>?_;have htd:=x.lot _ _ _ h1;refine ⟨⟨⟨lk,kp,td,(h _ x.los h2).trans h1,ak h2 hz,ak h3 hz,⟨e,(h _ htd h3).trans h4⟩,h5,h6⟩,λp hp=>let ⟨q1,e,q2⟩:=x.at'.tb p hp;⟨ak q1 hz,e,(h _ (x.lop p hp) q1).trans q2⟩,x.at'.keys,x.at'.nd,x.at'.ok⟩,x.only,x.few,x.los,λlk' kp' td' q=>?_,x.lop⟩;rw [h _ x.los h2] at q;exact x.lot _ _ _ q
structure rW(B lo sums fo codes:Nat)(P:dh)(J:Hp)(T:V->Tabs)(fl:List (V×V)):Prop where
 cd:gN B J codes P
 sd:∃l e,J[sums]?=some (.dict l e)/\l.length<=3/\l.map (·.1)=P.ks/\∀k∈bP,∃s,getD l k=some (.obj s)/\k8 lo J s (T k)
 fd:∃e,J[fo]?=some (.dict fl e)
structure vg(B lo sums fo:Nat)(J:Hp):Prop where
 h1:B<=sums
 h2:B<=fo
 h3:sums<lo
 h4:fo<lo
 h5:sums≠fo
 h6:lo<=J.length
theorem vg.le{lo sums fo:Nat}(x:vg B lo sums fo J)(h:J.length<=σ'.length):vg B lo sums fo σ':=⟨x.h1,x.h2,x.h3,x.h4,x.h5,am x.h6 h⟩
variable{lo sums fo codes:Nat}{P:dh}
theorem rW.same(x:rW B lo sums fo codes P J T fl)(y:vg B lo sums fo J)(hz:J.length<=σ'.length)(h:∀n,n<J.length->σ'[n]?=J[n]?):rW B lo sums fo codes P σ' T fl:=by
 refine ib x.sd λl e h1 h2 h3 h4=>xe x.fd λe' h5=>?_;have hB:B<=J.length:=am (am y.h1 (cB y.h3)) y.h6;exact ⟨x.cd.same λn hn=>h n (ak hn hB),⟨l,e,(h _ (a8 h1)).trans h1,h2,h3,λk hk=>let ⟨s,q1,q2⟩:=h4 k hk;⟨s,q1,q2.same hz λn z_ hn=>h n hn⟩⟩,e',(h _ (a8 h5)).trans h5⟩
theorem rW.ext(x:rW B lo sums fo codes P J T fl)(y:vg B lo sums fo J)(p:J <+:σ'):rW B lo sums fo codes P σ' T fl :=
 x.same y (bS p) λn hn=>by refine xe p λτ q=>?_;subst q;exact au hn
theorem rW.toSums(x:rW B lo sums fo codes P J T fl):tG J.length J sums T:=by
 refine ib x.sd λl e h1 h2 h3 h4=>?_;exact ⟨a8 h1,l,e,h1,λk hk=>let ⟨s,q1,q2⟩:=h4 k hk;⟨s,q1,q2.at'⟩⟩
noncomputable def dh.univ(P:dh)(h:P.Ok)(k:V)(hk:k∈bP):cZ:=⟨P.news k,h.few k hk,h.key k hk⟩
noncomputable def upd(T:V->Tabs)(k:V)(t:Tabs):V->Tabs:=λk'=>if k'=k then t else T k'
noncomputable abbrev G(T:V->Tabs):V->Facts:=λk=>(T k).fact
theorem mM(h:k∈bP):k.key=true/\k.dep<=6:=by
 simp only [bP,List.mem_cons,aq,or_false] at h;rcases h with rfl | rfl<;>exact ⟨rfl,aC _⟩
noncomputable def mark(F:Facts)(s:V):V:=if F .gone s then .str "heap" else .str "frame"
theorem yf{s:V}(h:F .gone s):mark F s=.str "heap":=if_pos h
theorem ul{s:V}(h:¬F .gone s):mark F s=.str "frame":=if_neg h
theorem Bw{l:List (V×V)}:(gK l k v).length<=l.length+1:=by
 have h1:=congrArg List.length (l8 (l:=l) (k:=k) (v:=v));rw [aM] at h1;rw [h1,<-aM (as:=l) (·.1)];delta er
 split
 ·exact Nat.le_succ _
 ·rw [aH];exact ay _
theorem BG{us:List V}{ue:Nat}(hoS:fo≠L.sites)(hoF:fo≠L.f)(hoG:fo≠L.gone)(hu:σb[L.sites]?=some (.dict (fX us) ue))(h:aY M L S nw σb){rest:List V}:∀{fl:List (V×V)} {loc:Loc} {J:Hp},(∀n,n≠fo->J[n]?=σb[n]?)->(∀s∈rest,s∈M.sites)->fl.length+rest.length<1000->loc "flow"=some (.obj L.f)->loc "found"=some (.obj fo)->(∃e,J[fo]?=some (.dict fl e))->
  (∀loc' σ' fl',b6 ["site"] loc loc'->(∀n,n≠fo->σ'[n]?=σb[n]?)->σ'.length=J.length->(∃e,σ'[fo]?=some (.dict fl' e))->fl'.map (·.1)=bZ (fl.map (·.1)) rest->(∀s,getD fl' s=if s∈rest then some (mark S.fact s) else getD fl s)->QQ .next loc' σ')->
  gh (b8 [L.sites] σb) (.name "site") (ez (aZ a0 n) kb) rest loc J QQ:=by
 induction rest with
 | nil=>intro fl loc J hs hx hlen hfl hfo hfd hQ;exact ⟨λm hm=>by rw [an.mp hm];exact hs _ (bg hoS),hQ loc J fl .refl hs rfl hfd rfl λs=>(if_neg aq).symm⟩
 | cons s rest ih =>
  intro fl loc J hs hx hlen hfl hfo hfd hQ;refine xe hfd λe he=>xe h.atG λgs hgs=>xe (h.tbl hgs) λge hge=>?_;have hk:=M.key s (hx s ai);have k6:s.dep<=6:=am hk.2 (by decide);rw [List.length_cons] at hlen;have fin:∀v,v=mark S.fact s->ds (.obj fo) s v J λJ=>gh (b8 [L.sites] σb) (.name "site") (ez (aZ a0 n) kb) rest (setL loc "site" s) J QQ:=λv hv =>
   jt he hk.1 k6 (ax (aN _ _) (aQ hlen (by decide))) (ih (fl:=gK fl s v) (λn hn=>(aR (bg hn)).trans (hs n hn)) (λy hy=>hx y (aj _ hy)) (ax (bQ Bw _) (by rw [Nat.add_assoc,Nat.add_comm 1];exact hlen)) hfl hfo ⟨_,bG he⟩ λloc' σ' fl' ag' same len hfd' hk hg=>hQ loc' σ' fl' ((b6.refl.set ai).trans ag') same (len.trans bE) hfd' (by rw [hk,l8];rfl) λs'=>by
    rw [hg,lZ,hv];by_cases q1:s'∈rest
    ·rw [if_pos q1,if_pos (aj _ q1)]
    ·rw [if_neg q1];by_cases q2:s'=s
     ·rw [if_pos q2,if_pos (q2▸ai),q2]
     ·rw [if_neg q2,if_neg λq=>(aO.mp q).elim q2 q1])
  refine ⟨λm hm=>by rw [an.mp hm];exact hs _ (bg hoS),aw hfl (bY ((hs _ (bg hoF)).trans h.fo) rfl (iw (nI ((hs _ (bg hoG)).trans hge) hk.1 k6) ?_))⟩;by_cases hg:s∈gs
  ·rw [bp hg];refine aw hfo ?_;exact fin _ (yf ((h.fact_iff hgs).mpr hg)).symm
  ·rw [decide_eq_false hg];refine aw hfo ?_;exact fin _ (ul λq=>hg ((h.fact_iff hgs).mp q)).symm
end
section
variable{M:cZ}{L:FL}{S S' S'':Tabs}{T:V->Tabs}{nw nw' nw'':Bool}{ms:List V}{lo sums fo codes:Nat}{P:dh}
theorem aY.same(h:aY M L S nw J)(k:∀n,Ad L S n->σ'[n]?=J[n]?):aY M L S nw σ' :=
 have o:∀{n},n∈L.own->σ'[n]?=J[n]?:=λ{n} q=>k n (bs.mpr (.inl q));have o1:L.held∈L.own:=aj _ ai;have o2:L.inside∈L.own:=aj _ (aj _ ai);have o3:L.summ∈L.own:=aj _ (aj _ (aj _ ai));have o4:L.told∈L.own:=aj _ (aj _ (aj _ (aj _ ai)))
 ⟨(o ai).trans h.fo,(o o3).trans h.so,h.hd.imp λe q=>(o o1).trans q,h.ins.imp λe q=>(o o2).trans q,h.td.imp λe q=>(o o4).trans q,
  λp hp=>(h.tb p hp).imp λe q=>(k _ (sr hp)).trans q,h.ads,h.keys,h.nd,h.tbs,h.ok,h.atS,h.atG,h.atL,h.atK⟩
theorem FL.own_f:L.f∈L.own:=ai
theorem FL.own_told:L.told∈L.own:=aj _ (aj _ (aj _ (aj _ ai)))
theorem FL.own_summ:L.summ∈L.own:=aj _ (aj _ (aj _ ai))
theorem xl(h:n∈L.own):Ad L S n:=bs.mpr (.inl h)
theorem iH.le{ls:List Ln}{B':Nat}(s:iH B J c ls a b)(h:B<=B'):iH B' J c ls a b:=by
 exact y9 s.ex λk rg bl blk li h1 h2 h3 h4 g=>⟨k,rg,bl,blk,li,ak h1 h,ak h2 h,ak h3 h,ak h4 h,g⟩
structure zf(G:V->Facts)(P:dh)(k:V)(F:Facts):Prop where
 base:∀tb v,F0 tb v->F tb v
 closed:∀tb v,gn G (P.ls k) (P.a k) (P.b k) F tb v->F tb v
 least:∀C:Facts,(∀tb v,F0 tb v->C tb v)->(∀tb v,gn G (P.ls k) (P.a k) (P.b k) C tb v->C tb v)->∀tb v,F tb v->C tb v
theorem FG{p q:Prop} [Decidable p] [Decidable q](h:p↔q){a b:α}:(if p then a else b)=if q then a else b:=by
 by_cases hp:p
 ·rw [if_pos hp,if_pos (h.mp hp)]
 ·rw [if_neg hp,if_neg λe=>hp (h.mpr e)]
theorem nv(hk:k∈bP){m:Nat}{l:List (V×V)}{e:Nat}(h:J[m]?=some (.dict l e))(h2:getD l k=some (.obj n)){Q:V->Prop}(q:Q (.obj n)):dn (jT J (.obj m) k) Q:=jS h (mM hk).1 (mM hk).2 h2 q
theorem Et(h:aY M L S nw J)(hl:xk lo L S):k8 lo J L.summ S.sumT :=
 ⟨h.sum,Bp,ax (List.length_filter_le _ _) (ax (wZ h) (by decide)),hl _ (xl FL.own_summ),λlk kp td q=>by
  rw [h.so] at q;cases q;exact hl _ (xl FL.own_told),λp hp=>hl _ (sr (cL.mp hp).1)⟩
theorem s0{l:List (V×V)}(h:k∈l.map (·.1)):(gK l k v).map (·.1)=l.map (·.1):=by rw [l8,pf h]
theorem FQ{l l':List (V×V)}(h:l'.map (·.1)=l.map (·.1)):l'.length=l.length:=by
 have:=congrArg List.length h
 rwa [aM,aM] at this
theorem B1(ok:P.Ok)(hk:k∈bP)(x:rW B lo sums fo codes P J T fl)(y:vg B lo sums fo J)(hfl:fl.length<=500)(hc:loc "codes"=some (.obj codes))(hs:loc "summaries"=some (.obj sums))(hf:loc "found"=some (.obj fo))(hkk:loc "key"=some k)
  (hQ:∀loc' σ' fl' t F,b6 ["flow","site"] loc loc'->rW B lo sums fo codes P σ' (upd T k t) fl'->vg B lo sums fo σ'->J.length<=σ'.length->(∀n,n<J.length->n≠sums->n≠fo->σ'[n]?=J[n]?)->zf (G T) P k F->(∀tb v,jO tb=true->(t.fact tb v↔F tb v))->
   fl'.map (·.1)=bZ (fl.map (·.1)) (bZ [] (P.news k))->(∀s,getD fl' s=if s∈P.news k then some (mark F s) else getD fl s)->QQ .next loc' σ'):ez (aZ a0 (n+9)) ka loc J QQ:=by
 refine xe x.cd.d λce hce=>?_;have hBl:B<=J.length:=am (am y.h1 (cB y.h3)) y.h6;have cx:=(x.cd.c k hk).ex;refine eF cx λck rg bl blk li c1 c2 c3 c4 c5 c6 c7 c8=>aw hc (aw hkk (nv hk hce (nD (f:=λk=>V.obj (P.cA k)) (ok.mem.mpr hk)) (aw hs (Ax (c:=P.cA k) (s:=sums) c5 rfl rfl ⟨rfl,?_⟩))));have h0:=Jp (J:=J) (P.univ ok k hk) (c:=P.cA k) (s:=sums);have hp:J <+:J++H0 J (P.cA k) sums:=az;refine aU h0.fo rfl (pG (T:=T) (B:=J.length) (ls:=P.ls k) (a:=P.a k) (b:=P.b k) h0 (ok.ls k hk) (ok.a k hk) (ok.b k hk) (((x.cd.c k hk).le hBl).same λn hn=>au hn) (x.toSums.same λn hn=>au hn) Ie (bS hp) λS' σ2 w hcl=>?_);have bel:∀n,n<J.length->σ2[n]?=J[n]?:=λn hn=>(w.below Ie (bS hp) n hn).trans (au hn);have lowS:=w.low Ie (bS hp);refine ib x.sd λl e g1 g2 g3 g4=>?_;have hsl:sums<J.length:=ak y.h3 y.h6;have hfl':fo<J.length:=ak y.h4 y.h6;have g1':σ2[sums]?=some (.dict l e):=(bel _ hsl).trans g1;have adN:∀{m n},m<J.length->Ad (L0 J (P.cA k) sums) S' n->m≠n:=λ{m n} h1 h2 e=>absurd (lowS n h2) (Nat.not_le.mpr (e▸h1));have h3:aY (P.univ ok k hk) (L0 J (P.cA k) sums) S' false (σ2.set sums (gq l e k (.obj (L0 J (P.cA k) sums).summ))):=w.fl.same λm hm=>aR (adN hsl hm);refine xe w.fl.atS λss hss=>xe (h3.tbl hss) λse hse=>xe w.fl.atG λgg hgg=>xe x.fd λfe hfe=>?_;have hsnews:ss=bZ [] (P.news k):=w.sts [] ss ai hss;refine bY w.fl.fo rfl (aw hs (aw hkk (jt g1' (mM hk).1 (mM hk).2 (ax g2 (by decide)) (bY h3.fo rfl (aw (fj hse) ?_)))));rw [iW];refine BG (fo:=fo) (L:=L0 J (P.cA k) sums) (adN hfl' (sr hss)) (adN hfl' (xl FL.own_f)) (adN hfl' (sr hgg)) hse h3 (fl:=fl) (λz_ z_=>rfl) (λs hs=>w.fl.ok _ hss s hs) (ax (Nat.add_le_add hfl (w.fl.ln hss)) (by decide)) rfl hf ⟨fe,(aR y.h5).trans ((bel _ hfl').trans hfe)⟩ λloc' σ4 fl' ag same4 FM hfd4 hkeys hgets=>?_;have hz:J.length<=σ4.length:=by rw [FM,bE];exact am (bS hp) w.le
 have at4:∀m,m<J.length->m≠sums->m≠fo->σ4[m]?=J[m]?:=λm h1 h2 h3=>(same4 m h3).trans ((aR (bg h2)).trans (bel m h1));have lo4:∀m,lo<=m->m<J.length->σ4[m]?=J[m]?:=λm h1 h2=>at4 m h2 (λe=>absurd y.h3 (ci.mpr (e▸h1))) λe=>absurd y.h4 (ci.mpr (e▸h1));have hkin:k∈l.map (·.1):=by rw [g3];exact ok.mem.mpr hk
 have flat:aY (P.univ ok k hk) (L0 J (P.cA k) sums) S' false σ4:=h3.same λm hm=>same4 m (bg (adN hfl' hm));refine hQ loc' σ4 fl' S'.sumT S'.fact ((b6.refl.set (x:="flow") (v:=.obj J.length) (by decide)).trans λz hz=>ag z λq=>hz (by rw [an.mp q];decide))
  ⟨x.cd.same λm hm=>at4 m (ak hm hBl) (λe=>absurd y.h1 (Nat.not_le.mpr (e▸hm))) λe=>absurd y.h2 (Nat.not_le.mpr (e▸hm)),⟨gK l k (.obj (L0 J (P.cA k) sums).summ),_,(same4 _ y.h5).trans (bG g1'),(FQ (s0 hkin)).symm▸g2,(s0 hkin).trans g3,λk' hk'=>?_⟩,hfd4⟩
  (y.le hz) hz at4 ⟨λtb v q=>w.mono tb v (GZ▸q),hcl,λC h1 h2=>w.lst C (λtb v q=>h1 tb v (GZ▸q)) h2⟩ (λtb v=>Ar) (hsnews▸hkeys) λs=>?_
 ·rw [lZ];delta upd;by_cases q:k'=k
  ·rw [if_pos q,if_pos q];exact ⟨_,rfl,Et flat λn hn=>am y.h6 (lowS n hn)⟩
  ·rw [if_neg q,if_neg q];exact (g4 k' hk').imp λs q=>⟨q.1,q.2.same hz lo4⟩
 ·refine (hgets s).trans (FG ?_);rw [hsnews];exact fM.trans ⟨λq=>q.elim (λq=>(aq q).elim) id,.inr⟩
end
section
variable{M:cZ}{L:FL}{S S' S'':Tabs}{T T':V->Tabs}{nw nw' nw'':Bool}{ms:List V}{lo sums fo codes:Nat}{P:dh}
noncomputable def u7(G G':V->Facts):Prop:=∀k∈bP,∀tb v,jO tb=true->G k tb v->G' k tb v
theorem u7.refl{G:V->Facts}:u7 G G:=λz_ z_ z_ z_ z_=>id
theorem u7.trans{G G' G'':V->Facts}(x:u7 G G')(y:u7 G' G''):u7 G G'':=λk hk tb v ht q=>y k hk tb v ht (x k hk tb v ht q)
theorem gf.monoG{G G':Facts}{d1 d2:V}(h:∀tb v,jO tb=true->G tb v->G' tb v)(q:gf G a b d1 d2 F tb v):gf G' a b d1 d2 F tb v:=by
 refine Or.elim q (λw=>bO w λo q1 q2=>?_) (λy=>Or.elim y (λz=>dE z λi o q1 q2=>?_) (λu=>Or.elim u (λt=>bO t λx q1 q2=>?_) (λs=>bO s λx q1 q2=>?_)))
 ·exact .inl ⟨o,h _ _ rfl q1,q2⟩
 ·exact .inr (.inl ⟨i,o,h _ _ rfl q1,q2⟩)
 ·exact .inr (.inr (.inl ⟨x,h _ _ rfl q1,q2⟩))
 ·exact .inr (.inr (.inr ⟨x,h _ _ rfl q1,q2⟩))
theorem gn.monoG{G G':V->Facts}{ls:List Ln}{st:List V}{a b:V}(hl:∀x∈ls,x.ok st)(h:u7 G G'){F:Facts}{tb:Tb}{v:V}(q:gn G ls a b F tb v):gn G' ls a b F tb v:=by
 refine Or.elim q (λw=>bO w λx hx q=>?_) (λq=>?_)
 ·refine .inl ⟨x,hx,?_⟩;have hk:=hl x hx
  cases x with
  | call d1 d2 k a b=>exact gf.monoG (h k hk.2.2.1) q
  | _=>exact q
 ·exact .inr q
noncomputable def cC(P:dh)(C:V->Facts):Prop:=∀k∈bP,(∀tb v,F0 tb v->C k tb v)/\∀tb v,gn C (P.ls k) (P.a k) (P.b k) (C k) tb v->C k tb v
structure HH(P:dh)(T:V->Tabs):Prop where
 only:∀k∈bP,fb (T k)
 pre:∀k∈bP,∀C:Facts,(∀tb v,F0 tb v->C tb v)->(∀tb v,gn (G T) (P.ls k) (P.a k) (P.b k) C tb v->C tb v)->∀tb v,(T k).fact tb v->C tb v
 bnd:∀C,cC P C->∀k∈bP,∀tb v,(T k).fact tb v->C k tb v
theorem fb.of{t:Tabs}(h:fb t)(q:t.fact tb v):jO tb=true:=let ⟨_,_,q,_⟩:=q;h _ q
theorem HH.turn(ok:P.Ok)(x:HH P T){t:Tabs}(hk:k∈bP)(ht:fb t)(r:zf (G T) P k F)(hf:∀tb v,jO tb=true->(t.fact tb v↔F tb v)):HH P (upd T k t)/\u7 (G T) (G (upd T k t))/\∀C,cC P C->∀tb v,F tb v->C k tb v:=by
 have le:u7 (G T) (G (upd T k t)):=λk' hk' tb v hs q=>by
  unfold G upd at *;by_cases e:k'=k
  ·rw [if_pos e];subst e;exact (hf tb v hs).mpr (x.pre k' hk F r.base r.closed tb v q)
  ·rw [if_neg e];exact q
 have bF:∀C,cC P C->∀tb v,F tb v->C k tb v:=λC hC=>r.least (C k) (hC k hk).1 λtb v q=>(hC k hk).2 tb v (gn.monoG (ok.ls k hk) (λk' hk' tb v z_ q=>x.bnd C hC k' hk' tb v q) q);refine ⟨⟨λk' hk'=>?_,λk' hk' C h1 h2 tb v q=>?_,λC hC k' hk' tb v q=>?_⟩,le,bF⟩
 ·delta upd;by_cases e:k'=k
  ·rw [if_pos e];exact ht
  ·rw [if_neg e];exact x.only k' hk'
 ·have h2':∀tb v,gn (G T) (P.ls k') (P.a k') (P.b k') C tb v->C tb v:=λtb v q=>h2 tb v (gn.monoG (ok.ls k' hk') le q);unfold upd at q;by_cases e:k'=k
  ·rw [if_pos e] at q;subst e;exact r.least C h1 h2' tb v ((hf tb v (ht.of q)).mp q)
  ·rw [if_neg e] at q;exact x.pre k' hk' C h1 h2' tb v q
 ·unfold upd at q;by_cases e:k'=k
  ·rw [if_pos e] at q;subst e;exact bF C hC tb v ((hf tb v (ht.of q)).mp q)
  ·rw [if_neg e] at q;exact x.bnd C hC k' hk' tb v q
theorem rW.only(x:rW B lo sums fo codes P J T fl):∀k∈bP,fb (T k):=λk hk=>by
 exact ib x.sd λl e z_ z_ z_ h4=>bO (h4 k hk) λs z_ q=>q.only
noncomputable def Za(P:dh)(T:V->Tabs):Nat:=(P.ks.map λk=>(T k).size).sum
theorem k8.small{s:Nat}{t:Tabs}(x:k8 lo J s t):t.size<=600 :=
 am (wN λp hp=>x.at'.len hp) (Nat.mul_le_mul_right 6 (cB x.few))
theorem rW.sum(x:rW B lo sums fo codes P J T fl)(hk:k∈bP){G:Prop}(g:∀l e s,J[sums]?=some (.dict l e)->getD l k=some (.obj s)->k8 lo J s (T k)->G):G :=
 let ⟨l,e,h1,_,_,h4⟩:=x.sd;let ⟨s,h5,h6⟩:=h4 k hk;g l e s h1 h5 h6
theorem yN{K:List V->Hp->Prop}(y:vg B lo sums fo J)(x:rW B lo sums fo codes P J T fl)(hs:cq ["key"] loc "summaries"=some (.obj sums))(hg:∀σ',J <+:σ'->gd σ'){rest:List V}(hx:∀k∈rest,k∈bP)(hl:rest.length<1000)(hk:∀σ',J <+:σ'->K (rest.map λk=>V.int (T k).size) σ') :
  dH gd (.name "key") (cq ["key"] loc) (dY (hO (aZ a0 (n+1)) iu) (ev (aZ a0 (n+1)) ir)) 0 rest [] J K:=by
 have:=vE (C:=aZ a0 (n+1)) (loc:=loc) (ns:=["key"]) (K:=K) (t:="key") (elt:=ir) (J:=J) id (λk=>V.int (T k).size) (tl:=iu) rfl hg (ps:=rest) (λk hkr σ' Q p hq=>by
  refine (x.ext y p).sum (hx k hkr) λl e s h1 h5 h6=>aw hs (nv (hx k hkr) h1 h5 ?_);exact BH h6.at' h6.only h6.few hq) (acc:=[]) (aD _) (by rw [List.length_nil,Nat.zero_add];exact hl) hk
 rw [List.map_id] at this;exact this
end
section
variable{M:cZ}{L:FL}{S S' S'':Tabs}{T T' T0:V->Tabs}{nw nw' nw'':Bool}{ms:List V}{lo sums fo codes:Nat}{P:dh}{fl0:List (V×V)}
theorem rW.wf(x:rW B lo sums fo codes P J T fl):∀k∈bP,((T k).map (·.1)).Nodup/\(∀p∈T k,p.2.2.Nodup)/\fb (T k)/\(T k).size<=600:=λk hk=>by
 exact ib x.sd λl e z_ z_ z_ h4=>bO (h4 k hk) λs z_ q=>⟨q.at'.keys,q.at'.nd,q.only,q.small⟩
theorem uX{f g:V->Nat}:∀{ks:List V},(∀k∈ks,f k<=g k)->(ks.map f).sum<=(ks.map g).sum
 | [],_=>ay _
 | k::r,h=>by
  have h1:=h k ai;have h2:=uX (ks:=r) λk hk=>h k (aj _ hk);simp only [List.map_cons,List.sum_cons];omega
theorem Es{f g:V->Nat}:∀{ks:List V},(∀k∈ks,f k<=g k)->(ks.map g).sum<=(ks.map f).sum->∀k∈ks,g k<=f k
 | [],_,_,k,hk=>by cases hk
 | k::r,h,hs,k',hk'=>by
  have h1:=h k ai;have h2:=uX (ks:=r) λk hk=>h k (aj _ hk);simp only [List.map_cons,List.sum_cons] at hs;rcases aO.mp hk' with rfl | hk'
  ·omega
  ·exact Es (ks:=r) (λk hk=>h k (aj _ hk)) (by omega) k' hk'
theorem v6(h:u7 (G T0) (G T))(ho:∀k∈bP,fb (T0 k)):∀k∈bP,∀tb v,(T0 k).fact tb v->(T k).fact tb v:=λk hk tb v q=>h k hk tb v ((ho k hk).of q) q
theorem wY{f:V->Nat}:∀{ks:List V},(List.map V.toInt (ks.map λk=>V.int (f k))).sum=(((ks.map f).sum:Nat):Int)
 | []=>rfl
 | k::r=>by
  show (f k:Int)+(List.map V.toInt (r.map λk=>V.int (f k))).sum=((f k+(r.map f).sum:Nat):Int);rw [wY (ks:=r)];rfl
theorem C0{x:String}(h:x≠"key")(h2:x≠".0"):cq ["key"] loc x=loc x:=if_neg λq=>q.elim (λq=>h (an.mp q)) h2
theorem ug:(P.ks.map λk=>(k,V.obj (P.cA k))).map (·.1)=P.ks:=by rw [List.map_map];exact List.map_id _
theorem tJ{t:Mine.T}{r:List Mine.S}{QQ:KS}(h:ev C e loc J (t9 C t (ud (ez C r) QQ) loc)):ez C (.assign t e::r) loc J QQ:=h
theorem rJ{K:K1}(ok:P.Ok)(y:vg B lo sums fo J)(x:rW B lo sums fo codes P J T fl)(hc:loc "codes"=some (.obj codes))(hs:loc "summaries"=some (.obj sums))(hK:∀σ',J <+:σ'->K (.int (Za P T)) σ') :
  ev (aZ a0 (n+1)) (.prim .sum [.comp ir (.name "key") .over [.var "codes"] iu]) loc J K:=by
 refine xe x.cd.d λe he=>aw hc (aw (fj he) ?_);rw [ug];refine yN (n:=n) y x ((C0 (by decide) (by decide)).trans hs) (λσ' p=>En he (bR p he)) (λk hk=>ok.mem.mp hk) (by rw [ok.len];decide) λσ' p=>?_;refine Eu aF (by rw [aM,ok.len];decide) (λv hv=>?_) ?_
 ·refine bO (List.mem_map.mp hv) λk hk q=>?_;subst q;exact zC (am (x.wf k (ok.mem.mp hk)).2.2.2 (by decide))
 ·rw [wY];exact hK _ (p.trans az)
structure HK(P:dh)(T0 T:V->Tabs)(fl:List (V×V))(k:V):Prop where
 ex:∃Tm F,u7 (G T0) (G Tm)/\u7 (G Tm) (G T)/\zf (G Tm) P k F/\(∀tb v,jO tb=true->((T k).fact tb v↔F tb v))/\(∀s∈P.news k,getD fl s=some (mark F s))/\∀C,cC P C->∀tb v,F tb v->C k tb v
noncomputable def dh.full(P:dh)(ord:List V):List V:=ord.flatMap λk=>bZ [] (P.news k)
noncomputable def CQ(P:dh)(fl:List (V×V)):Prop:=(fl.map (·.1)).Nodup/\∀s∈fl.map (·.1),s∈bP.flatMap P.news
theorem CQ.len(ok:P.Ok)(h:CQ P fl):fl.length<=40:=by
 have h1:=cV h.1 h.2;have h2:(bP.flatMap P.news).length<=40:=by
  have a:=ok.few (.str "f") ai;have b:=ok.few (.str "g") (aj _ ai);simp only [bP,List.flatMap_cons,List.flatMap_nil,bn,aH];exact Nat.add_le_add a b
 rw [aM] at h1;exact am h1 h2
theorem vN{a b:List V}:P.full (a++b)=P.full a++P.full b:=List.flatMap_append ..
theorem CT:P.full [k]=bZ [] (P.news k):=bn _
theorem HK.le(r:HK P T0 T fl k)(h:u7 (G T) (G T'))(e:T' k=T k){fl':List (V×V)}(hf:∀s∈P.news k,getD fl' s=getD fl s):HK P T0 T' fl' k:=by
 refine gu r.ex λTm F h1 h2 h3 h4 h5 h6=>?_;exact ⟨Tm,F,h1,h2.trans h,h3,λtb v hs=>by rw [e];exact h4 tb v hs,λs hs=>(hf s hs).trans (h5 s hs),h6⟩
theorem yW{l:Nat}(ok:P.Ok)(hlo:lo<=l)(hl:l<σb.length){rest:List V}:∀{done:List V} {T:V->Tabs} {fl:List (V×V)} {loc:Loc} {J:Hp},(done++rest).Nodup->(∀k∈done++rest,k∈bP)->rW B lo sums fo codes P J T fl->vg B lo sums fo J->HH P T->u7 (G T0) (G T)->CQ P fl->
  fl.map (·.1)=bZ (fl0.map (·.1)) (P.full done)->(∀k∈done,HK P T0 T fl k)->loc "codes"=some (.obj codes)->loc "summaries"=some (.obj sums)->loc "found"=some (.obj fo)->σb.length<=J.length->(∀n,n<σb.length->n≠sums->n≠fo->J[n]?=σb[n]?)->
  (∀loc' σ' T' fl',b6 ["key","flow","site"] loc loc'->rW B lo sums fo codes P σ' T' fl'->vg B lo sums fo σ'->HH P T'->u7 (G T0) (G T')->CQ P fl'->fl'.map (·.1)=bZ (fl0.map (·.1)) (P.full (done++rest))->(∀k∈done++rest,HK P T0 T' fl' k)->σb.length<=σ'.length->(∀n,n<σb.length->n≠sums->n≠fo->σ'[n]?=σb[n]?)->QQ .next loc' σ')->
  gh (b8 [l] σb) (.name "key") (ez (aZ a0 (n+9)) ka) rest loc J QQ:=by
 have sd:∀{J:Hp},vg B lo sums fo J->(∀n,n<σb.length->n≠sums->n≠fo->J[n]?=σb[n]?)->b8 [l] σb J:=λy keep m q=>by
  rw [an.mp q];exact keep _ hl (λe=>absurd y.h3 (ci.mpr (e▸hlo))) λe=>absurd y.h4 (ci.mpr (e▸hlo))
 induction rest with
 | nil =>
  intro done T fl loc J nd hm x y iv le fk hk hr hc hs hf hz keep hQ;rw [bn] at hQ;exact ⟨sd y keep,hQ loc J T fl .refl x y iv le fk hk hr hz keep⟩
 | cons k rest ih =>
  intro done T fl loc J nd hm x y iv le fk hk hr hc hs hf hz keep hQ;refine ⟨sd y keep,?_⟩;have hkk:k∈bP:=hm k (bs.mpr (.inr ai));have ag1:b6 ["key","flow","site"] loc (setL loc "key" k):=b6.refl.set ai;have knd:k∉done:=λq=>(cI.mp nd).2.2 k q k ai rfl;refine B1 ok hkk x y (am (fk.len ok) (by decide)) hc hs hf rfl λloc' σ' fl' t F ag x' y' hz' keep' r ht hkeys hget=>?_;have ut:upd T k t k=t:=if_pos rfl;have tr:=iv.turn ok hkk (ut▸x'.only k hkk) r ht;rw [List.append_cons] at nd hm hQ;have ag2:b6 ["key","flow","site"] loc loc':=ag1.trans λz hz=>ag z λq=>hz (aj _ q);refine ih nd hm x' y' tr.1 (le.trans tr.2.1) ⟨hkeys▸nS fk.1,λs hs=>?_⟩ (by rw [hkeys,hk,vN,CT,fy]) (λk' hk'=>?_) (ag2.at (by decide) hc) (ag2.at (by decide) hs) (ag2.at (by decide) hf) (am hz hz') (λm h1 h2 h3=>(keep' m (ak h1 hz) h2 h3).trans (keep m h1 h2 h3)) λloc'' σ'' T' fl'' ag'=>hQ loc'' σ'' T' fl'' (ag2.trans ag')
  ·rw [hkeys] at hs;exact (fM.mp hs).elim (fk.2 s) λq=>(fM.mp q).elim (λq=>(aq q).elim) λq=>List.mem_flatMap.mpr ⟨k,hkk,q⟩
  ·rcases bV.mp hk' with q | rfl
   ·have hne:k'≠k:=λe=>knd (e▸q);exact (hr k' q).le tr.2.1 (if_neg hne) λs hs=>(hget s).trans (if_neg (ok.disj k' (hm k' (bs.mpr (.inl (bs.mpr (.inl q))))) k hkk hne s hs))
   ·exact ⟨T,F,le,tr.2.1,r,λtb v hs=>by rw [ut];exact ht tb v hs,λs hs=>(hget s).trans (if_pos hs),tr.2.2⟩
end
section
variable{M:cZ}{L:FL}{S S' S'':Tabs}{T T' T0:V->Tabs}{nw nw' nw'':Bool}{ms:List V}{lo sums fo codes:Nat}{P:dh}{fl0:List (V×V)}
noncomputable def uW(a:Nat):Tabs:=[(.leaks,a+1,[]),(.kept,a+2,[])]
theorem qm{p:α->Prop}{a b:α}(h1:p a)(h2:p b):∀x∈[a,b],p x:=aP.mpr ⟨h1,aP.mpr ⟨h2,λz_ q=>(aq q).elim⟩⟩
theorem BX{a:Nat}(hlo:lo<=a)(h0:J[a]?=some (.inst "Summary" [("leaks",.obj (a+1)),("kept",.obj (a+2)),("told",.obj (a+3))]))(h1:J[a+1]?=some (.dict [] 0))(h2:J[a+2]?=some (.dict [] 0))(h3:J[a+3]?=some (.dict [] 0)):k8 lo J a (uW a):=by
 have no:∀{x:V} {l:List V},x∈([]:List V)->x∈l:=λq=>(aq q).elim;refine ⟨⟨⟨_,_,_,h0,a8 h0,a8 h3,⟨0,h3⟩,⟨[],ai⟩,⟨[],aj _ ai⟩⟩,qm ⟨a8 h1,0,h1⟩ ⟨a8 h2,0,h2⟩,List.Pairwise.of_map Tb.num (λa b h e=>h (congrArg Tb.num e)) (by decide:[2,3].Nodup),qm List.nodup_nil List.nodup_nil,qm (λz_=>no) λz_=>no⟩,
  qm rfl rfl,ae,hlo,λlk kp td q=>?_,qm (bT hlo) (bT (bT hlo))⟩
 rw [h0] at q;cases q;exact am hlo (aN _ _)
theorem wV{a:Nat}:¬(uW a).fact tb v:=λq=>dE q λb ts h1 h2 =>
 (show ∀p∈uW a,v∉p.2.2 from qm aq aq) _ h1 h2
noncomputable abbrev Dy(a:Nat):Hp:=[.inst "Summary" [("leaks",.obj (a+1)),("kept",.obj (a+2)),("told",.obj (a+3))],.dict [] 0,.dict [] 0,.dict [] 0]
theorem AA(hcB:codes<B)(hB:B<=sums)(h3:sums<lo)(h4:fo<lo)(h5:sums≠fo){rest:List V}:∀{done:List V} {T:V->Tabs} {loc:Loc} {J:Hp},(done++rest).Nodup->(∀k∈done++rest,k∈bP)->(done++rest).length=2->lo<=J.length->(∀n,n<B->J[n]?=σb[n]?)->
  (∃l e,J[sums]?=some (.dict l e)/\l.map (·.1)=done/\∀k∈done,∃s,getD l k=some (.obj s)/\k8 lo J s (T k))->(∀k tb v,¬(T k).fact tb v)->(∃e,J[fo]?=some (.dict [] e))->loc "summaries"=some (.obj sums)->
  (∀loc' σ' (T':V->Tabs),b6 ["key"] loc loc'->lo<=σ'.length->(∀n,n<B->σ'[n]?=σb[n]?)->(∃l e,σ'[sums]?=some (.dict l e)/\l.map (·.1)=done++rest/\∀k∈done++rest,∃s,getD l k=some (.obj s)/\k8 lo σ' s (T' k))->(∀k tb v,¬(T' k).fact tb v)->(∃e,σ'[fo]?=some (.dict [] e))->QQ .next loc' σ')->
  gh (b8 [codes] σb) (.name "key") (ez (aZ a0 (n+1)) m7) rest loc J QQ:=by
 induction rest with
 | nil =>
  intro done T loc J nd hm h3' hz keep hs hT hf hl hQ;rw [bn] at hQ;exact ⟨λm q=>by rw [an.mp q];exact keep _ hcB,hQ loc J T .refl hz keep hs hT hf⟩
 | cons k rest ih =>
  intro done T loc J nd hm h3' hz keep hs hT hf hl hQ;refine ⟨λm q=>by rw [an.mp q];exact keep _ hcB,?_⟩;have hkk:=hm k (bs.mpr (.inr ai));refine cU hs λl e g1 g2 g3=>?_;have knd:k∉done:=λq=>(cI.mp nd).2.2 k q k ai rfl;have hll:l.length<=2:=by
   rw [<-aM (as:=l) (·.1),g2,<-h3',aH];exact aN _ _
  have hsl:=a8 g1;have old:∀m,m<J.length->m≠sums->((J++Dy J.length).set sums (gq l e k (.obj J.length)))[m]?=J[m]?:=λm h1 h2=>(aR (bg h2)).trans (au h1);have hget:getD l k=none:=by
   cases q:getD l k with
   | none=>rfl
   | some v =>
    exact bO (fc q) λi z_ h2=>absurd (g2▸aX.mpr ⟨_,List.mem_of_getElem? h2,rfl⟩) knd
  have at1:((J++Dy J.length).set sums (gq l e k (.obj J.length)))[sums]?=some (gq l e k (.obj J.length)):=bG (aS g1);have atN:∀i,((J++Dy J.length).set sums (gq l e k (.obj J.length)))[J.length+i]?=(Dy J.length)[i]?:=λi=>(aR (aW (ak hsl (aN _ _)))).trans dK;have hz':J.length<=((J++Dy J.length).set sums (gq l e k (.obj J.length))).length:=by rw [bE];exact bS az
  have new:=BX (lo:=lo) hz (atN 0) (atN 1) (atN 2) (atN 3);rw [List.append_cons] at nd hm h3' hQ;refine wX ⟨rfl,aw hl (jt (aS g1) (mM hkk).1 (mM hkk).2 (ax hll (by decide)) ?_)⟩;refine ih (T:=upd T k (uW J.length)) nd hm h3' (am hz hz') (λm hm=>(old m (ak hm (am (am hB (cB h3)) hz)) (λe=>absurd hB (Nat.not_le.mpr (e▸hm)))).trans (keep m hm)) ⟨_,_,at1,by rw [jY hget,List.map_append,g2];rfl,λk' hk'=>?_⟩ (λk' tb v=>?_) (hf.imp λe' q=>(old _ (ak h4 hz) (bg h5)).trans q) hl λloc' σ' T' ag'=>hQ loc' σ' T' ((b6.refl.set ai).trans ag')
  ·rw [lZ];delta upd;by_cases q:k'=k
   ·rw [if_pos q,if_pos q];exact ⟨_,rfl,new⟩
   ·rw [if_neg q,if_neg q];exact (g3 k' ((bV.mp hk').elim id λq'=>absurd q' q)).imp λs q=>⟨q.1,q.2.same hz' λm h1 h2=>old m h2 λe=>absurd h3 (ci.mpr (e▸h1))⟩
  ·delta upd;by_cases q:k'=k
   ·rw [if_pos q];exact wV
   ·rw [if_neg q];exact hT k' tb v
theorem Df:bP.all JZ=true:=rfl
theorem r7{ks:List V}(h:ks.Perm bP):cO ks=true:=by
 delta cO;rw [h.length_eq,xm (λv hv=>h.mem_iff.mp hv) Df,Bool.or_true];rfl
noncomputable def Hy:V->String | .str s=>s | _=>""
theorem qM:bP.Nodup:=List.Pairwise.of_map (S:=(·≠·)) Hy (λa b h e=>h (congrArg Hy e)) (by decide:["f","g"].Nodup)
theorem xV{T0 T:V->Tabs}(ok:P.Ok)(wf0:∀k∈bP,((T0 k).map (·.1)).Nodup/\(∀p∈T0 k,p.2.2.Nodup)/\fb (T0 k))(le:u7 (G T0) (G T))(hZ:Za P T<=Za P T0)(res:∀k∈bP,HK P T0 T fl k) :
  ∃F:V->Facts,cC P F/\(∀C,cC P C->∀k∈bP,∀tb v,F k tb v->C k tb v)/\∀k∈bP,∀s∈P.news k,getD fl s=some (mark (F k) s):=by
 have le':=v6 le λk hk=>(wf0 k hk).2.2;have feq:∀k∈bP,(T k).fact=(T0 k).fact:=λk hk=>pF (wf0 k hk).1 (wf0 k hk).2.1 (le' k hk) (Es (f:=λk=>(T0 k).size) (g:=λk=>(T k).size) (ks:=P.ks) (λk hk=>tj (wf0 k (ok.mem.mp hk)).1 (wf0 k (ok.mem.mp hk)).2.1 (le' k (ok.mem.mp hk))) hZ k (ok.mem.mpr hk));have back:u7 (G T) (G T0):=λk hk tb v z_ q=>by show (T0 k).fact tb v;rw [<-feq k hk];exact q
 have:∀k,∃F,k∈bP->zf (G T) P k F/\(∀tb v,jO tb=true->((T k).fact tb v↔F tb v))/\(∀s∈P.news k,getD fl s=some (mark F s))/\∀C,cC P C->∀tb v,F tb v->C k tb v:=λk=>by
  by_cases hk:k∈bP
  ·exact gu ((res k hk).ex) λTm F h1 h2 h3 h4 h5 h6=>⟨F,λz_=>⟨⟨h3.base,λtb v q=>h3.closed tb v (gn.monoG (ok.ls k hk) (back.trans h1) q),λC c1 c2=>h3.least C c1 λtb v q=>c2 tb v (gn.monoG (ok.ls k hk) h2 q)⟩,h4,h5,h6⟩⟩
  ·exact ⟨λz_ z_=>False,λh=>absurd h hk⟩
 have hF:=λk=>Classical.choose_spec (this k);exact ⟨λk=>Classical.choose (this k),λk hk=>⟨(hF k hk).1.base,λtb v q=>(hF k hk).1.closed tb v (gn.monoG (ok.ls k hk) (λk' hk' tb v hs q=>((hF k' hk').2.1 tb v hs).mpr q) q)⟩,λC hC k hk=>(hF k hk).2.2.2 C hC,λk hk=>(hF k hk).2.2.1⟩
structure I7(P:dh)(T:V->Tabs)(fl:List (V×V))(ah:Int):Prop where
 last:(ah= -1/\fl=[])\/∃T0,(∀k∈bP,((T0 k).map (·.1)).Nodup/\(∀p∈T0 k,p.2.2.Nodup)/\fb (T0 k))/\ah=Za P T0/\u7 (G T0) (G T)/\fl.map (·.1)=bZ [] (P.full (cT P.ks))/\∀k∈bP,HK P T0 T fl k
theorem Dx{a b:Int}{r:Bool}{Q:Bool->Prop}(h:decide (a=b)=r)(q:Q (!r)):dn (jL .ne J (.int a) (.int b)) Q:=aw (a:= !r) (by rw [<-h];rfl) q
theorem EY{f:V->Nat}(ok:P.Ok)(h:∀k∈bP,f k<=600):(P.ks.map f).sum<=1800:=by
 refine am (uX (g:=λz_=>600) λk hk=>h k (ok.mem.mp hk)) ?_;rw [List.map_const',ok.len];exact ae
theorem tT{sums:Nat}{QQ:KS}(ok:P.Ok)(hsl:J.length=sums){m:Nat}:∀{T:V->Tabs} {fl:List (V×V)} {loc:Loc} {σ2:Hp} {ah:Int},rW J.length (sums+2) sums (sums+1) codes P σ2 T fl->vg J.length (sums+2) sums (sums+1) σ2->(∀m,m<J.length->σ2[m]?=J[m]?)->HH P T->CQ P fl->
   loc "codes"=some (.obj codes)->loc "summaries"=some (.obj sums)->loc "found"=some (.obj (sums+1))->loc "ahead"=some (.int ah)->I7 P T fl ah->
   2*(1801-Za P T)+(if ah=Za P T then 0 else 1)<m->
   (∀loc' σ' fl e (F:V->Facts),loc' "found"=some (.obj (sums+1))->J.length<=σ'.length->(∀m,m<J.length->σ'[m]?=J[m]?)->σ'[sums+1]?=some (.dict fl e)->fl.map (·.1)=bZ [] (P.full (cT P.ks))->cC P F->(∀C,cC P C->∀k∈bP,∀tb v,F k tb v->C k tb v)->(∀k∈bP,∀s∈P.news k,getD fl s=some (mark (F k) s))->QQ .next loc' σ')->
   jB (u3 (aZ a0 (n+9)) m9) (ez (aZ a0 (n+9)) m8) m loc σ2 QQ:=by
 induction m with
 | zero=>intro T fl loc σ2 ah _ _ _ _ _ _ _ _ _ _ hm;exact absurd hm (Nat.not_lt_zero _)
 | succ m ih =>
  intro T fl loc σ2 ah x y keep iv fk hc hs hf ha last hm hQ;have below:∀{σ3 σ4:Hp},vg J.length (sums+2) sums (sums+1) σ3->(∀m,m<J.length->σ3[m]?=J[m]?)->σ3 <+:σ4->∀m,m<J.length->σ4[m]?=J[m]?:=λy k p m hm=>by
   refine xe p λτ w=>?_;subst w;exact (au (ak hm (am y.h1 (am (cB y.h3) y.h6)))).trans (k m hm)
  refine aw ha ?_;dsimp only [IY,k2];refine rJ (n:=n+8) ok y x hc hs λσ3 p3=>?_;have x3:=x.ext y p3;have y3:vg J.length (sums+2) sums (sums+1) σ3:=y.le (bS p3);have keep3:=below y keep p3;have wfT:=x.wf;by_cases q:ah=Za P T
  ·refine Dx (bp q) (Or.elim last.last (λz=>xa z λe1 z_=>?_) (λu=>oz u λT0 wf0 hah le t=>xa t λhk res=>?_))
   ·exact absurd (e1.symm.trans q) JG
   exact cG (xV ok wf0 le (Nat.le_of_eq (Int.ofNat.inj (q.symm.trans hah))) res) λF f1 f2 f3=>xe x3.fd λfe hfe=>hQ loc σ3 fl fe F hf (am y3.h1 (am (cB y3.h3) y3.h6)) keep3 hfe hk f1 f2 f3
  ·refine Dx (decide_eq_false q) ?_;dsimp only [kB,KO,Bool.not_false];refine tJ (rJ (n:=n+8) ok y3 x3 hc hs λσ4 p4=>?_);have x4:=x3.ext y3 p4;have y4:vg J.length (sums+2) sums (sums+1) σ4:=y3.le (bS p4);have keep4:=below y3 keep3 p4;refine xe x4.cd.d λce4 hce4=>?_;have sp:=mR P.ks;refine aw hc (j3 (l:=P.ks) ((uj hce4).trans (congrArg some ug)) (r7 ok.perm) (aw (ch aF) (yW (n:=n) (T0:=T) (fl0:=fl) (done:=[]) ok y4.h6 (a8 aF) (sp.nodup_iff.mpr (ok.perm.nodup_iff.mpr qM)) (λk hk=>ok.mem.mp (sp.mem_iff.mp hk)) (x4.ext y4 az) (y4.le (bS az)) iv .refl fk rfl (λk hk=>(aq hk).elim) hc hs hf (ay _) (λz_ z_ z_ z_=>rfl) λloc' σ5 T' fl' ag5 x5 y5 iv5 le5 fk5 hk5 res5 hz5 keep5=>?_)));have hkeys:fl'.map (·.1)=bZ [] (P.full (cT P.ks)):=by
    rw [hk5];rcases last.last with ⟨_,rfl⟩ | ⟨T0,_,_,_,hk,_⟩
    ·rfl
    ·rw [hk];exact nc
   have hZm:Za P T<=Za P T':=uX (ks:=P.ks) λk hk=>tj (wfT k (ok.mem.mp hk)).1 (wfT k (ok.mem.mp hk)).2.1 (v6 le5 (λk hk=>(wfT k hk).2.2.1) k (ok.mem.mp hk));have hZb:Za P T'<=1800:=EY ok λk hk=>(x5.wf k hk).2.2.2;rw [if_neg q] at hm;have hm':2*(1801-Za P T')+(if (Za P T:Int)=Za P T' then 0 else 1)<m:=lz hm hZm hZb;have s4:J.length<σ4.length:=ax y4.h1 (ak y4.h3 y4.h6);refine ih x5 y5 (λm hm=>(keep5 m (ak (aQ hm s4) (bS az)) (λe=>JC hsl hm e) (λe=>Kp hsl hm e)).trans ((au (aQ hm s4)).trans (keep4 m hm))) iv5 fk5 (ag5.at (by decide) hc) (ag5.at (by decide) hs) (ag5.at (by decide) hf) (ag5.at (by decide) rfl) ⟨.inr ⟨T,λk hk=>⟨(wfT k hk).1,(wfT k hk).2.1,(wfT k hk).2.2.1⟩,rfl,le5,hkeys,λk hk=>res5 k (sp.mem_iff.mpr (ok.mem.mpr hk))⟩⟩ hm' hQ
theorem ny(ok:P.Ok)(cd:gN J.length J codes P)
  (hQ:∀fo σ' fl e (F:V->Facts),J.length<=σ'.length->(∀m,m<J.length->σ'[m]?=J[m]?)->J.length<=fo->σ'[fo]?=some (.dict fl e)->fl.map (·.1)=bZ [] (P.full (cT P.ks))->cC P F->(∀C,cC P C->∀k∈bP,∀tb v,F k tb v->C k tb v)->(∀k∈bP,∀s∈P.news k,getD fl s=some (mark (F k) s))->Q (.obj fo) σ') :
  aZ a0 (n+10) ("","escapes") [.obj codes] J Q:=by
 refine xe cd.d λce hce=>?_;have hle:(J++[gc [] [] 0]).length=J.length+1:=fh;refine bq (d:=sq) rfl ae ae ⟨λp hp=>eT hp,ae,⟨λp hp=>eT hp,ae,aw (fj (aS (aS hce))) ?_⟩⟩;rw [ug,hle];refine AA (n:=n+8) (B:=J.length) (lo:=J.length+2) (sums:=J.length) (fo:=J.length+1) (done:=[]) (T:=λz_=>[]) cd.lt (ay _) (Nat.lt_add_of_pos_right (by decide)) (bX _) (aW (bX _)) (ok.perm.nodup_iff.mpr qM) (λk hk=>ok.mem.mp hk) ok.len (by rw [bi,fh];exact ay _) (λz_ z_=>rfl) ⟨[],0,by rw [bi];exact iS,rfl,λk hk=>(aq hk).elim⟩ (λk tb v w=>dE w λz_ z_ h z_=>(aq h).elim) ⟨0,by rw [<-hle];exact aF⟩ rfl λloc1 σ1 T1 ag1 hz1 keep1 hsd1 hT1 hfd1=>?_;have keep1':∀m,m<J.length->σ1[m]?=J[m]?:=λm hm=>(keep1 m hm).trans (by rw [bi,au hm]);refine cU hsd1 λl1 le1 p1 p2 p3=>?_;have y1:vg J.length (J.length+2) J.length (J.length+1) σ1:=⟨ay _,Nat.le_succ _,Nat.lt_add_of_pos_right (by decide),bX _,aW (bX _),hz1⟩
 have x1:rW J.length (J.length+2) J.length (J.length+1) codes P σ1 T1 []:=⟨cd.same keep1',⟨l1,le1,p1,by rw [<-aM (as:=l1) (·.1),p2];exact am (Nat.le_of_eq ok.len) ae,p2,λk hk=>p3 k (ok.mem.mpr hk)⟩,hfd1⟩
 have iv1:HH P T1:=⟨x1.only,λk hk C z_ z_ tb v q=>absurd q (hT1 k tb v),λC z_ k hk tb v q=>absurd q (hT1 k tb v)⟩
 refine ⟨5000,tT (n:=n) (ah:= -1) ok rfl x1 y1 keep1' iv1 ⟨List.nodup_nil,λs hs=>(aq hs).elim⟩ (ag1.at (by decide) rfl) (ag1.at (by decide) rfl) (ag1.at (by decide) rfl) (ag1.at (by decide) rfl) ⟨.inl ⟨rfl,rfl⟩⟩ ?_ λloc' σ' fl e F h1 h2 h3 h4 h5 h6 h7 h8=>?_⟩
 ·split<;>exact ax (bQ (Nat.mul_le_mul_left 2 (Nat.sub_le 1801 _)) _) (by decide)
 ·exact aw h1 (hQ _ σ' fl e F h2 h3 (Nat.le_succ _) h4 h5 h6 h7 h8)
end
section
noncomputable abbrev SetI:=Int->Prop
noncomputable abbrev aV(o:Int):V:=.tup [.str "at",.int o,.int 0]
noncomputable def dk(v:V):SetI:=λo=>v=aV o\/∃l,v=.tup l/\aV o∈l
noncomputable abbrev Cells:=Int->Option (List V)
noncomputable def cont(H:Cells)(o p:Int):Prop:=∃l,H o=some l/\∃v∈l,dk v p
noncomputable def u6(G0:SetI)(m0:Int)(G:SetI):Prop:=(∀o,G0 o->G o)/\∀o,G o->G0 o\/m0<o
theorem u6.refl{G0:SetI}{m0:Int}:u6 G0 m0 G0:=⟨λz_=>id,λz_=>.inl⟩
theorem u6.trans{G0 G G':SetI}{m0 m:Int}(x:u6 G0 m0 G)(y:u6 G m G')(h:m0<=m):u6 G0 m0 G' :=
 ⟨λo q=>y.1 o (x.1 o q),λo q=>(y.2 o q).elim (x.2 o) λq=>.inr (Int.lt_of_le_of_lt h q)⟩
structure Cx(O:V->SetI->SetI)(Own:SetI)(cap:Int->SetI->SetI)(F:Facts)(G0:SetI)(m0:Int):Prop where
 neg:∀G o,O (.int (-1)) G o↔G o
 monoO:∀x G G',(∀o,G o->G' o)->∀o,O x G o->O x G' o
 monoC:∀x G G',(∀o,G o->G' o)->∀o,cap x G o->cap x G' o
 sub:∀G,u6 G0 m0 G->∀x o,O x G o->G o\/Own o
 capsub:∀G,u6 G0 m0 G->∀o,Own o->∀p,cap o G p->G p\/Own p
 disj:∀o,Own o->¬G0 o/\o<=m0
 cl1:∀G,u6 G0 m0 G->∀x o p,O x G o->Own o->cap o G p->O x G p
 cl2:∀G,u6 G0 m0 G->∀x o,O x G o->G o->∀p,G p->O x G p
 lk:∀G,u6 G0 m0 G->∀x,F .leaks x->∀o,O x G o->G o
 kp:∀G,u6 G0 m0 G->∀x i,F .kept (.tup [x,i])->∀o,O i G o->(G o->∀p,O x G p->G p)/\(Own o->∀p,O x G p->cap o G p)
theorem Cx.notG{O:V->SetI->SetI}{Own:SetI}{cap:Int->SetI->SetI}{G0 G:SetI}{m0:Int}(c:Cx O Own cap F G0 m0)(e:u6 G0 m0 G)(h:Own o):¬G o:=λq =>
 (e.2 o q).elim (c.disj o h).1 λq=>absurd (c.disj o h).2 (Int.not_le.mpr q)
noncomputable def Jq(O:V->SetI->SetI)(mk:V->SetI)(G:SetI)(t:V):SetI:=λo=>(t=tB/\G o)\/(∃i,t=tO i/\O i G o)\/(∃s,t=tS s/\mk s o)
noncomputable def dN(O:V->SetI->SetI)(mk:V->SetI)(G:SetI)(T:V->Prop):SetI:=λo=>∃t,T t/\Jq O mk G t o
structure Fs(F:Facts)(G0:SetI)(m0:Int)(G:SetI)(m:Int)(mk:V->SetI):Prop where
 ext:u6 G0 m0 G
 le:m0<=m
 m1:∀s o,mk s o->F .gone s->G o
 m2:∀s o,mk s o->¬F .gone s->¬G o
 m3:∀s s' o,mk s o->mk s' o->s=s'
 m4:∀s o,mk s o->m0<o/\o<=m
structure Fi(O:V->SetI->SetI)(Own:SetI)(cap:Int->SetI->SetI)(F:Facts)(G0:SetI)(m0:Int)(G:SetI)(m:Int)(H:Cells)(mk:V->SetI):Prop where
 st:Fs F G0 m0 G m mk
 g1:∀o,G o->∀p,cont H o p->G p
 g2:∀o,Own o->∀p,cont H o p->cap o G p
 g3:∀s o,mk s o->¬F .gone s->∀p,cont H o p->dN O mk G (F (.inside s)) p
 gm:∀o,G o->o<=m
variable{O:V->SetI->SetI}{Own:SetI}{cap:Int->SetI->SetI}{G0 G:SetI}{m0 m:Int}{H:Cells}{mk:V->SetI}{T T':V->Prop}
theorem dN.mono{T T':V->Prop}(h:∀t,T t->T' t)(q:dN O mk G T o):dN O mk G T' o:=let ⟨t,q1,q2⟩:=q;⟨t,h t q1,q2⟩
theorem Jq.up(c:Cx O Own cap F G0 m0){G':SetI}(hg:∀o,G o->G' o){mk':V->SetI}(hm:∀s o,mk s o->mk' s o){t:V}(q:Jq O mk G t o):Jq O mk' G' t o :=
 q.imp (λq=>⟨q.1,hg o q.2⟩) λq=>q.imp (λ⟨i,e,q⟩=>⟨i,e,c.monoO i G G' hg o q⟩) λ⟨s,e,q⟩=>⟨s,e,hm s o q⟩
theorem dN.up(c:Cx O Own cap F G0 m0){G':SetI}(hg:∀o,G o->G' o){mk':V->SetI}(hm:∀s o,mk s o->mk' s o){o:Int}(q:dN O mk G T o):dN O mk' G' T o:=let ⟨t,q1,q2⟩:=q;⟨t,q1,q2.up c hg hm⟩
theorem Jr:Jq O mk G tB o↔G o:=⟨λq=>q.elim And.right λq=>q.elim (λw=>bO w λz_ e z_=>absurd e o8) λx=>bO x λz_ e z_=>absurd e il,λq=>.inl ⟨rfl,q⟩⟩
theorem Fs.where'(c:Cx O Own cap F G0 m0)(f:Fs F G0 m0 G m mk)(q:dN O mk G T o):G o\/Own o\/∃s,mk s o/\¬F .gone s:=by
 obtain ⟨t,_,q | ⟨i,_,q⟩ | ⟨s,_,q⟩⟩:=q
 ·exact .inl q.2
 ·exact (c.sub G f.ext i o q).imp id .inl
 ·by_cases hg:F .gone s
  ·exact .inl (f.m1 s o q hg)
  ·exact .inr (.inr ⟨s,q,hg⟩)
theorem Fs.mkOwn(c:Cx O Own cap F G0 m0)(f:Fs F G0 m0 G m mk){s:V}(q:mk s o):¬Own o:=λh=>absurd (c.disj o h).2 (Int.not_le.mpr (f.m4 s o q).1)
theorem pO(c:Cx O Own cap F G0 m0)(f:Fs F G0 m0 G m mk)(h:∀tb v,fA T F tb v->F tb v)(q:dN O mk G T o):G o:=by
 obtain ⟨t,ht,q | ⟨i,e,q⟩ | ⟨s,e,q⟩⟩:=q
 ·exact q.2
 ·exact c.lk G f.ext i (h _ _ ⟨t,⟨t,ht,.refl⟩,.inr ⟨rfl,e⟩⟩) o q
 ·exact f.m1 s o q (h _ _ ⟨t,⟨t,ht,.refl⟩,.inl ⟨rfl,e⟩⟩)
theorem FJ(c:Cx O Own cap F G0 m0)(f:Fs F G0 m0 G m mk){j:V}(h:∀tb v,mf j T F tb v->F tb v){p:Int}(q:dN O mk G T p):∃x,F .kept (.tup [x,j])/\O x G p:=by
 obtain ⟨t,ht,q | ⟨i,e,q⟩ | ⟨s,e,q⟩⟩:=q
 ·obtain ⟨rfl,q⟩:=q;exact ⟨lK tB,h .kept _ ⟨_,⟨_,ht,.refl⟩,.inr ⟨rfl,rfl⟩⟩,(c.neg G p).mpr q⟩
 ·subst e;refine ⟨lK (tO i),h .kept _ ⟨_,⟨_,ht,.refl⟩,.inr ⟨rfl,rfl⟩⟩,?_⟩;rw [uH];exact q
 ·subst e;refine ⟨lK (tS s),h .kept _ ⟨_,⟨_,ht,.refl⟩,.inr ⟨rfl,rfl⟩⟩,?_⟩;rw [uI,c.neg];exact f.m1 s p q (h _ _ ⟨_,⟨_,ht,.refl⟩,.inl ⟨⟨s,rfl⟩,⟨_,⟨_,rfl,.refl⟩,.inl ⟨rfl,rfl⟩⟩⟩⟩)
theorem yE(c:Cx O Own cap F G0 m0)(f:Fs F G0 m0 G m mk)(h:∀tb v,eW T T' F tb v->F tb v){p:Int}(q:dN O mk G T o)(q':dN O mk G T' p) :
  (G o->G p)/\(Own o->cap o G p)/\∀s,mk s o->¬F .gone s->dN O mk G (F (.inside s)) p:=by
 obtain ⟨t,ht,e | ⟨i,e,q⟩ | ⟨s,e,q⟩⟩:=q
 ·refine xa e λw hG=>?_;subst w;have hp:G p:=pO c f (λtb v l=>h tb v ⟨tB,ht,.inl ⟨rfl,l⟩⟩) q';exact ⟨λz_=>hp,λho=>absurd hG (c.notG f.ext ho),λs hs hg=>absurd hG (f.m2 s o hs hg)⟩
 ·subst e;exact bO (FJ c f (λtb v l=>h tb v ⟨_,ht,.inr (.inl ⟨i,rfl,l⟩)⟩) q') λx h1 h2=>xa (c.kp G f.ext x i h1 o q) λk1 k2=>⟨λhG=>k1 hG p h2,λho=>k2 ho p h2,λs hs hg=>(c.sub G f.ext i o q).elim (λhG=>absurd hG (f.m2 s o hs hg)) λho=>absurd ho (f.mkOwn c hs)⟩
 ·subst e;refine ⟨λhG=>?_,λho=>absurd ho (f.mkOwn c q),λs' hs hg=>?_⟩
  ·by_cases hg:F .gone s
   ·exact pO c f (λtb v l=>h tb v ⟨_,ht,.inr (.inr ⟨s,rfl,.inr ⟨hg,l⟩⟩)⟩) q'
   ·exact absurd hG (f.m2 s o q hg)
  ·have:=f.m3 _ _ _ hs q;subst this;exact q'.mono λt ht'=>h _ _ ⟨_,ht,.inr (.inr ⟨s',rfl,.inl ⟨rfl,ht'⟩⟩)⟩
theorem nN(c:Cx O Own cap F G0 m0)(f:Fi O Own cap F G0 m0 G m H mk){p:Int}(q:dN O mk G T o)(hc:cont H o p):dN O mk G (λu=>∃t,T t/\Ld F t u) p:=by
 obtain ⟨t,ht,e | ⟨i,e,q⟩ | ⟨s,e,q⟩⟩:=q
 ·refine xa e λw hG=>?_;subst w;exact ⟨tB,⟨tB,ht,.inr ⟨λs=>il,.inl rfl⟩⟩,.inl ⟨rfl,f.g1 o hG p hc⟩⟩
 ·subst e;refine ⟨tO i,⟨tO i,ht,.inr ⟨λs=>ju,.inl rfl⟩⟩,.inr (.inl ⟨i,rfl,?_⟩)⟩;refine Or.elim (c.sub G f.st.ext i o q) (λhG=>?_) (λho=>?_)
  ·exact c.cl2 G f.st.ext i o q hG p (f.g1 o hG p hc)
  ·exact c.cl1 G f.st.ext i o p q ho (f.g2 o ho p hc)
 ·subst e;by_cases hg:F .gone s
  ·exact ⟨tB,⟨_,ht,.inl ⟨s,rfl,.inr ⟨hg,rfl⟩⟩⟩,.inl ⟨rfl,f.g1 o (f.st.m1 s o q hg) p hc⟩⟩
  ·exact (f.g3 s o q hg p hc).mono λt ht'=>⟨_,ht,.inl ⟨s,rfl,.inl ht'⟩⟩
noncomputable def O'(O:V->SetI->SetI)(mk:V->SetI)(F:Facts)(a b:V):V->SetI->SetI:=λx G=>dN O mk G (za F a b x)
noncomputable def EV(Own:SetI)(mk:V->SetI)(F:Facts):SetI:=λo=>Own o\/∃s,mk s o/\¬F .gone s
noncomputable def Jf(O:V->SetI->SetI)(Own:SetI)(cap:Int->SetI->SetI)(mk:V->SetI)(F:Facts):Int->SetI->SetI:=λo G p=>(Own o/\cap o G p)\/∃s,mk s o/\dN O mk G (F (.inside s)) p
theorem sM{x t u:V}(h:za F a b x t)(l:Ld F t u):za F a b x u:=by
 rcases h with ⟨e,t0,q1,q2⟩ | ⟨e,t0,q1,q2⟩ | ⟨e,rfl⟩
 ·exact .inl ⟨e,t0,q1,q2.tail l⟩
 ·exact .inr (.inl ⟨e,t0,q1,q2.tail l⟩)
 ·rcases l with ⟨s,e',_⟩ | ⟨_,e' | ⟨i,o,e',_⟩⟩
  ·exact absurd e' il
  ·exact .inr (.inr ⟨e,e'⟩)
  ·exact absurd e' o8
theorem Fs.later(f:Fs F G0 m0 G m mk){G':SetI}(e:u6 G m G'):Fs F G0 m0 G' m mk :=
 ⟨f.ext.trans e f.le,f.le,λs o h1 h2=>e.1 o (f.m1 s o h1 h2),λs o h1 h2 h3=>(e.2 o h3).elim (f.m2 s o h1 h2) λq=>absurd (f.m4 s o h1).2 (Int.not_le.mpr q),f.m3,f.m4⟩
theorem Ab(c:Cx O Own cap F G0 m0)(f:Fs F G0 m0 G m mk){F':Facts}{d1 d2:V}(hcl:∀tb v,gf F' a b d1 d2 F tb v->F tb v):Cx (O' O mk F a b) (EV Own mk F) (Jf O Own cap mk F) F' G m:=by
 have sub:∀{G'},u6 G m G'->∀{T o},dN O mk G' T o->G' o\/EV Own mk F o:=λ{G'} e {T o} q=>(f.later e).where' c q;refine ⟨λG' o=>?_,λx G1 G2 h o q=>q.up c h λz_ z_=>id,λx G1 G2 h o q=>?_,λG' e x o q=>sub e q,λG' e o ho p q=>?_,λo ho=>?_,λG' e x o p q ho hc=>?_,λG' e x o q hG p hp=>?_,λG' e x hl o q=>?_,λG' e x i hk o q=>⟨λhG p hp=>?_,λho p hp=>?_⟩⟩
 ·constructor
  ·rintro ⟨t,⟨h,_⟩ | ⟨h,_⟩ | ⟨_,rfl⟩,q⟩
   ·cases h
   ·cases h
   ·exact Jr.mp q
  ·exact λq=>⟨tB,.inr (.inr ⟨rfl,rfl⟩),.inl ⟨rfl,q⟩⟩
 ·refine Or.elim q (λw=>xa w λh1 h2=>?_) (λy=>bO y λs h1 h2=>?_)
  ·exact .inl ⟨h1,c.monoC x G1 G2 h o h2⟩
  ·exact .inr ⟨s,h1,h2.up c h λz_ z_=>id⟩
 ·refine Or.elim q (λz=>xa z λh1 h2=>?_) (λr=>bO r λs h1 h2=>?_)
  ·exact (c.capsub G' (f.later e).ext o h1 p h2).imp id .inl
  ·exact sub e h2
 ·refine Or.elim ho (λho=>?_) (λn=>bO n λs h1 h2=>?_)
  ·exact ⟨c.notG f.ext ho,Int.le_trans (c.disj o ho).2 f.le⟩
  ·exact ⟨f.m2 s o h1 h2,(f.m4 s o h1).2⟩
 ·
  refine bO q λt ht q'=>?_;have nG:¬G' o:=by
   refine Or.elim ho (λho=>?_) (λk=>bO k λs h1 h2=>?_)
   ·exact c.notG (f.later e).ext ho
   ·exact (f.later e).m2 s o h1 h2
  rcases q' with ⟨rfl,hG⟩ | ⟨i,rfl,q⟩ | ⟨s,rfl,q⟩
  ·exact absurd hG nG
  ·refine Or.elim (c.sub G' (f.later e).ext i o q) (λh=>?_) (λho'=>?_)
   ·exact absurd h nG
   ·refine Or.elim hc (λj=>xa j λz_ h2=>?_) (λg=>bO g λs h1 z_=>?_)
    ·exact ⟨tO i,ht,.inr (.inl ⟨i,rfl,c.cl1 G' (f.later e).ext i o p q ho' h2⟩)⟩
    ·exact absurd ho' (f.mkOwn c h1)
  ·refine Or.elim hc (λd=>xa d λh1 z_=>?_) (λQ=>bO Q λs' h1 h2=>?_)
   ·exact absurd h1 (f.mkOwn c q)
   ·have:=f.m3 _ _ _ h1 q;subst this;exact h2.mono λu hu=>sM ht (.inl ⟨s',rfl,.inl hu⟩)
 ·refine bO q λt ht q'=>?_;rcases q' with ⟨rfl,_⟩ | ⟨i,rfl,q⟩ | ⟨s,rfl,q⟩
  ·exact ⟨tB,ht,.inl ⟨rfl,hp⟩⟩
  ·exact ⟨tO i,ht,.inr (.inl ⟨i,rfl,c.cl2 G' (f.later e).ext i o q hG p hp⟩)⟩
  ·by_cases hg:F .gone s
   ·exact ⟨tB,sM ht (.inl ⟨s,rfl,.inr ⟨hg,rfl⟩⟩),.inl ⟨rfl,hp⟩⟩
   ·exact absurd hG ((f.later e).m2 s o q hg)
 ·exact pO c (f.later e) (λtb v l=>hcl tb v (.inl ⟨x,hl,l⟩)) q
 ·exact (yE c (f.later e) (λtb v l=>hcl tb v (.inr (.inl ⟨x,i,hk,l⟩))) q hp).1 hG
 ·have:=yE c (f.later e) (λtb v l=>hcl tb v (.inr (.inl ⟨x,i,hk,l⟩))) q hp;refine Or.elim ho (λho=>?_) (λW=>bO W λs h1 h2=>?_)
  ·exact .inl ⟨ho,this.2.1 ho⟩
  ·exact .inr ⟨s,h1,this.2.2 s h1 h2⟩
theorem CI{G0:SetI}{m0:Int}:Cx (λz_ G=>G) (λz_=>False) (λz_ z_ z_=>False) F G0 m0 :=
 ⟨λz_ z_=>Iff.rfl,λz_ z_ z_ h=>h,λz_ z_ z_ z_ z_ h=>h,λz_ z_ z_ z_ h=>.inl h,λz_ z_ z_ h=>h.elim,λz_ h=>h.elim,λz_ z_ z_ z_ z_ z_ h=>h.elim,λz_ z_ z_ z_ z_ z_ z_ h=>h,λz_ z_ z_ z_ z_ h=>h,λz_ z_ z_ z_ z_ z_ z_=>⟨λz_ z_ h=>h,λh=>h.elim⟩⟩
end
variable{cap:Int->SetI->SetI}{O:V->SetI->SetI}
noncomputable def gw(v:V):Prop:=v=.none\/∃o,v=aV o
noncomputable def u8(v:V):Prop:=gw v\/∃a b,v=.tup [a,b]/\gw a/\gw b
theorem gw.dat{v:V}(h:gw v):v.dat=true/\v.dep<=1:=by
 rcases h with rfl | ⟨o,rfl⟩<;>exact ⟨rfl,ae⟩
theorem u8.dat{v:V}(h:u8 v):v.dat=true/\v.dep<=2:=by
 rcases h with h | ⟨a,b,rfl,ha,hb⟩
 ·exact ⟨h.dat.1,am h.dat.2 (by decide)⟩
 ·refine ⟨?_,?_⟩
  ·show (a.dat&&(b.dat&&true))=true;rw [ha.dat.1,hb.dat.1];rfl
  ·show max a.dep (max b.dep 0)+1<=2;exact Nat.succ_le_succ (Nat.max_le.mpr ⟨ha.dat.2,Nat.max_le.mpr ⟨hb.dat.2,aC _⟩⟩)
noncomputable abbrev Dm:=List (Int×Nat×List V)
noncomputable def Dm.d(D:Dm):List (V×V):=D.map λp=>(V.int p.1,V.obj p.2.1)
noncomputable def Dm.cells(D:Dm):Cells:=λo=>(D.find? λp=>p.1==o).map λp=>p.2.2
structure p9(D:Dm)(hd c:Nat)(J:Hp):Prop where
 d:∃e,J[hd]?=some (.dict D.d e)
 a:∀p∈D,J[p.2.1]?=some (.list p.2.2)/\p.2.2.length<=c/\∀v∈p.2.2,gw v
theorem Dm.get{D:Dm}:(∃p∈D,p.1=o/\getD D.d (.int o)=some (.obj p.2.1)/\D.cells o=some p.2.2)\/(getD D.d (.int o)=none/\D.cells o=none):=by
 induction D with
 | nil=>exact .inr ⟨rfl,rfl⟩
 | cons p r ih =>
  have e1:getD (Dm.d (p::r)) (.int o)=if V.int p.1=V.int o then some (.obj p.2.1) else getD (Dm.d r) (.int o):=dX
  have e2:Dm.cells (p::r) o=if p.1=o then some p.2.2 else Dm.cells r o:=by
   unfold Dm.cells;rw [List.find?_cons];by_cases h:p.1=o
   ·rw [if_pos h,beq_iff_eq.mpr h];rfl
   ·rw [if_neg h,beq_eq_false_iff_ne.mpr h]
  by_cases h:p.1=o
  ·exact .inl ⟨p,ai,h,e1.trans (if_pos (h▸rfl)),e2.trans (if_pos h)⟩
  ·have hn:V.int p.1≠V.int o:=λq=>h (V.int.inj q);rw [e1,e2,if_neg hn,if_neg h];exact ih.imp (λ⟨q,h1,h2⟩=>⟨q,aj _ h1,h2⟩) id
theorem p9.ext{D:Dm}{hd:Nat}(x:p9 D hd c J)(p:J <+:σ'):p9 D hd c σ' :=
 ⟨let ⟨e,q⟩:=x.d;⟨e,bR p q⟩,λq hq=>⟨bR p (x.a q hq).1,(x.a q hq).2⟩⟩
noncomputable def wt:V->Nat
 | .none=>1
 | .tup [_,_]=>6
 | _=>2
noncomputable def xj(l:List V):Nat:=(l.map wt).sum
theorem rS(h:gw v):1<=wt v/\wt v<=2:=by
 rcases h with rfl | ⟨o,rfl⟩<;>exact ⟨ae,ae⟩
theorem EN(h:u8 v):1<=wt v/\wt v<=6:=by
 rcases h with h | ⟨a,b,rfl,_,_⟩
 ·exact ⟨(rS h).1,am (rS h).2 (by decide)⟩
 ·exact ⟨ae,ay _⟩
noncomputable def hV(D:Dm)(fs:List V):Nat:=(D.filter λp=>decide (V.int p.1∉fs)).length
theorem kJ{p:Int×Nat×List V}{r:Dm}:hV (p::r) fs=if V.int p.1∈fs then hV r fs else hV r fs+1:=by
 delta hV;by_cases h:V.int p.1∈fs
 ·rw [if_pos h,List.filter_cons_of_neg (p:=λp:Int×Nat×List V=>decide (V.int p.1∉fs)) (λq=>aB q h)]
 ·rw [if_neg h,List.filter_cons_of_pos (p:=λp:Int×Nat×List V=>decide (V.int p.1∉fs)) (bp h)];rfl
theorem xh{D:Dm}:hV D (fs++[k])<=hV D fs:=by
 induction D with
 | nil=>exact ay _
 | cons p r ih =>
  rw [kJ,kJ];by_cases h1:V.int p.1∈fs
  ·rw [if_pos (bV.mpr (.inl h1)),if_pos h1];exact ih
  ·rw [if_neg h1];by_cases h2:V.int p.1=k
   ·rw [if_pos (bV.mpr (.inr h2))];exact bT ih
   ·rw [if_neg λq=>(bV.mp q).elim h1 h2];exact Nat.succ_le_succ ih
theorem EI{D:Dm}{p:Int×Nat×List V}(hm:p∈D)(hk:V.int p.1∉fs):hV D (fs++[.int p.1])<hV D fs:=by
 induction D with
 | nil=>cases hm
 | cons q r ih =>
  rw [kJ,kJ];rcases aO.mp hm with rfl | hm
  ·rw [if_pos (bV.mpr (.inr rfl)),if_neg hk];exact Nat.lt_succ_of_le xh
  ·by_cases h1:V.int q.1∈fs
   ·rw [if_pos (bV.mpr (.inl h1)),if_pos h1];exact ih hm
   ·rw [if_neg h1];by_cases h2:V.int q.1=.int p.1
    ·rw [if_pos (bV.mpr (.inr h2))];exact Nat.lt_succ_of_lt (ih hm)
    ·rw [if_neg λq=>(bV.mp q).elim h1 h2];exact Nat.succ_lt_succ (ih hm)
noncomputable def kR(codes fo hd:Nat)(m f:Int)(safe:Bool):List (V×V):=[(.str "codes",.obj codes),(.str "told",.obj fo),(.str "held",.obj hd),(.str "made",.int m),(.str "fuel",.int f),(.str "safe",.bool safe)]
theorem dF{bk:Nat}{l:List (V×V)}{k:String}{w:V}{e:Nat}{Q:V->Prop}(h:J[bk]?=some (.dict l e))(h2:getD l (.str k)=some w)(q:Q w):dn (jT J (.obj bk) (.str k)) Q:=jS h rfl (aC _) h2 q
theorem mU{a b:List V}:xj (a++b)=xj a+xj b:=by unfold xj;rw [List.map_append,List.sum_append]
theorem z3(h:∀v∈l,u8 v):l.length<=xj l:=by
 induction l with
 | nil=>exact aC _
 | cons x r ih =>
  show r.length+1<=wt x+xj r;rw [Nat.add_comm];exact Nat.add_le_add (EN (h x ai)).1 (ih λy hy=>h y (aj _ hy))
theorem ox(h:∀v∈l,u8 v):V.dats l=true/\V.deps l<=6:=by
 refine ⟨V.dats_iff.mpr λv q=>(h v q).dat.1,?_⟩
 induction l with
 | nil=>exact aC _
 | cons x r ih=>exact Nat.max_le.mpr ⟨am (h x ai).dat.2 (by decide),ih λy hy=>h y (aj _ hy)⟩
theorem iT{x:V}(h:J[n]?=some (.list l))(hx:x.dat=true)(hd:x.dep<=6)(hl:V.dats l=true)(hl2:V.deps l<=6):C2 J x (.obj n)=some (decide (x∈l)):=by
 have e:(l.any λy=>V.deq y x)=decide (x∈l):=by
  rw [Bool.eq_iff_iff,List.any_eq_true,decide_eq_true_eq];exact ⟨λw=>bO w λy q1 q2=>V.deq_iff.mp q2▸q1,λq=>⟨_,q,V.deq_self _⟩⟩
 rw [<-e];exact (cF h).trans (if_pos (by rw [hx,hl,bp hd,bp hl2];rfl))
structure JW(D:Dm)(c:Nat)(A:V->Prop)(lf fd:Nat)(σb J:Hp)(ls fs:List V)(n:Nat):Prop where
 p:σb <+:J
 l:J[lf]?=some (.list ls)
 f:J[fd]?=some (.list fs)
 vl:∀v∈ls,u8 v/\A v
 vf:∀v∈fs,∃o,v=.int o/\A (aV o)
 b:xj ls+2*c*hV D fs<=n
 b2:n+fs.length+c<=600000
theorem AC(h:∀v∈l,∃o,v=V.int o):V.dats l=true/\V.deps l<=6:=by
 refine ⟨V.dats_iff.mpr λv q=>by obtain ⟨o,rfl⟩:=h v q;rfl,?_⟩
 induction l with
 | nil=>exact aC _
 | cons x r ih=>exact Nat.max_le.mpr ⟨by obtain ⟨o,rfl⟩:=h x ai;exact aC _,ih λy hy=>h y (aj _ hy)⟩
theorem EO(h:∀v∈l,gw v):xj l<=2*l.length:=by
 induction l with
 | nil=>exact aC _
 | cons x r ih =>
  show wt x+xj r<=2*r.length+2;rw [Nat.add_comm];exact Nat.add_le_add (ih λy hy=>h y (aj _ hy)) (rS (h x ai)).2
theorem JW.len{D:Dm}{A:V->Prop}{lf fd:Nat}{ls:List V}(x:JW D c A lf fd σb J ls fs n):ls.length+c+3<big:=by
 have h1:=z3 λv q=>(x.vl v q).1;have h2:=x.b;have h3:=x.b2;unfold big;omega
theorem Iv{a N:Nat}(h:n+a+c<=N):a<=N:=am (am (Nat.le_add_left a n) (aN _ c)) h
theorem Kr{a N:Nat}(h:a+1+c+3<N):a+c+4<N:=by omega
theorem Ks{a N:Nat}(h:n+1+a+c<=N):n+(a+1)+c<=N:=by omega
theorem Kt{a N:Nat}(h:n+(a+1)+c<=N):n+a+c<=N:=by omega
theorem JJ{a b N:Nat}(h:a+c+4<N)(k:b<=c):a+b<N:=by omega
theorem JK{a N:Nat}(h:a+c+4<N):a+2<N:=by omega
theorem Ku{a w l X Y:Nat}(h1:w<=2*l)(hc:l<=c)(h4:X+2*c<=Y)(hw:a+1+Y<=n):a+w+X<=n:=by omega
theorem Kv{a X Y:Nat}(h:X<=Y)(hw:a+1+Y<=n):a+0+X<=n:=am (Nat.add_le_add (Nat.le_succ a) h) hw
theorem xW{k bk hd lf fd codes fo be:Nat}{D:Dm}{m f:Int}{sf:Bool}{A:V->Prop}(hb0:J[bk]?=some (.dict (kR codes fo hd m f sf) be))(hh:p9 D hd c J)(hlf:J.length<=lf)(hfd:J.length<=fd)(hne:lf≠fd)
  (hA:∀o l,A (aV o)->D.cells o=some l->∀v∈l,A v) (hT:∀a b,A (.tup [a,b])->A a/\A b) {n:Nat}:∀{ls fs:List V} {loc:Loc} {σa:Hp},JW D c A lf fd J σa ls fs n->loc "book"=some (.obj bk)->loc "left"=some (.obj lf)->loc "found"=some (.obj fd)->
  (∀loc' σ' fs',b6 ["here"] loc loc'->J <+:σ'->σ'[fd]?=some (.list fs')->(∀v∈fs',∃o,v=.int o/\A (aV o))->fs'.length<=600000->QQ .next loc' σ')->jB (u3 (aZ a0 k) fG) (ez (aZ a0 k) fF) (n+1) loc σa QQ:=by
 induction n with
 | zero =>
  intro ls fs loc σa x b1 b2 b3 hQ;have d:=ox λv q=>(x.vl v q).1;refine aw b2 ?_;have:ls=[]:=List.length_eq_zero_iff.mp (Nat.le_zero.mp (am (z3 λv q=>(x.vl v q).1) (am (aN _ _) x.b)));refine kU (b:=true) (aS x.l) aF d.1 d.2 (this▸rfl) ?_;exact hQ loc _ fs .refl (x.p.trans az) (aS x.f) x.vf (Iv x.b2)
 | succ n ih =>
  intro ls fs loc σa x b1 b2 b3 hQ;have d:=ox λv q=>(x.vl v q).1;have df:=AC λv q=>let ⟨o,e,_⟩:=x.vf v q;⟨o,e⟩
  refine aw b2 ?_;rcases v9 ls with rfl | ⟨ls',t,rfl⟩
  ·refine kU (b:=true) (aS x.l) aF d.1 d.2 rfl ?_;exact hQ loc _ fs .refl (x.p.trans az) (aS x.f) x.vf (Iv x.b2)
  ·refine kU (b:=false) (aS x.l) aF d.1 d.2 (by cases ls'<;>rfl) ?_;have tv:=x.vl t (bV.mpr (.inr rfl));have h1':(σa++[Ob.list []])[lf]?=some (.list (ls'++[t])):=aS x.l;have hlen:=x.len;have hlen':ls'.length+c+4<big:=by rw [aH] at hlen;exact Kr hlen
   have p1:J <+:(σa++[Ob.list []]).set lf (.list ls'):=kD (x.p.trans az) hlf;have g1:((σa++[Ob.list []]).set lf (.list ls'))[lf]?=some (.list ls'):=bG h1';have g2:((σa++[Ob.list []]).set lf (.list ls'))[fd]?=some (.list fs):=(aR hne).trans (aS x.f);have hls':∀v∈ls',u8 v/\A v:=λv q=>x.vl v (bV.mpr (.inl q));have hb:∀w,wt t=w+1->xj ls'+w+2*c*hV D fs<=n:=λw e=>by
    have:=x.b;rw [mU,show xj [t]=wt t from rfl,e] at this;exact Nat.le_of_succ_le_succ (am (Nat.le_of_eq (Nat.succ_add (xj ls'+w) _).symm) this)
   have hb2:n+(fs.length+1)+c<=600000:=Ks x.b2;have hb3:=Kt hb2;refine aw b2 ⟨A7 h1' rfl,?_⟩;refine zy h1' (ax (am (aN _ c) (aN _ 3)) hlen) List.getLast?_concat ?_;rw [List.dropLast_concat];generalize (σa++[Ob.list []]).set lf (.list ls')=σc at p1 g1 g2 ⊢;have go:=λ{ls2 fs2:List V} {σ3:Hp} (q:JW D c A lf fd J σ3 ls2 fs2 n)=>ih (loc:=setL loc "here" t) q b1 b2 b3 λloc' σ' fs' ag'=>hQ loc' σ' fs' ((b6.refl.set ai).trans ag');rcases tv with ⟨(rfl | ⟨o,rfl⟩) | ⟨a,b,rfl,ha,hb'⟩,tA⟩
   ·exact go ⟨p1,g1,g2,hls',x.vf,hb 0 rfl,hb3⟩
   ·refine ⟨rfl,rfl,ae,aw b3 (nT (iT (x:=.int o) g2 rfl (aC _) df.1 df.2) ?_)⟩;by_cases hm:V.int o∈fs
    ·rw [bp hm];exact go ⟨p1,g1,g2,hls',x.vf,am (bQ (aN _ 1) _) (hb 1 rfl),hb3⟩
    ·rw [decide_eq_false hm];refine aw b3 ?_;refine ⟨A7 g2 rfl,?_⟩;refine lU g2 (ax (Iv hb3) (show (600000:Nat)<big by decide)) ?_;have p2:J <+:σc.set fd (.list (fs++[.int o])):=kD p1 hfd;have g3:(σc.set fd (.list (fs++[.int o])))[lf]?=some (.list ls'):=(aR (bg hne)).trans g1;have g4:(σc.set fd (.list (fs++[.int o])))[fd]?=some (.list (fs++[.int o])):=bG g2;generalize σc.set fd (.list (fs++[.int o]))=σd at p2 g3 g4 ⊢;have hfs2:∀v∈fs++[V.int o],∃o,v=.int o/\A (aV o):=λv q=>(bV.mp q).elim (x.vf v) λe=>⟨o,e,tA⟩
     have h3:=hh.ext (p2.trans (az (τ:=[Ob.list []])));refine aw b2 ⟨A7 g3 rfl,aw b1 (xe hh.d λhe hhe=>dF (bR p2 hb0) rfl ⟨Hh (bR p2 hhe) rfl,pM (bR az (bR p2 hhe)) rfl (aC _) ?_⟩)⟩;have g5:(σd++[Ob.list []])[lf]?=some (.list ls'):=aS g3;have g6:(σd++[Ob.list []])[fd]?=some (.list (fs++[.int o])):=aS g4;have p3:J <+:σd++[Ob.list []]:=p2.trans az;have add:∀l,(∀v∈l,gw v/\A v)->l.length<=c->xj ls'+xj l+2*c*hV D (fs++[.int o])<=n->jB (u3 (aZ a0 k) fG) (ez (aZ a0 k) fF) (n+1) (setL loc "here" (aV o)) ((σd++[Ob.list []]).set lf (.list (ls'++l))) QQ:=λl h1 z_ h3 =>
      go ⟨kD p3 hlf,bG g5,(aR hne).trans g6,λv q=>(bt.mp q).elim (hls' v) λq=>⟨.inl (h1 v q).1,(h1 v q).2⟩,hfs2,by rw [mU];exact h3,by rw [aH];exact hb2⟩
     have hw:=hb 1 rfl;rcases Dm.get (D:=D) (o:=o) with ⟨p,hp,rfl,e1,e2⟩ | ⟨e1,e2⟩
     ·rw [e1];have hap:=h3.a p hp;refine fT (w:=.obj p.2.1) (l':=p.2.2) g5 (fD hap.1) (JJ hlen' hap.2.1) (add p.2.2 (λv q=>⟨hap.2.2 v q,hA p.1 p.2.2 tA e2 v q⟩) hap.2.1 ?_);have h1:=EO hap.2.2;have h2:hV D (fs++[.int p.1])+1<=hV D fs:=EI hp hm;have h4:=Nat.mul_le_mul_left (2*c) h2;rw [Nat.mul_add,Nat.mul_one] at h4;exact Ku h1 hap.2.1 h4 hw
     ·rw [e1];refine fT (w:=.obj σd.length) (l':=[]) g5 (fD aF) (JJ hlen' (aC c)) (add [] (λv q=>(aq q).elim) (aC _) ?_);have h4:2*c*hV D (fs++[.int o])<=2*c*hV D fs:=Nat.mul_le_mul_left _ xh;exact Kv h4 hw
   ·have sA:=hT a b tA;have fin:jB (u3 (aZ a0 k) fG) (ez (aZ a0 k) fF) (n+1) (setL loc "here" (.tup [a,b])) (σc.set lf (.list (ls'++[a,b]))) QQ :=
     go ⟨kD p1 hlf,bG g1,(aR hne).trans g2,λv q=>(bt.mp q).elim (hls' v) λq=>(aO.mp q).elim (λe=>e▸⟨.inl ha,sA.1⟩) λq=>an.mp q▸⟨.inl hb',sA.2⟩,x.vf,by
      rw [mU];have h5:=hb 5 rfl;have:xj [a,b]<=5:=am (Nat.add_le_add (rS ha).2 (Nat.add_le_add (rS hb').2 (ay 0))) (by decide);exact am (bQ (cn this _) _) h5,hb3⟩
    refine ⟨rfl,rfl,ae,?_⟩;rcases ha with rfl | ⟨o,rfl⟩
    ·refine aw b2 ⟨A7 g1 rfl,?_⟩;exact fT (w:=.tup [.none,b]) (l':=[.none,b]) g1 rfl (JK hlen') fin
    ·refine aw b2 ⟨A7 g1 rfl,?_⟩;exact fT (w:=.tup [aV o,b]) (l':=[aV o,b]) g1 rfl (JK hlen') fin
section
variable{Own:SetI}{G0 G:SetI}{m0:Int}{H:Cells}{mk:V->SetI}{T T':V->Prop}
noncomputable def vA(D:Dm)(v r:V):Prop:=(r=.none/\∀o,v=aV o->D.cells o=none)\/∃p∈D,v=aV p.1/\r=.obj p.2.1/\D.cells p.1=some p.2.2
structure iE(bk hd codes fo B c:Nat)(P:dh)(fl:List (V×V))(J:Hp)(D:Dm)(m f:Int):Prop where
 abk:∃e,J[bk]?=some (.dict (kR codes fo hd m f true) e)
 ahd:p9 D hd c J
 afo:∃e,J[fo]?=some (.dict fl e)
 cd:gN B J codes P
 ids:(D.map (·.1)).Nodup
 top:∀p∈D,p.1<=m
 ads:(D.map (·.2.1)).Nodup
 ne:∀p∈D,p.2.1≠bk/\p.2.1≠hd/\p.2.1≠fo/\B<=p.2.1
 n1:bk≠hd
 n2:fo≠bk
 n3:fo≠hd
 n4:B<=bk
 n5:B<=hd
variable{bk hd codes fo:Nat}{P:dh}{m f:Int}{D:Dm}
theorem iE.lt(x:iE bk hd codes fo B c P fl J D m f):bk<J.length/\hd<J.length/\fo<J.length/\B<=J.length:=by
 exact xe x.abk λz_ h1=>xe x.ahd.d λz_ h2=>xe x.afo λz_ h3=>⟨a8 h1,a8 h2,a8 h3,am x.n4 (cB (a8 h1))⟩
theorem iE.same(x:iE bk hd codes fo B c P fl J D m f)(h:∀n,n=bk\/n=hd\/n=fo\/n<B\/n∈D.map (·.2.1)->σ'[n]?=J[n]?):iE bk hd codes fo B c P fl σ' D m f :=
 ⟨let ⟨e,q⟩:=x.abk;⟨e,(h _ (.inl rfl)).trans q⟩,⟨let ⟨e,q⟩:=x.ahd.d;⟨e,(h _ (.inr (.inl rfl))).trans q⟩,λp hp=>⟨(h _ (.inr (.inr (.inr (.inr (aX.mpr ⟨p,hp,rfl⟩)))))).trans (x.ahd.a p hp).1,(x.ahd.a p hp).2⟩⟩,let ⟨e,q⟩:=x.afo;⟨e,(h _ (.inr (.inr (.inl rfl)))).trans q⟩,x.cd.same λn hn=>h n (.inr (.inr (.inr (.inl hn)))),x.ids,x.top,x.ads,x.ne,x.n1,x.n2,x.n3,x.n4,x.n5⟩
theorem iE.adlt(x:iE bk hd codes fo B c P fl J D m f)(h:n∈D.map (·.2.1)):n<J.length:=by
 refine bO (List.mem_map.mp h) λp hp q=>?_;subst q;exact a8 (x.ahd.a p hp).1
theorem iE.ext(x:iE bk hd codes fo B c P fl J D m f)(p:J <+:σ'):iE bk hd codes fo B c P fl σ' D m f :=
 x.same λn hn=>by
  refine xe p λτ q=>?_;subst q;refine mV x.lt λh1 h2 h3 h4=>au ?_;rcases hn with rfl | rfl | rfl | hn | hn
  ·exact h1
  ·exact h2
  ·exact h3
  ·exact ak hn h4
  ·exact x.adlt hn
theorem iE.setOther(x:iE bk hd codes fo B c P fl J D m f){a:Nat}{o:Ob}(h1:a≠bk)(h2:a≠hd)(h3:a≠fo)(h4:B<=a)(h5:a∉D.map (·.2.1)):iE bk hd codes fo B c P fl (J.set a o) D m f :=
 x.same λn hn=>aR (by
  rcases hn with rfl | rfl | rfl | hn | hn
  ·exact h1
  ·exact h2
  ·exact h3
  ·exact λe=>bh _ (ak (e▸hn) h4)
  ·exact λe=>h5 (e▸hn))
theorem DT{m':Int}:gK (kR codes fo hd m f true) (.str "made") (.int m')=kR codes fo hd m' f true:=rfl
theorem DS{f':Int}:gK (kR codes fo hd m f true) (.str "fuel") (.int f')=kR codes fo hd m f' true:=rfl
theorem iE.setBook(x:iE bk hd codes fo B c P fl J D m f){k:String}{m' f':Int}{Q:Hp->Prop}(hm:m<=m')(hk:gK (kR codes fo hd m f true) (.str k) v=kR codes fo hd m' f' true)(hQ:∀σ',iE bk hd codes fo B c P fl σ' D m' f'->σ'.length=J.length->(∀n,n≠bk->σ'[n]?=J[n]?)->Q σ'):ds (.obj bk) (.str k) v J Q:=by
 refine xe x.abk λe he=>jt he rfl (aC _) ae ?_;unfold gq;rw [hk];generalize (if (getD (kR codes fo hd m f true) (V.str k)).isSome=true then e else e+1)=e';have kp:∀n,n≠bk->(J.set bk (.dict (kR codes fo hd m' f' true) e'))[n]?=J[n]?:=λn hn=>aR (bg hn);exact hQ _ ⟨⟨_,bG he⟩,⟨x.ahd.d.imp λe q=>(kp _ (bg x.n1)).trans q,λp hp=>⟨(kp _ (x.ne p hp).1).trans (x.ahd.a p hp).1,(x.ahd.a p hp).2⟩⟩,x.afo.imp λe q=>(kp _ x.n2).trans q,x.cd.same λn hn=>kp n (aW (ak hn x.n4)),x.ids,λp hp=>Int.le_trans (x.top p hp) hm,x.ads,x.ne,x.n1,x.n2,x.n3,x.n4,x.n5⟩ bE kp
theorem mH(x:iE bk hd codes fo B c P fl J D m f)(hv:gw v)(hQ:∀r,vA D v r->Q r J):aZ a0 (n+1) ("","_law_cells") [.obj bk,v] J Q:=by
 refine bq (d:=mZ) rfl ae ae ?_;rcases hv with rfl | ⟨o,rfl⟩
 ·(conv=>whnf);exact hQ .none (.inl ⟨rfl,λo e=>by cases e⟩)
 ·refine xe x.abk λe he=>xe x.ahd.d λe2 he2=>⟨rfl,rfl,ae,dF he rfl ⟨Hh he2 rfl,zo he2 rfl (aC _) ?_⟩⟩
  rcases Dm.get (D:=D) (o:=o) with ⟨p,hp,rfl,e1,e2⟩ | ⟨e1,e2⟩
  ·rw [e1];exact hQ _ (.inr ⟨p,hp,rfl,rfl,e2⟩)
  ·rw [e1];exact hQ .none (.inl ⟨rfl,λo' e=>by cases e;exact e2⟩)
theorem Dm.d_app{D:Dm}{cl:Nat}:Dm.d (D++[(o,cl,l)])=D.d++[(.int o,.obj cl)]:=List.map_append
theorem iE.addHeld(x:iE bk hd codes fo B c P fl J D m f){cl:Nat}{Q:Hp->Prop}(h:J[cl]?=some (.list l))(hne:cl≠bk/\cl≠hd/\cl≠fo/\B<=cl)(hda:cl∉D.map (·.2.1))(hlen:l.length<=c)(hp:∀v∈l,gw v)(ho:∀p∈D,p.1≠o)(hm:o<=m)(hl:D.length<100000)
  (hQ:∀σ',iE bk hd codes fo B c P fl σ' (D++[(o,cl,l)]) m f->σ'.length=J.length->(∀n,n≠hd->σ'[n]?=J[n]?)->Q σ'):ds (.obj hd) (.int o) (.obj cl) J Q:=by
 refine xe x.ahd.d λe he=>?_;refine jt he rfl (aC _) (by unfold Dm.d;rw [aM];exact aQ hl (by decide)) ?_;have hn:getD D.d (.int o)=none:=(Dm.get (D:=D) (o:=o)).elim (λw=>cG w λp hp e z_=>absurd e (ho p hp)) And.left;unfold gq;rw [jY hn,<-Dm.d_app (l:=l)];generalize (if (getD D.d (V.int o)).isSome=true then e else e+1)=e';have kp:∀n,n≠hd->(J.set hd (.dict (Dm.d (D++[(o,cl,l)])) e'))[n]?=J[n]?:=λn hn=>aR (bg hn);refine hQ _ ⟨x.abk.imp λe q=>(kp _ x.n1).trans q,⟨⟨_,bG he⟩,λp hq=>?_⟩,x.afo.imp λe q=>(kp _ x.n3).trans q,x.cd.same λn hn=>kp n (aW (ak hn x.n5)),?_,λp hq=>?_,?_,λp hq=>?_,x.n1,x.n2,x.n3,x.n4,x.n5⟩ bE kp
 ·rcases bV.mp hq with hq | rfl
  ·exact ⟨(kp _ (x.ne p hq).2.1).trans (x.ahd.a p hq).1,(x.ahd.a p hq).2⟩
  ·exact ⟨(kp _ hne.2.1).trans h,hlen,hp⟩
 ·rw [List.map_append];exact List.nodup_append.mpr ⟨x.ids,List.nodup_cons.mpr ⟨aq,List.nodup_nil⟩,λa ha b hb=>by
   refine bO (List.mem_map.mp ha) λp hp y=>?_;subst y;rw [an.mp hb];exact ho p hp⟩
 ·rcases bV.mp hq with hq | rfl
  ·exact x.top p hq
  ·exact hm
 ·rw [List.map_append];exact List.nodup_append.mpr ⟨x.ads,List.nodup_cons.mpr ⟨aq,List.nodup_nil⟩,λa ha b hb=>by
   rw [an.mp hb];exact λ(e:a=cl)=>hda (e▸ha)⟩
 ·rcases bV.mp hq with hq | rfl
  ·exact x.ne p hq
  ·exact hne
theorem Dz{cl ow:Nat}{s:V}(x:iE bk hd codes fo B c P fl J D m f)(h:J[cl]?=some (.list l))(hne:cl≠bk/\cl≠hd/\cl≠fo/\B<=cl)(hda:cl∉D.map (·.2.1))(hlen:l.length<=c)(hp:∀v∈l,gw v)(hl:D.length<100000)
  (hks:s.key=true/\s.dep<=3) (hfl:getD fl s=some (mark F s)) (how:J[ow]?=some (.list (os.map V.int))) (hw:ow≠bk/\ow≠hd/\ow≠fo/\B<=ow) (hwd:ow∉D.map (·.2.1)) (hwc:ow≠cl) (hos:os.length<50000)
  (hQ:∀σ',iE bk hd codes fo B c P fl σ' (D++[(m+1,cl,l)]) (m+1) f->σ'.length=J.length->((F .gone s/\σ'[ow]?=some (.list (os.map V.int)))\/(¬F .gone s/\σ'[ow]?=some (.list ((os++[m+1]).map V.int))))->(∀n,n≠bk->n≠hd->n≠ow->σ'[n]?=J[n]?)->Q (aV (m+1)) σ') :
  aZ a0 (n+1) ("","_law_new") [.obj bk,.obj cl,s,.obj ow] J Q:=by
 refine xe x.abk λbe hbe=>bq (d:=qd) rfl ae ae (dF hbe rfl (x.setBook (m':=m+1) (f':=f) (Int.le_add_one (Int.le_refl m)) DT λσ1 x1 l1 k1=>xe x1.abk λbe1 hbe1=>dF hbe1 rfl (dF hbe1 rfl (x1.addHeld (o:=m+1) (cl:=cl) (l:=l) ((k1 _ hne.1).trans h) hne hda hlen hp (λp hp e=>absurd (x.top p hp) (Int.not_le.mpr (e▸Int.lt_succ m))) (Int.le_refl _) hl λσ2 x2 l2 k2=>xe x2.abk λbe2 hbe2=>xe x2.afo λfe hfe=>?_))));have at2:∀n,n≠bk->n≠hd->σ2[n]?=J[n]?:=λn h1 h2=>(k2 n h2).trans (k1 n h1);have how2:σ2[ow]?=some (.list (os.map V.int)):=(at2 _ hw.1 hw.2.1).trans how;have AP:σ2.length=J.length:=l2.trans l1;refine dF hbe2 rfl (jS hfe hks.1 (am hks.2 (by decide)) hfl ?_);by_cases hgo:F .gone s
 ·rw [yf hgo];exact dF hbe2 rfl (hQ σ2 x2 AP (.inl ⟨hgo,how2⟩) λn h1 h2 z_=>at2 n h1 h2)
 ·rw [ul hgo];refine ⟨A7 how2 rfl,dF hbe2 rfl ?_⟩;refine lU how2 (by rw [aM];exact aQ hos (by decide)) ?_;rw [show os.map V.int++[V.int (m+1)]=(os++[m+1]).map V.int by rw [List.map_append];rfl];have x3:=x2.setOther (a:=ow) (o:=.list ((os++[m+1]).map V.int)) hw.1 hw.2.1 hw.2.2.1 hw.2.2.2 (by rw [List.map_append];exact λq=>(bt.mp q).elim hwd λq=>hwc (an.mp q));exact xe x3.abk λbe3 hbe3=>dF hbe3 rfl (hQ _ x3 (bE.trans AP) (.inr ⟨hgo,bG how2⟩) λn h1 h2 h3=>(aR (bg h3)).trans (at2 n h1 h2))
theorem sV{β:Type}{g:α->β}{l:List α}(h:(l.map g).Nodup){a b:α}(ha:a∈l)(hb:b∈l)(e:g a=g b):a=b:=by
 induction l with
 | nil=>cases ha
 | cons x r ih =>
  rw [List.map_cons,List.nodup_cons] at h;refine (aO.mp ha).elim (λe1=>(aO.mp hb).elim (λe2=>e1.trans e2.symm) λh2=>?_) λh1=>(aO.mp hb).elim (λe2=>?_) (ih h.2 h1)
  ·exact absurd (aX.mpr ⟨b,h2,e.symm.trans (congrArg g e1)⟩) h.1
  ·exact absurd (aX.mpr ⟨a,h1,e.trans (congrArg g e2)⟩) h.1
noncomputable def Dm.upd(D:Dm)(o:Int)(l:List V):Dm:=D.map λp=>if p.1=o then (p.1,p.2.1,l) else p
theorem Dm.upd_map{γ:Type}{D:Dm}{g:Int×Nat×List V->γ}(h:∀p l',g (p.1,p.2.1,l')=g p):(D.upd o l).map g=D.map g:=by
 unfold Dm.upd;rw [List.map_map];refine List.map_congr_left λp z_=>?_;show g (if p.1=o then (p.1,p.2.1,l) else p)=g p;by_cases e:p.1=o
 ·rw [if_pos e];exact h p l
 ·rw [if_neg e]
theorem Dm.cells_cons{p:Int×Nat×List V}{r:Dm}:Dm.cells (p::r) o=if p.1=o then some p.2.2 else Dm.cells r o:=by
 unfold Dm.cells;rw [List.find?_cons];by_cases h:p.1=o
 ·rw [if_pos h,beq_iff_eq.mpr h];rfl
 ·rw [if_neg h,beq_eq_false_iff_ne.mpr h]
theorem Dm.upd_cells{D:Dm}{o':Int}:(D.upd o l).cells o'=if o'=o then (D.cells o).map (λz_=>l) else D.cells o':=by
 induction D with
 | nil=>by_cases e:o'=o<;>simp [Dm.upd,Dm.cells,e]
 | cons p r ih =>
  have e0:Dm.upd (p::r) o l=(if p.1=o then (p.1,p.2.1,l) else p)::Dm.upd r o l:=rfl;rw [e0,Dm.cells_cons,Dm.cells_cons,Dm.cells_cons,ih];by_cases e1:p.1=o
  ·rw [if_pos e1,if_pos e1];by_cases e2:o'=o
   ·rw [if_pos (e1.trans e2.symm),if_pos e2];rfl
   ·rw [if_neg λq=>e2 (q.symm.trans e1),if_neg e2,if_neg e2,if_neg λq=>e2 (q.symm.trans e1)]
  ·rw [if_neg e1,if_neg e1];by_cases e3:p.1=o'
   ·rw [if_pos e3,if_pos e3,if_neg λq=>e1 (e3.trans q)]
   ·rw [if_neg e3,if_neg e3]
theorem Dm.mem_upd{D:Dm}{q:Int×Nat×List V}(h:q∈D.upd o l):∃p∈D,q=if p.1=o then (p.1,p.2.1,l) else p:=let ⟨p,h1,h2⟩:=List.mem_map.mp h;⟨p,h1,h2.symm⟩
theorem iE.setCell(x:iE bk hd codes fo B c P fl J D m f){p:Int×Nat×List V}(hp:p∈D){c':Nat}(hc:c<=c')(hl:l.length<=c')(hv:∀v∈l,gw v):iE bk hd codes fo B c' P fl (J.set p.2.1 (.list l)) (D.upd p.1 l) m f:=by
 have n:=x.ne p hp;have kp:∀n,n≠p.2.1->(J.set p.2.1 (.list l))[n]?=J[n]?:=λn hn=>aR (bg hn);refine ⟨x.abk.imp λe q=>(kp _ (bg n.1)).trans q,⟨x.ahd.d.imp λe q=>?_,λq hq=>?_⟩,x.afo.imp λe q=>(kp _ (bg n.2.2.1)).trans q,x.cd.same λk hk=>kp k (aW (ak hk n.2.2.2)),?_,λq hq=>?_,?_,λq hq=>?_,x.n1,x.n2,x.n3,x.n4,x.n5⟩
 ·rw [show (D.upd p.1 l).d=D.d from Dm.upd_map λz_ z_=>rfl];exact (kp _ (bg n.2.1)).trans q
 ·refine bO (Dm.mem_upd hq) λr hr e=>?_;subst e;by_cases e1:r.1=p.1
  ·cases sV x.ids hr hp e1;rw [if_pos rfl];exact ⟨bG (x.ahd.a _ hp).1,hl,hv⟩
  ·rw [if_neg e1];have y:=x.ahd.a r hr;exact ⟨(kp _ λe=>e1 (congrArg Prod.fst (sV x.ads hr hp e))).trans y.1,am y.2.1 hc,y.2.2⟩
 ·rw [Dm.upd_map λz_ z_=>rfl];exact x.ids
 ·refine bO (Dm.mem_upd hq) λr hr e=>?_;subst e;by_cases e1:r.1=p.1
  ·rw [if_pos e1];exact x.top r hr
  ·rw [if_neg e1];exact x.top r hr
 ·rw [Dm.upd_map λz_ z_=>rfl];exact x.ads
 ·refine bO (Dm.mem_upd hq) λr hr e=>?_;subst e;by_cases e1:r.1=p.1
  ·rw [if_pos e1];exact x.ne r hr
  ·rw [if_neg e1];exact x.ne r hr
theorem Bx{g:V}(x:iE bk hd codes fo B c P fl J D m f)(hc:c<100000)(hg:gw g)(hv:gw v)(h0:Q .none J)(h1:∀p∈D,g=aV p.1->D.cells p.1=some p.2.2->iE bk hd codes fo B c P fl (J.set p.2.1 (.list (p.2.2.set 0 v))) (D.upd p.1 (p.2.2.set 0 v)) m f->Q .none (J.set p.2.1 (.list (p.2.2.set 0 v)))) :
  aZ a0 (n+2) ("","_law_put") [.obj bk,g,v] J Q:=by
 refine bq (d:=qf) rfl ae ae (mH x hg λr hr=>?_);rcases hr with ⟨rfl,_⟩ | ⟨p,hp,rfl,rfl,e⟩
 ·(conv=>whnf);exact h0
 ·have y:=x.ahd.a p hp;refine ku (iX y.1) (aQ (ax y.2.1 hc) (by decide)) ?_;by_cases hlt:(0:Int)<(p.2.2.length:Int)
  ·refine aw (show jL .lt J (.int 0) (.int (p.2.2.length:Nat))=some true from congrArg some (bp hlt)) (pZ (i:=0) y.1 (Int.le_refl 0) hlt (aQ (ax y.2.1 hc) (by decide)) ?_);exact h1 p hp rfl e (x.setCell hp (ay c) (by rw [bE];exact y.2.1) λw hw=>(List.mem_or_eq_of_mem_set hw).elim (y.2.2 w) λe=>e▸hv)
  ·exact aw (show jL .lt J (.int 0) (.int (p.2.2.length:Nat))=some false from congrArg some (decide_eq_false hlt)) h0
theorem Dm.app_cells{D:Dm}{o':Int}{cl:Nat}(h:∀p∈D,p.1≠o):Dm.cells (D++[(o,cl,l)]) o'=if o'=o then some l else D.cells o':=by
 induction D with
 | nil =>
  show Dm.cells [(o,cl,l)] o'=_;rw [Dm.cells_cons];by_cases e:o'=o
  ·rw [if_pos e,if_pos e.symm]
  ·rw [if_neg e,if_neg (bg e)]
 | cons p r ih =>
  show Dm.cells (p::(r++[(o,cl,l)])) o'=_;rw [Dm.cells_cons,Dm.cells_cons,ih λq hq=>h q (aj _ hq)];by_cases e:p.1=o'
  ·rw [if_pos e,if_pos e,if_neg λq=>h p ai (e.trans q)]
  ·rw [if_neg e,if_neg e]
theorem CF{o' p:Int}{cl:Nat}(h:∀q∈D,q.1≠o)(k:cont (Dm.cells (D++[(o,cl,l)])) o' p):cont D.cells o' p\/(o'=o/\∃v∈l,dk v p):=by
 refine bO k λl' h1 h2=>?_;rw [Dm.app_cells h] at h1;by_cases e:o'=o
 ·rw [if_pos e] at h1;cases h1;exact .inr ⟨e,h2⟩
 ·rw [if_neg e] at h1;exact .inl ⟨l',h1,h2⟩
theorem lF{o' p:Int}(k:cont (D.upd o l).cells o' p):(o'≠o/\cont D.cells o' p)\/(o'=o/\∃v∈l,dk v p):=by
 refine bO k λl' h1 h2=>?_;rw [Dm.upd_cells] at h1;by_cases e:o'=o
 ·rw [if_pos e] at h1;refine bO (b0.mp h1) λz_ z_ q=>?_;subst q;exact .inr ⟨e,h2⟩
 ·rw [if_neg e] at h1;exact .inl ⟨e,l',h1,h2⟩
theorem Fq{H':Cells}{T':V->Prop}(c:Cx O Own cap F G0 m0)(f:Fi O Own cap F G0 m0 G m H mk)(s:V)(hT:∀tb v,eW (·=tS s) T' F tb v->F tb v)(hl:∀v∈l,∀p,dk v p->dN O mk G T' p)(h0:∀p,¬cont H (m+1) p)
  (hc:∀o p,cont H' o p->cont H o p\/(o=m+1/\∃v∈l,dk v p)):Fi O Own cap F G0 m0 (λo=>G o\/(F .gone s/\o=m+1)) (m+1) H' (λs' o=>mk s' o\/(s'=s/\o=m+1)):=by
 have up:∀o,G o->G o\/(F .gone s/\o=m+1):=λz_=>.inl;have big:∀s' o,mk s' o->o≠m+1:=λs' o h e=>by have:=(f.st.m4 s' o h).2;omega
 refine ⟨⟨⟨λo q=>.inl (f.st.ext.1 o q),λo q=>?_⟩,by have:=f.st.le;omega,λs' o h hg=>?_,λs' o h hg q=>?_,λs1 s2 o h1 h2=>?_,λs' o h=>?_⟩,λo q p h=>?_,λo q p h=>?_,λs' o h hg p hcn=>?_,λo q=>?_⟩
 ·rcases q with q | ⟨_,rfl⟩
  ·exact f.st.ext.2 o q
  ·exact .inr (by have:=f.st.le;omega)
 ·rcases h with h | ⟨rfl,rfl⟩
  ·exact .inl (f.st.m1 s' o h hg)
  ·exact .inr ⟨hg,rfl⟩
 ·rcases h with h | ⟨rfl,rfl⟩
  ·exact q.elim (f.st.m2 s' o h hg) λq=>big s' o h q.2
  ·exact q.elim (λq=>by have:=f.gm _ q;omega) λq=>hg q.1
 ·rcases h1 with h1 | ⟨rfl,e1⟩<;>rcases h2 with h2 | ⟨rfl,e2⟩
  ·exact f.st.m3 s1 s2 o h1 h2
  ·exact absurd e2 (big s1 o h1)
  ·exact absurd e1 (big s2 o h2)
  ·rfl
 ·rcases h with h | ⟨_,rfl⟩
  ·have:=f.st.m4 s' o h;exact ⟨this.1,by omega⟩
  ·have:=f.st.le;exact ⟨by omega,by omega⟩
 ·rcases hc o p h with h | ⟨rfl,v,hv,hr⟩
  ·rcases q with q | ⟨_,rfl⟩
   ·exact .inl (f.g1 o q p h)
   ·exact absurd h (h0 p)
  ·refine Or.elim q (λq=>?_) (λw=>xa w λhg z_=>?_)
   ·have:=f.gm _ q;omega
   ·exact .inl (pO c f.st (λtb v l=>hT tb v ⟨tS s,rfl,.inr (.inr ⟨s,rfl,.inr ⟨hg,l⟩⟩)⟩) (hl v hv p hr))
 ·rcases hc o p h with h | ⟨rfl,_⟩
  ·exact c.monoC o G _ up p (f.g2 o q p h)
  ·have:=(c.disj _ q).2;have:=f.st.le;omega
 ·rcases hc o p hcn with k | ⟨rfl,v,hv,hr⟩
  ·rcases h with h | ⟨_,rfl⟩
   ·exact (f.g3 s' o h hg p k).up c up λz_ z_=>.inl
   ·exact absurd k (h0 p)
  ·rcases h with h | ⟨rfl,_⟩
   ·exact absurd rfl (big s' _ h)
   ·exact ((hl v hv p hr).mono λt ht=>hT _ _ ⟨tS s',rfl,.inr (.inr ⟨s',rfl,.inl ⟨rfl,ht⟩⟩)⟩).up c up λz_ z_=>.inl
 ·rcases q with q | ⟨_,rfl⟩
  ·have:=f.gm o q;omega
  ·omega
theorem jM{H':Cells}(c:Cx O Own cap F G0 m0)(f:Fi O Own cap F G0 m0 G m H mk)(h:∀tb v,eW T T' F tb v->F tb v){g:Int}(hg:dN O mk G T g)(hv:∀v∈l,∀p,dk v p->cont H g p\/dN O mk G T' p)
  (hc:∀o p,cont H' o p->cont H o p\/(o=g/\∃v∈l,dk v p)):Fi O Own cap F G0 m0 G m H' mk:=by
 have key:∀o p,cont H' o p->cont H o p\/(o=g/\dN O mk G T' p):=λo p k=>(hc o p k).elim .inl λw=>B3 w λe v h1 h2=>(hv v h1 p h2).elim (λq=>.inl (e▸q)) λq=>.inr ⟨e,q⟩;refine ⟨f.st,λo q p k=>?_,λo q p k=>?_,λs o hs hgo p k=>?_,f.gm⟩
 all_goals
  rcases key o p k with k | ⟨rfl,hp⟩
  ·first | exact f.g1 o q p k | exact f.g2 o q p k | exact f.g3 s o hs hgo p k
  ·have:=yE c f.st h hg hp
   first | exact this.1 q | exact this.2.1 q | exact this.2.2 s hs hgo
end
section
noncomputable def ID(R:List V):V->List V
 | .tup (y::l)=>if V.deq y (.str "reg")=true then [(R[(l.headD .none).toInt.toNat]?).getD .none] else []
 | _=>[]
inductive ef:V->Prop
 | none:ef .none
 | int (i:Int):ef (.int i)
 | tup (y:V) (l:List V):y.dat=true->y.dep<=5->V.deq y (.str "reg")=false->l.length<1000->ef (.tup (y::l))
set_option tactic.hygienic true in
theorem ef.rd{R:List V}{x:V}(h:ef x):ID R x=[]:=by
 cases h with
 | none=>rfl
 | int i=>rfl
 | tup y l h1 h2 h3 h4=>exact if_neg λe=>Bool.noConfusion (h3.symm.trans e)
noncomputable def EW(x:V):Prop:=(∃i:Nat,i<10/\x=oR (.int i))\/ef x
theorem Gg{K:List V->Hp->Prop}{R:List V}{rg:Nat}(hr:J[rg]?=some (.list R))(hl:R.length=10)(hreg:cq ["one"] loc "registers"=some (.obj rg))(hg:gd J):∀{acc:List V},(∀x∈xs,EW x)->acc.length+xs.length<1000->K (acc++xs.flatMap (ID R)) J->
  dH gd (.name "one") (cq ["one"] loc) (dY (hO C gb) (ev C ga)) 0 xs acc J K:=by
 induction xs with
 | nil=>intro acc hx hl hk;exact ⟨hg,bn acc▸hk⟩
 | cons x xs ih =>
  intro acc hx hlen hk;rw [List.length_cons] at hlen;have l1:0+acc.length+1<big:=by unfold big;omega
  have no:ID R x=[]->0+acc.length+0<big/\dH gd (.name "one") (cq ["one"] loc) (dY (hO C gb) (ev C ga)) 0 xs (acc++[]) J K:=λh1=>by
   rw [List.flatMap_cons,h1,List.nil_append] at hk;exact ⟨aQ (bX _) l1,ih (λy hy=>hx y (aj _ hy)) (by rw [bn];omega) (by rw [bn];exact hk)⟩
  refine ⟨hg,?_⟩;rcases hx x ai with ⟨i,hi,rfl⟩ | hn
  ·refine ⟨rfl,rfl,ae,aw (a:=.obj rg) ((if_neg (by decide:¬("registers":String)="one")).trans hreg) ?_⟩;have hi2:i<R.length:=hl▸hi;have e:(R[(i:Int).toNat]?).getD .none=R[i]:=by rw [Int.toNat_natCast,aA hi2];rfl
   have e2:ID R (oR (.int i))=[R[i]]:=(if_pos (c:=V.deq (.str "reg") (.str "reg")=true) (e:=[]) rfl).trans (congrArg (λt=>[t]) e);refine bD (w:=R[i]) hr (hl▸by decide) ?_ ?_
   ·show (if 0<=(i:Int) then R[Int.toNat i]? else _)=some R[i];rw [if_pos (Int.natCast_nonneg _),Int.toNat_natCast,aA hi2]
   ·rw [List.flatMap_cons,e2,<-bi] at hk;exact ⟨l1,ih (λy hy=>hx y (aj _ hy)) (by rw [aH,List.length_singleton];omega) hk⟩
  ·cases hn with
   | none=>(conv=>whnf);exact no rfl
   | int i=>(conv=>whnf);exact no rfl
   | tup y l h1 h2 h3 h4 =>
    refine ⟨rfl,rfl,aQ (Nat.succ_lt_succ h4) (by decide),?_⟩;refine CK (a:=.tup [y]) (b:=.tup [.str "reg"]) (by show (y.dat&&true)=true;rw [h1];rfl) rfl (Nat.succ_le_succ (Nat.max_le.mpr ⟨h2,aC _⟩)) ?_;rw [show V.deq (.tup [y]) (.tup [.str "reg"])=false by show (match V.deq y (.str "reg") with | true=>V.deqs [] [] | false=>false)=false;rw [h3]];exact no (ef.rd (.tup y l h1 h2 h3 h4))
theorem wD{K:List V->Hp->Prop}{R:List V}{rg:Nat}(hr:J[rg]?=some (.list R))(hl:R.length=10)(hreg:cq ["one"] loc "registers"=some (.obj rg))(hg:gd J){ys:List V}(hx:∀x∈xs,EW x)(hn:xs.length<1000)(e:xs.flatMap (ID R)=ys)(hk:K ys J) :
  dH gd (.name "one") (cq ["one"] loc) (dY (hO C gb) (ev C ga)) 0 xs [] J K:=Gg hr hl hreg hg hx (by show 0+xs.length<1000;omega) (by subst e;exact hk)
variable{Own:SetI}{G0 G G':SetI}{m0 m:Int}{D D0:Dm}{mk:V->SetI}{T T':V->Prop}
variable{bk hd codes fo:Nat}{P:dh}{f:Int}
structure FD(bk hd fo B rg ow ab:Nat)(as:List (Nat×List V)):Prop where
 r:rg≠bk/\rg≠hd/\rg≠fo/\B<=rg
 o:ow≠bk/\ow≠hd/\ow≠fo/\B<=ow
 ro:rg≠ow
 ab:ab≠bk/\ab≠hd/\ab≠rg/\ab≠ow
 as:∀x∈as,x.1≠bk/\x.1≠hd/\x.1≠rg/\x.1≠ow
noncomputable def RV(i:Nat)(v:V):Prop:=(i≠8->gw v)/\(i=8->v=.none\/∃a b,v=.tup [a,b]/\gw a/\gw b)
theorem RV.val(h:RV i v):u8 v:=if e:i=8 then (h.2 e).imp .inl id else .inl (h.1 e)
structure FS(bk hd codes fo B:Nat)(P:dh)(fl:List (V×V))(F:Facts)(rg ow ab:Nat)(as:List (Nat×List V))(O:V->SetI->SetI)(Own:SetI)(cap:Int->SetI->SetI)(G0:SetI)(m0:Int)(D0:Dm)
  (J:Hp) (R:List V) (os:List Int) (G:SetI) (m:Int) (D:Dm) (c:Nat) (mk:V->SetI) (f:Int):Prop where
 ms:iE bk hd codes fo B c P fl J D m f
 fi:Fi O Own cap F G0 m0 G m D.cells mk
 arg:J[rg]?=some (.list R)
 rl:R.length=10
 rv:∀(i:Nat) v,R[i]?=some v->RV i v/\∀p,dk v p->dN O mk G (F (.held (.int i))) p
 aow:J[ow]?=some (.list (os.map V.int))
 own:∀o,o∈os↔∃s,mk s o/\¬F .gone s
 ond:os.Nodup
 dom:∀o∈os,∃l,D.cells o=some l
 old:∀o,o<=m0->(∃l,D0.cells o=some l)->∃l,D.cells o=some l
 aab:J[ab]?=some (.list (as.map λx=>V.obj x.1))
 av:∀x∈as,J[x.1]?=some (.list x.2)/\∀v∈x.2,u8 v/\∀p,dk v p->G p\/Own p
 g0:G 0
 z0:∃l,D.cells 0=some l
 da:∀p∈D,p.2.1≠rg/\p.2.1≠ow/\p.2.1≠ab/\∀x∈as,x.1≠p.2.1
 c6:6<=c
variable{rg ow ab:Nat}{R:List V}
noncomputable def j7(D:Dm)(c:Nat)(f:Int):Nat:=D.length+c+25*f.toNat
structure Frame(bk hd rg ow:Nat)(D:Dm)(J σ':Hp)(D':Dm):Prop where
 le:J.length<=σ'.length
 at':∀n,n<J.length->n≠bk->n≠hd->n≠rg->n≠ow->n∉D.map (·.2.1)->σ'[n]?=J[n]?
 ad:∀p∈D',p.2.1∈D.map (·.2.1)\/J.length<=p.2.1
noncomputable abbrev dU(bk hd codes fo B:Nat)(P:dh)(fl:List (V×V))(F:Facts)(rg ow ab:Nat)(as:List (Nat×List V))(O:V->SetI->SetI)(Own:SetI)(cap:Int->SetI->SetI)(G0:SetI)(m0:Int)(D0:Dm)(J:Hp)(D:Dm)(c:Nat)(f:Int)(Q:K1):Prop :=
 ∀σ' R' os' G' m' D' c' mk' f',FS bk hd codes fo B P fl F rg ow ab as O Own cap G0 m0 D0 σ' R' os' G' m' D' c' mk' f'->Frame bk hd rg ow D J σ' D'->j7 D' c' f'<=j7 D c f+3->Q .none σ'
noncomputable def iI(d:V):Prop:=∃i:Nat,i<10/\i≠8/\d=.int i
noncomputable def dm(a:V):Prop:=∃i:Nat,i<10/\i≠8/\a=oR (.int i)
noncomputable def ze(s:V):Prop:=(s.key=true/\s.dep<=3)/\ef s
theorem pQ:ef vT:=.tup _ _ rfl (aC _) rfl ae
theorem FS.heap(d:FD bk hd fo B rg ow ab as)(x:FS bk hd codes fo B P fl F rg ow ab as O Own cap G0 m0 D0 J R os G m D c mk f)(ms:iE bk hd codes fo B c P fl σ' D m f)(h:∀n,n<J.length->n≠bk->n≠hd->σ'[n]?=J[n]?):FS bk hd codes fo B P fl F rg ow ab as O Own cap G0 m0 D0 σ' R os G m D c mk f :=
 ⟨ms,x.fi,(h _ (a8 x.arg) d.r.1 d.r.2.1).trans x.arg,x.rl,x.rv,(h _ (a8 x.aow) d.o.1 d.o.2.1).trans x.aow,x.own,x.ond,x.dom,x.old,(h _ (a8 x.aab) d.ab.1 d.ab.2.1).trans x.aab,
  λy hy=>⟨(h _ (a8 (x.av y hy).1) (d.as y hy).1 (d.as y hy).2.1).trans (x.av y hy).1,(x.av y hy).2⟩,x.g0,x.z0,x.da,x.c6⟩
theorem FS.ext(d:FD bk hd fo B rg ow ab as)(x:FS bk hd codes fo B P fl F rg ow ab as O Own cap G0 m0 D0 J R os G m D c mk f)(p:J <+:σ'):FS bk hd codes fo B P fl F rg ow ab as O Own cap G0 m0 D0 σ' R os G m D c mk f :=
 x.heap d (x.ms.ext p) λn hn z_ z_=>by refine xe p λτ q=>?_;subst q;exact au hn
theorem FS.setR(d:FD bk hd fo B rg ow ab as)(x:FS bk hd codes fo B P fl F rg ow ab as O Own cap G0 m0 D0 J R os G m D c mk f)(hi:i<10)(hv:RV i v)(hr:∀p,dk v p->dN O mk G (F (.held (.int i))) p) :
  FS bk hd codes fo B P fl F rg ow ab as O Own cap G0 m0 D0 (J.set rg (.list (R.set i v))) (R.set i v) os G m D c mk f:=by
 have hd1:rg∉D.map (·.2.1):=λq=>by
  exact bO (List.mem_map.mp q) λp hp e=>(x.da p hp).1 e
 refine ⟨x.ms.setOther d.r.1 d.r.2.1 d.r.2.2.1 d.r.2.2.2 hd1,x.fi,bG x.arg,by rw [bE];exact x.rl,λj w hj=>?_,(aR d.ro).trans x.aow,x.own,x.ond,x.dom,x.old,(aR (bg d.ab.2.2.1)).trans x.aab,λy hy=>⟨(aR (bg (d.as y hy).2.2.1)).trans (x.av y hy).1,(x.av y hy).2⟩,x.g0,x.z0,x.da,x.c6⟩;by_cases e:i=j
 ·subst e;rw [List.getElem?_set_self (by rw [x.rl];exact hi)] at hj;cases hj;exact ⟨hv,hr⟩
 ·rw [List.getElem?_set_ne e] at hj;exact x.rv j w hj
theorem Frame.pre(p:J <+:σ'):Frame bk hd rg ow D J σ' D:=⟨bS p,λn hn z_ z_ z_ z_ z_=>by refine xe p λτ q=>?_;subst q;exact au hn,λp hp=>.inl (aX.mpr ⟨p,hp,rfl⟩)⟩
theorem Frame.trans{D' D'':Dm}(x:Frame bk hd rg ow D J σ' D')(y:Frame bk hd rg ow D' σ' σ'' D''):Frame bk hd rg ow D J σ'' D'' :=
 ⟨am x.le y.le,λn hn h1 h2 h3 h4 h5=>(y.at' n (ak hn x.le) h1 h2 h3 h4 λq=>by
   refine bO (List.mem_map.mp q) λp hp e=>?_;exact (x.ad p hp).elim (λq=>h5 (e▸q)) λq=>absurd hn (ci.mpr (e▸q))).trans (x.at' n hn h1 h2 h3 h4 h5),
  λp hp=>(y.ad p hp).elim (λq=>by
   refine bO (List.mem_map.mp q) λr hr e=>?_;exact e▸x.ad r hr) λq=>.inr (am x.le q)⟩
theorem fm{p:Int}:¬dk .none p:=λq=>q.elim (λe=>by cases e) λw=>bO w λz_ e z_=>by cases e
theorem iC{p:Int}(h:dk (aV o) p):p=o:=h.elim (λe=>by cases e;rfl) λq=>bO q λl e h=>by
 cases e;refine Or.elim (aO.mp h) (λe=>?_) (λh=>?_)
 ·cases e
 refine Or.elim (aO.mp h) (λe=>?_) (λh=>?_)
 ·cases e
 ·cases an.mp h
theorem iE.fresh(x:iE bk hd codes fo B c P fl J D m f):∀p∈D,p.1≠m+1:=λp hp e=>absurd (x.top p hp) (Int.not_le.mpr (e▸Int.lt_succ m))
theorem xw(h:∀p∈D,p.1≠m):D.cells m=none:=(Dm.get (D:=D) (o:=m)).elim (λq=>cG q λp hp e z_=>absurd e (h p hp)) And.right
theorem qW{s:V}:∀tb v,eW (·=tS s) (λz_=>False) F tb v->F tb v:=λtb v w=>bO w λg e q=>by
 subst e;rcases q with ⟨e,_⟩ | ⟨o,e,_⟩ | ⟨s',_,q | ⟨_,u,⟨t,ht,_⟩,_⟩⟩
 ·exact absurd e.symm il
 ·exact absurd e.symm ju
 ·exact q.2.elim
 ·exact ht.elim
theorem FS.made(E:FD bk hd fo B rg ow ab as)(cx:Cx O Own cap F G0 m0)(x:FS bk hd codes fo B P fl F rg ow ab as O Own cap G0 m0 D0 J R os G m D c mk f){cl:Nat}{s:V}(ms:iE bk hd codes fo B c P fl σ' (D++[(m+1,cl,l)]) (m+1) f)
  (hcl:J.length<=cl) (hw:(F .gone s/\σ'[ow]?=some (.list (os.map V.int)))\/(¬F .gone s/\σ'[ow]?=some (.list ((os++[m+1]).map V.int)))) (at':∀n,n<J.length->n≠bk->n≠hd->n≠ow->σ'[n]?=J[n]?)
  (hT:∀tb v,eW (·=tS s) T' F tb v->F tb v) (hl:∀v∈l,∀p,dk v p->dN O mk G T' p) :
  ∃os',FS bk hd codes fo B P fl F rg ow ab as O Own cap G0 m0 D0 σ' R os' (λo=>G o\/(F .gone s/\o=m+1)) (m+1) (D++[(m+1,cl,l)]) c (λs' o=>mk s' o\/(s'=s/\o=m+1)) f:=by
 have fr:=x.ms.fresh;have fi':=Fq (H':=Dm.cells (D++[(m+1,cl,l)])) cx x.fi s hT hl (λp w=>bO w λl' e z_=>by rw [xw fr] at e;cases e) λo p k=>CF fr k;have up:∀o,(∃l',D.cells o=some l')->∃l',Dm.cells (D++[(m+1,cl,l)]) o=some l':=λo z=>xe z λl' e=>by
  rw [Dm.app_cells fr];by_cases q:o=m+1
  ·exact ⟨l,if_pos q⟩
  ·exact ⟨l',(if_neg q).trans e⟩
 have top:∃l',Dm.cells (D++[(m+1,cl,l)]) (m+1)=some l':=⟨l,by rw [Dm.app_cells fr,if_pos rfl]⟩
 have da:∀p∈D++[(m+1,cl,l)],p.2.1≠rg/\p.2.1≠ow/\p.2.1≠ab/\∀x∈as,x.1≠p.2.1:=λp hp=>by
  rcases bV.mp hp with hp | rfl
  ·exact x.da p hp
  ·have k:∀a,a<J.length->cl≠a:=λa ha e=>bh _ (ak ha (e▸hcl));exact ⟨k _ (a8 x.arg),k _ (a8 x.aow),k _ (a8 x.aab),λy hy=>bg (k _ (a8 (x.av y hy).1))⟩
 have rv':∀(i:Nat) v,R[i]?=some v->RV i v/\∀p,dk v p->dN O (λs' o=>mk s' o\/(s'=s/\o=m+1)) (λo=>G o\/(F .gone s/\o=m+1)) (F (.held (.int i))) p:=λi v h=>⟨(x.rv i v h).1,λp hp=>((x.rv i v h).2 p hp).up cx (λz_=>.inl) λz_ z_=>.inl⟩
 have arg':=(at' _ (a8 x.arg) E.r.1 E.r.2.1 E.ro).trans x.arg;have aab':=(at' _ (a8 x.aab) E.ab.1 E.ab.2.1 E.ab.2.2.2).trans x.aab;have av':∀y∈as,σ'[y.1]?=some (.list y.2)/\∀v∈y.2,u8 v/\∀p,dk v p->(G p\/(F .gone s/\p=m+1))\/Own p:=λy hy =>
  have a:=E.as y hy
  ⟨(at' _ (a8 (x.av y hy).1) a.1 a.2.1 a.2.2.2).trans (x.av y hy).1,λv hv=>⟨((x.av y hy).2 v hv).1,λp hp=>(((x.av y hy).2 v hv).2 p hp).imp .inl id⟩⟩
 refine Or.elim hw (λu=>xa u λhg hw=>?_) (λt=>xa t λhg hw=>?_)
 ·exact ⟨os,ms,fi',arg',x.rl,rv',hw,λo=>(x.own o).trans ⟨λj=>bO j λs' h1 h2=>⟨s',.inl h1,h2⟩,λg=>bO g λs' h1 h2=>h1.elim (λh1=>⟨s',h1,h2⟩) λh=>absurd (h.1▸hg) h2⟩,x.ond,λo h=>up o (x.dom o h),λo h1 h2=>up o (x.old o h1 h2),aab',av',.inl x.g0,up 0 x.z0,da,x.c6⟩
 ·have lt:∀o∈os,o≠m+1:=λo h e=>by
   exact bO ((x.own o).mp h) λs' h1 z_=>absurd (x.fi.st.m4 s' o h1).2 (Int.not_le.mpr (e▸Int.lt_succ m))
  exact ⟨os++[m+1],ms,fi',arg',x.rl,rv',hw,λo=>bV.trans ⟨λh=>h.elim (λh=>let ⟨s',h1,h2⟩:=(x.own o).mp h;⟨s',.inl h1,h2⟩) λh=>⟨s,.inr ⟨rfl,h⟩,hg⟩,λd=>bO d λs' h1 h2=>h1.imp (λh1=>(x.own o).mpr ⟨s',h1,h2⟩) And.right⟩,
   List.nodup_append.mpr ⟨x.ond,List.nodup_cons.mpr ⟨aq,List.nodup_nil⟩,λa ha b hb=>by rw [an.mp hb];exact lt a ha⟩,λo h=>(bV.mp h).elim (λh=>up o (x.dom o h)) λh=>h▸top,λo h1 h2=>up o (x.old o h1 h2),aab',av',.inl x.g0,up 0 x.z0,da,x.c6⟩
theorem oY{r:Nat}{R:List V}{Q:Hp->Prop}(h:J[r]?=some (.list R))(hl:R.length=10)(hi:i<10)(hQ:Q (J.set r (.list (R.set i v)))):ds (.obj r) (.int i) v J Q :=
 pZ h (Int.natCast_nonneg _) (by rw [hl];exact Int.ofNat_lt.mpr hi) (by rw [hl];decide) (by rw [Int.toNat_natCast];exact hQ)
end
section
variable{Own:SetI}{G0 G G':SetI}{m0 m:Int}{D D0:Dm}{mk:V->SetI}{T T':V->Prop}
variable{bk hd codes fo:Nat}{P:dh}{f:Int}
variable{rg ow ab:Nat}{R:List V}
structure JX(R:List V)(a v:V):Prop where
 ok:EW a
 e:ID R a=[v]
structure Rd(R xs vs:List V):Prop where
 ok:∀y∈xs,EW y
 e:xs.flatMap (ID R)=vs
theorem Rd.nil:Rd R [] []:=⟨λz_ h=>(aq h).elim,rfl⟩
theorem Rd.no{y:V}{vs:List V}(h:ef y)(t:Rd R xs vs):Rd R (y::xs) vs:=⟨aP.mpr ⟨.inr h,t.ok⟩,by rw [List.flatMap_cons,h.rd];exact t.e⟩
theorem Rd.one{vs:List V}(h:JX R a v)(t:Rd R xs vs):Rd R (a::xs) (v::vs):=⟨aP.mpr ⟨h.ok,t.ok⟩,by rw [List.flatMap_cons,h.e,t.e];rfl⟩
theorem FS.opd2(x:FS bk hd codes fo B P fl F rg ow ab as O Own cap G0 m0 D0 J R os G m D c mk f)(ha:dm a):∃(i:Nat) (v:V),a=oR (.int i)/\zE R i=some v/\JX R a v/\gw v/\∀p,dk v p->dN O mk G (cg F a) p:=by
 refine cG ha λi hi h8 w=>?_;subst w;have hi2:i<R.length:=x.rl▸hi;have e:R[i]?=some R[i]:=aA hi2;have q:=x.rv i _ e;refine ⟨i,R[i],rfl,(if_pos (Int.natCast_nonneg _)).trans e,⟨.inl ⟨i,hi,rfl⟩,?_⟩,q.1.1 h8,λp hp=>(q.2 p hp).mono λt ht=>.inl ⟨_,rfl,ht⟩⟩;exact (if_pos (c:=V.deq (.str "reg") (.str "reg")=true) (e:=[]) rfl).trans (congrArg (λt=>[Option.getD t V.none]) (show R[((i:Int)).toNat]?=some R[i] from e))
theorem FS.opd(x:FS bk hd codes fo B P fl F rg ow ab as O Own cap G0 m0 D0 J R os G m D c mk f)(ha:dm a):∃v,JX R a v/\gw v/\∀p,dk v p->dN O mk G (cg F a) p :=
 let ⟨_,v,_,_,h⟩:=x.opd2 ha;⟨v,h⟩
theorem r8:ef (.int (i:Int)):=.int _
theorem oN{PP:Hp->Prop}(E:FD bk hd fo B rg ow ab as)(x:FS bk hd codes fo B P fl F rg ow ab as O Own cap G0 m0 D0 J R os G m D c mk f)(p:J <+:σa)(hi:i<10)(hv:RV i v)(hr:∀p,dk v p->dN O mk G (F (.held (.int i))) p)
  (hQ:dU bk hd codes fo B P fl F rg ow ab as O Own cap G0 m0 D0 J D c f Q) (hP:∀σ',Q .none σ'->PP σ'):ds (.obj rg) (.int i) v σa PP:=by
 have y:=x.ext E p;refine oY y.arg y.rl hi (hP _ ?_);exact hQ _ _ _ _ _ _ _ _ _ (y.setR E hi hv hr) ⟨by rw [bE];exact bS p,λn hn h1 h2 h3 h4 h5=>(aR (bg h3)).trans (by refine xe p λτ q=>?_;rw [<-q];exact au hn),λp hp=>.inl (aX.mpr ⟨p,hp,rfl⟩)⟩ (aN _ _)
theorem iF{PP:Hp->Prop}(E:FD bk hd fo B rg ow ab as)(x:FS bk hd codes fo B P fl F rg ow ab as O Own cap G0 m0 D0 J R os G m D c mk f)(p:J <+:σa)(hi:i<10)(h8:i≠8)
  (hQ:dU bk hd codes fo B P fl F rg ow ab as O Own cap G0 m0 D0 J D c f Q) (hP:∀σ',Q .none σ'->PP σ'):ds (.obj rg) (.int i) .none σa PP :=
 oN E x p hi ⟨λz_=>.inl rfl,λe=>absurd e h8⟩ (λp hp=>absurd hp fm) hQ hP
theorem gi{PP:Hp->Prop}{T:V->Prop}(E:FD bk hd fo B rg ow ab as)(x:FS bk hd codes fo B P fl F rg ow ab as O Own cap G0 m0 D0 J R os G m D c mk f)(p:J <+:σa)(hi:i<10)(h8:i≠8)(hv:gw v)(hr:∀p,dk v p->dN O mk G T p)(hcl:∀t,T t->F (.held (.int i)) t)
  (hQ:dU bk hd codes fo B P fl F rg ow ab as O Own cap G0 m0 D0 J D c f Q) (hP:∀σ',Q .none σ'->PP σ'):ds (.obj rg) (.int i) v σa PP :=
 oN E x p hi ⟨λz_=>hv,λe=>absurd e h8⟩ (λp hp=>(hr p hp).mono hcl) hQ hP
theorem mh(E:FD bk hd fo B rg ow ab as)(x:FS bk hd codes fo B P fl F rg ow ab as O Own cap G0 m0 D0 J R os G m D c mk f)(p:J <+:σa)
  (hQ:dU bk hd codes fo B P fl F rg ow ab as O Own cap G0 m0 D0 J D c f Q):Q .none σa:=hQ _ _ _ _ _ _ _ _ _ (x.ext E p) (.pre p) (aN _ _)
noncomputable abbrev Hx(bk rg ow ab:Nat)(w:String)(xs:List V)(rd:Nat):Loc:=setL (setL (jV jj.params [.obj bk,.obj rg,.tup (.str w::xs),.obj ow,.obj ab]) "word" (.str w)) "read" (.obj rd)
theorem dD{w:String}{vs:List V}(x:FS bk hd codes fo B P fl F rg ow ab as O Own cap G0 m0 D0 J R os G m D c mk f)(rd:Rd R xs vs)(hn:xs.length<1000)
  (h:∀K:KS,(∀loc σ',Q .none σ'->K .next loc σ')->ez (aZ a0 n) (jj.body.drop 2) (Hx bk rg ow ab w xs J.length) (J++[.list vs]) K):aZ a0 (n+1) ("","_law_step") [.obj bk,.obj rg,.tup (.str w::xs),.obj ow,.obj ab] J Q:=by
 refine bq (d:=jj) rfl ae ae ?_;have hb:(V.str w::xs).length<big:=ax hn (by decide);exact aw (show jT J (.tup (.str w::xs)) (.int 0)=some (.str w) from if_pos hb) ⟨rfl,rfl,hb,wD x.arg x.rl rfl (λn hn=>(aq hn).elim) rd.ok hn rd.e (h _ λz_ z_ q=>q)⟩
theorem sT{w:String}{Q:Bool->Prop}(h1:w≠"move")(h2:w≠"face")(q:Q false):dn (jL .isIn (J++[Ob.list [.str "move",.str "face"]]) (.str w) (.obj J.length)) Q :=
 iw (r:=false) (iT (l:=[.str "move",.str "face"]) aF rfl (aC _) rfl ae |>.trans (congrArg some (decide_eq_false λk=>(aO.mp k).elim (λe=>h1 (V.str.inj e)) λk=>h2 (V.str.inj (an.mp k))))) q
theorem Hf{w:String}{Q:Bool->Prop}(h1:w="move"\/w="face")(q:Q true):dn (jL .isIn (J++[Ob.list [.str "move",.str "face"]]) (.str w) (.obj J.length)) Q :=
 iw (r:=true) (iT (l:=[.str "move",.str "face"]) aF rfl (aC _) rfl ae |>.trans (congrArg some (bp (h1.elim (λe=>e▸.head _) λe=>e▸.tail _ (.head _))))) q
noncomputable abbrev F4:Ob:=.list [.str "move",.str "face"]
theorem BR{d:V}(E:FD bk hd fo B rg ow ab as)(x:FS bk hd codes fo B P fl F rg ow ab as O Own cap G0 m0 D0 J R os G m D c mk f)(hd1:iI d)(ha:dm a)(hcl:∀t,cg F a t->F (.held d) t)
  (hQ:dU bk hd codes fo B P fl F rg ow ab as O Own cap G0 m0 D0 J D c f Q):aZ a0 (n+1) ("","_law_step") [.obj bk,.obj rg,(Ln.move d a).vl,.obj ow,.obj ab] J Q:=by
 refine cG hd1 λi hi h8 q=>?_;subst q;exact cG (x.opd ha) λv e hv hr=>dD x (.no r8 (.one e .nil)) ae λK hK=>Hf (.inl rfl) (bD (l:=[v]) (w:=v) (aS aF) ae rfl (gi E x (az.trans az) hi h8 hv hr hcl hQ λz_=>hK _ _))
theorem BO(E:FD bk hd fo B rg ow ab as)(x:FS bk hd codes fo B P fl F rg ow ab as O Own cap G0 m0 D0 J R os G m D c mk f)(ha:dm a)(hcl:∀t,cg F a t->F (.held (.int 9)) t)
  (hQ:dU bk hd codes fo B P fl F rg ow ab as O Own cap G0 m0 D0 J D c f Q):aZ a0 (n+1) ("","_law_step") [.obj bk,.obj rg,(Ln.face a).vl,.obj ow,.obj ab] J Q:=by
 exact cG (x.opd ha) λv e hv hr=>dD x (.no (.int 9) (.one e (.no pQ .nil))) ae λK hK=>Hf (.inr rfl) (bD (l:=[v]) (w:=v) (aS aF) ae rfl (gi E x (az.trans az) (i:=9) (by decide) (by decide) hv hr hcl hQ λz_=>hK _ _))
theorem FS.cell(E:FD bk hd fo B rg ow ab as)(x:FS bk hd codes fo B P fl F rg ow ab as O Own cap G0 m0 D0 J R os G m D c mk f){p:Int×Nat×List V}(hp:p∈D){c':Nat}(hc:c<=c')(hl:l.length<=c')(hv:∀v∈l,gw v)(fi:Fi O Own cap F G0 m0 G m (D.upd p.1 l).cells mk) :
  FS bk hd codes fo B P fl F rg ow ab as O Own cap G0 m0 D0 (J.set p.2.1 (.list l)) R os G m (D.upd p.1 l) c' mk f:=by
 have da:=x.da p hp;have ne:=x.ms.ne p hp;have up:∀o,(∃l',D.cells o=some l')->∃l',(D.upd p.1 l).cells o=some l':=λo w=>xe w λl' e=>by
  rw [Dm.upd_cells];by_cases q:o=p.1
  ·subst q;exact ⟨l,by rw [if_pos rfl,e];rfl⟩
  ·exact ⟨l',(if_neg q).trans e⟩
 refine ⟨x.ms.setCell hp hc hl hv,fi,(aR da.1).trans x.arg,x.rl,x.rv,(aR da.2.1).trans x.aow,x.own,x.ond,λo h=>up o (x.dom o h),λo h1 h2=>up o (x.old o h1 h2),(aR da.2.2.1).trans x.aab,λy hy=>⟨(aR (bg (da.2.2.2 y hy))).trans (x.av y hy).1,(x.av y hy).2⟩,x.g0,up 0 x.z0,λq hq=>?_,am x.c6 hc⟩;refine bO (Dm.mem_upd hq) λr hr e=>?_;subst e;by_cases e1:r.1=p.1
 ·rw [if_pos e1];exact x.da r hr
 ·rw [if_neg e1];exact x.da r hr
theorem DH(h:j7 D c f<=4000):c<=4000:=am (am (Nat.le_add_left c D.length) (aN _ _)) h
theorem yA(h:j7 D c f<=4000)(q:n<=c):n+2<big:=ax (bQ (am q (DH h)) 2) (by decide)
theorem re(h:j7 D c f<=4000)(q:n<=c):n<big:=ax (aN n 2) (yA h q)
theorem Dm.upd_len:(D.upd o l).length=D.length:=aM ..
theorem zI{c':Nat}(h:c'<=c+2):j7 (D.upd o l) c' f<=j7 D c f+3:=by
 unfold j7;rw [Dm.upd_len];omega
theorem lW(E:FD bk hd fo B rg ow ab as)(x:FS bk hd codes fo B P fl F rg ow ab as O Own cap G0 m0 D0 J R os G m D c mk f)(p:J <+:σa){q:Int×Nat×List V}(hq:q∈D){c':Nat}(hc:c<=c')(hc2:c'<=c+2)(hl:l.length<=c')(hv:∀v∈l,gw v)(fi:Fi O Own cap F G0 m0 G m (D.upd q.1 l).cells mk)
  (hQ:dU bk hd codes fo B P fl F rg ow ab as O Own cap G0 m0 D0 J D c f Q):Q .none (σa.set q.2.1 (.list l)):=by
 refine hQ _ _ _ _ _ _ _ _ _ ((x.ext E p).cell E hq hc hl hv fi) ⟨by rw [bE];exact bS p,λn hn h1 h2 h3 h4 h5=>(aR λe=>h5 (aX.mpr ⟨q,hq,e⟩)).trans (by refine xe p λτ w=>?_;rw [<-w];exact au hn),λr hr=>.inl ?_⟩ (zI hc2);have:r.2.1∈(D.upd q.1 l).map (·.2.1):=aX.mpr ⟨r,hr,rfl⟩
 rwa [Dm.upd_map λz_ z_=>rfl] at this
theorem yQ(E:FD bk hd fo B rg ow ab as)(cx:Cx O Own cap F G0 m0)(x:FS bk hd codes fo B P fl F rg ow ab as O Own cap G0 m0 D0 J R os G m D c mk f)(ha:dm a)(hb:dm b)(hphi:j7 D c f<=4000)(hcl:∀tb v,eW (cg F a) (cg F b) F tb v->F tb v)
  (hQ:dU bk hd codes fo B P fl F rg ow ab as O Own cap G0 m0 D0 J D c f Q):aZ a0 (n+3) ("","_law_step") [.obj bk,.obj rg,(Ln.store a b).vl,.obj ow,.obj ab] J Q:=by
 refine cG (x.opd ha) λva ea pa ra=>cG (x.opd hb) λvb eb pb rb=>dD x (.one ea (.one eb .nil)) ae λK hK=>bD (l:=[va,vb]) (w:=va) aF ae rfl (bD (l:=[va,vb]) (w:=vb) aF ae rfl (Bx (x.ext E az).ms (ax (DH hphi) (by decide)) pa pb (hK _ _ (mh E x az hQ)) λq hq e1 e2 z_=>hK _ _ ?_));refine lW E x az hq (ay c) (aN _ _) (by rw [bE];exact (x.ms.ahd.a q hq).2.1) (λw hw=>(List.mem_or_eq_of_mem_set hw).elim ((x.ms.ahd.a q hq).2.2 w) λ(e:w=vb)=>e▸pb) ?_ hQ;exact jM cx x.fi hcl (ra q.1 (e1▸.inl rfl)) (λw hw p hp=>(List.mem_or_eq_of_mem_set hw).imp (λhw=>⟨q.2.2,e2,w,hw,hp⟩) λ(e:w=vb)=>rb p (e▸hp)) λo p k=>(lF k).imp And.right id
theorem BP{d:V}(E:FD bk hd fo B rg ow ab as)(cx:Cx O Own cap F G0 m0)(x:FS bk hd codes fo B P fl F rg ow ab as O Own cap G0 m0 D0 J R os G m D c mk f)(hd1:iI d)(ha:dm a)(hphi:j7 D c f<=4000)(hcl:∀t,mN F a t->F (.held d) t)
  (hQ:dU bk hd codes fo B P fl F rg ow ab as O Own cap G0 m0 D0 J D c f Q):aZ a0 (n+2) ("","_law_step") [.obj bk,.obj rg,(Ln.load d a).vl,.obj ow,.obj ab] J Q:=by
 refine cG hd1 λi hi h8 z=>?_;subst z;refine cG (x.opd ha) λva ea pa ra=>dD x (.no r8 (.one ea .nil)) ae λK hK=>bD (l:=[va]) (w:=va) aF ae rfl ?_;have x1:=x.ext E (az (τ:=[Ob.list [va]]));refine mH x1.ms pa λr hr=>?_;rcases hr with ⟨rfl,_⟩ | ⟨q,hq,rfl,rfl,e⟩
 ·exact iF E x az hi h8 hQ λz_=>hK _ _
 ·have y:=x1.ms.ahd.a q hq;have hcb:=re hphi y.2.1;refine aw (a:= !q.2.2.isEmpty) ((cF y.1).trans (if_pos hcb)) ?_
  cases hl:q.2.2 with
  | nil=>exact iF E x az hi h8 hQ λz_=>hK _ _
  | cons w r =>
   rw [hl] at y hcb;exact bD (l:=[aV q.1]) (w:=aV q.1) aF ae rfl (bD (l:=w::r) (w:=w) y.1 hcb rfl (gi E x az hi h8 (y.2.2 w ai) (λp hp=>nN cx x.fi (ra q.1 (.inl rfl)) ⟨q.2.2,e,w,hl▸ai,hp⟩) hcl hQ λz_=>hK _ _))
theorem DN{w:V}{p:Int}(pw:gw w)(hw:w∈[a,b])(hp:dk w p):dk (.tup [a,b]) p:=by
 rcases pw with rfl | ⟨o,rfl⟩
 ·exact absurd hp fm
 ·cases iC hp;exact .inr ⟨_,rfl,hw⟩
theorem BS{d j:V}(E:FD bk hd fo B rg ow ab as)(x:FS bk hd codes fo B P fl F rg ow ab as O Own cap G0 m0 D0 J R os G m D c mk f)(hd1:iI d)(hj:j=.int 0\/j=.int 1)(hcl:∀t,cg F (oR (.int 8)) t->F (.held d) t)
  (hQ:dU bk hd codes fo B P fl F rg ow ab as O Own cap G0 m0 D0 J D c f Q):aZ a0 (n+1) ("","_law_step") [.obj bk,.obj rg,(Ln.part d j).vl,.obj ow,.obj ab] J Q:=by
 refine cG hd1 λi hi h8 y=>?_;subst y;have h8R:8<R.length:=x.rl▸(by decide);have e:R[8]?=some R[8]:=aA h8R;have q:=x.rv 8 _ e;have e8:JX R (oR (.int 8)) R[8]:=⟨.inl ⟨8,by decide,rfl⟩,by show (if "reg"="reg" then [(R[8]?).getD .none] else [])=_;rw [if_pos rfl,e];rfl⟩
 have rf:∀p,dk R[8] p->dN O mk G (cg F (oR (.int 8))) p:=λp hp=>(q.2 p hp).mono λt ht=>.inl ⟨_,rfl,ht⟩;clear e;generalize R[8]=w8 at q e8 rf;refine dD x (vs:=[w8]) (.no r8 (.one e8 (.no (by rcases hj with rfl | rfl<;>exact .int _) .nil))) ae λK hK=>sT (by decide) (by decide) ?_;have px:J <+:(J++[Ob.list [w8]])++[F4]:=az.trans az;refine bD (i:=0) (l:=[w8]) (w:=w8) (aS aF) ae rfl ?_;rcases q.1.2 rfl with rfl | ⟨a,b,rfl,pa,pb⟩
 ·exact iF E x px hi h8 hQ λz_=>hK _ _
 ·refine bD (i:=0) (l:=[.tup [a,b]]) (w:=.tup [a,b]) (aS aF) ae rfl ?_;rcases hj with rfl | rfl
  ·exact gi E x px hi h8 pa (λp hp=>rf p (DN pa ai hp)) hcl hQ λz_=>hK _ _
  ·exact gi E x px hi h8 pb (λp hp=>rf p (DN pb (.tail _ (.head _)) hp)) hcl hQ λz_=>hK _ _
theorem FS.chan(x:FS bk hd codes fo B P fl F rg ow ab as O Own cap G0 m0 D0 J R os G m D c mk f):∃q∈D,q.1=0/\getD D.d (.int 0)=some (.obj q.2.1)/\D.cells 0=some q.2.2 :=
 (Dm.get (D:=D) (o:=0)).elim id λw=>xa w λz_ e=>let ⟨l,h⟩:=x.z0;absurd (e.symm.trans h) (λq=>by cases q)
theorem zD:ef vCHAN:=.tup _ _ rfl (aC _) rfl ae
theorem BV(E:FD bk hd fo B rg ow ab as)(cx:Cx O Own cap F G0 m0)(x:FS bk hd codes fo B P fl F rg ow ab as O Own cap G0 m0 D0 J R os G m D c mk f)(ha:dm a)(hphi:j7 D c f<=4000)(hcl:∀tb v,fA (cg F a) F tb v->F tb v)
  (hQ:dU bk hd codes fo B P fl F rg ow ab as O Own cap G0 m0 D0 J D c f Q):aZ a0 (n+1) ("","_law_step") [.obj bk,.obj rg,(Ln.send a).vl,.obj ow,.obj ab] J Q:=by
 refine cG (x.opd ha) λva ea pa ra=>oz x.chan λq hq e0 e1 e2=>dD x (.no zD (.one ea .nil)) ae λK hK=>sT (by decide) (by decide) ?_;have px:J <+:(J++[Ob.list [va]])++[F4]:=az.trans az;have x1:=x.ext E px;refine xe x1.ms.abk λbe hbe=>xe x1.ms.ahd.d λhe hhe=>?_;have y:=x1.ms.ahd.a q hq;refine dF hbe rfl (jS (w:=.obj q.2.1) hhe rfl (aC _) e1 ⟨A7 y.1 rfl,bD (i:=0) (l:=[va]) (w:=va) (aS aF) ae rfl (lU y.1 (re hphi y.2.1) (hK _ _ ?_))⟩);refine lW E x px hq (aN c 2) (ay _) (by rw [aH,List.length_singleton];exact am (bQ y.2.1 1) (Nat.le_succ _)) (λw hw=>(bV.mp hw).elim (y.2.2 w) λe=>e▸pa) ?_ hQ;refine jM (T:=(·=tB)) (T':=cg F a) cx x.fi (λtb v z=>bO z λg e k=>?_) ⟨tB,rfl,.inl ⟨rfl,e0▸x.g0⟩⟩ (λw hw p hp=>(bV.mp hw).imp (λhw=>⟨q.2.2,e0▸e2,w,hw,hp⟩) λ(e:w=va)=>ra p (e▸hp)) λo p k=>(lF k).imp And.right id;subst e;refine Or.elim k (λu=>xa u λz_ k=>?_) (λt=>Or.elim t (λr=>bO r λo e z_=>?_) (λj=>bO j λs e z_=>?_))
 ·exact hcl tb v k
 ·exact absurd e o8
 ·exact absurd e il
theorem wn(h:l≠[]):∃w∈l,zE l (-1)=some w:=by
 have hp:0<l.length:=List.length_pos_iff.mpr h;have ht:l.length-1<l.length:=Nat.sub_lt hp (by decide);refine ⟨l[l.length-1],List.getElem_mem ht,?_⟩;have e1:(-1+(l.length:Int))=((l.length-1:Nat):Int):=by rw [Int.ofNat_sub hp,Int.add_comm];rfl
 unfold zE;rw [if_neg (by decide),e1,if_pos (Int.natCast_nonneg _),Int.toNat_natCast];exact aA ht
theorem BU{d:V}(E:FD bk hd fo B rg ow ab as)(x:FS bk hd codes fo B P fl F rg ow ab as O Own cap G0 m0 D0 J R os G m D c mk f)(hd1:iI d)(hphi:j7 D c f<=4000)(hcl:F (.held d) tB)
  (hQ:dU bk hd codes fo B P fl F rg ow ab as O Own cap G0 m0 D0 J D c f Q):aZ a0 (n+1) ("","_law_step") [.obj bk,.obj rg,(Ln.recv d).vl,.obj ow,.obj ab] J Q:=by
 refine cG hd1 λi hi h8 z=>?_;subst z;refine oz x.chan λq hq e0 e1 e2=>dD x (.no r8 (.no .none (.no zD (.no pQ .nil)))) ae λK hK=>sT (by decide) (by decide) ?_;have px:J <+:(J++[Ob.list []])++[F4]:=az.trans az;have x1:=x.ext E px;refine xe x1.ms.abk λbe hbe=>xe x1.ms.ahd.d λhe hhe=>?_;have y:=x1.ms.ahd.a q hq;refine dF hbe rfl (jS (w:=.obj q.2.1) hhe rfl (aC _) e1 ?_);have vd:=ox (l:=q.2.2) λv hv=>.inl (y.2.2 v hv)
 cases hb:q.2.2.isEmpty with
 | true =>
  exact kU (b:=true) (aS y.1) aF vd.1 vd.2 hb (iF E x (px.trans az) hi h8 hQ λz_=>hK _ _)
 | false =>
  refine kU (b:=false) (aS y.1) aF vd.1 vd.2 hb (dF (aS hbe) rfl (jS (w:=.obj q.2.1) (aS hhe) rfl (aC _) e1 ?_));exact bO (wn (l:=q.2.2) λe=>by rw [e] at hb;cases hb) λw hw hn=>bD (i:= -1) (l:=q.2.2) (w:=w) (aS y.1) (re hphi y.2.1) hn (gi (T:=(·=tB)) E x (px.trans az) hi h8 (y.2.2 w hw) (λp hp=>⟨tB,rfl,.inl ⟨rfl,x.fi.g1 0 x.g0 p ⟨q.2.2,e2,w,hw,hp⟩⟩⟩) (λt e=>e▸hcl) hQ λz_=>hK _ _)
theorem dm.tup{a b:V}(h:dm a)(h2:dm b):ef (.tup [a,b]):=by
 refine cG h λi z_ z_ q=>?_;subst q;exact .tup _ _ rfl ae rfl ae
theorem wS(E:FD bk hd fo B rg ow ab as)(x:FS bk hd codes fo B P fl F rg ow ab as O Own cap G0 m0 D0 J R os G m D c mk f)(ha:dm a)(hb:dm b)(hcl:∀t,mF F [a,b] t->F (.held (.int 8)) t)
  (hQ:dU bk hd codes fo B P fl F rg ow ab as O Own cap G0 m0 D0 J D c f Q):aZ a0 (n+1) ("","_law_step") [.obj bk,.obj rg,(Ln.struct a b).vl,.obj ow,.obj ab] J Q:=by
 have nr:=ha.tup hb;refine dR (x.opd2 ha) λi va ea na z_ pa ra=>dR (x.opd2 hb) λj vb eb nb z_ pb rb=>dD x (.no (.int 8) (.no nr .nil)) ae λK hK=>sT (by decide) (by decide) ?_;have px:J <+:(J++[Ob.list []])++[F4]:=az.trans az;have x1:=x.ext E px;subst ea;subst eb;have lR:R.length<big:=by rw [x.rl];decide
 refine ⟨λn hn=>(aq hn).elim,bD (l:=R) (w:=va) x1.arg lR na ⟨ae,λn hn=>(aq hn).elim,bD (l:=R) (w:=vb) x1.arg lR nb ⟨ae,λn hn=>(aq hn).elim,xg (l:=[va,vb]) (fD aF) ae (oN E x (px.trans az) (i:=8) (by decide) ⟨λe=>absurd rfl e,λz_=>.inr ⟨va,vb,rfl,pa,pb⟩⟩ (λp hp=>?_) hQ λz_=>hK _ _)⟩⟩⟩;have rf:aV p=va\/aV p=vb:=hp.elim (λe=>by cases e) λq=>bO q λl e h=>by cases e;exact (aO.mp h).imp id an.mp
 refine Or.elim rf (λe=>?_) (λe=>?_)
 ·exact (ra p (e▸.inl rfl)).mono λt ht=>hcl t ⟨_,ai,ht⟩
 ·exact (rb p (e▸.inl rfl)).mono λt ht=>hcl t ⟨_,aj _ ai,ht⟩
end
section
variable{Own:SetI}{G0 G G':SetI}{m0 m:Int}{D D0:Dm}{mk:V->SetI}{T T':V->Prop}
variable{bk hd codes fo:Nat}{P:dh}{f:Int}
variable{rg ow ab:Nat}{R:List V}
theorem JO(h:j7 D c f<=4000):D.length<=4000:=am (am (aN _ c) (aN _ _)) h
theorem uq:ef vROW:=.tup _ _ rfl (aC _) rfl ae
theorem uo(i:Int):ef (GN i):=.tup _ _ rfl (aC _) rfl ae
theorem Kx{a x:Nat}:a+1+c+x<=a+c+x+3:=by omega
theorem nQ{s:V}(E:FD bk hd fo B rg ow ab as)(cx:Cx O Own cap F G0 m0)(x:FS bk hd codes fo B P fl F rg ow ab as O Own cap G0 m0 D0 J R os G m D c mk f)(p:J <+:σa)(hi:i<10)(h8:i≠8)(hks:s.key=true/\s.dep<=3)(hphi:j7 D c f<=4000)(hos:os.length<50000)(hfl:getD fl s=some (mark F s))(hh:F (.held (.int i)) (tS s))
  (hlen:l.length<=c) (hp:∀v∈l,gw v) (hT:∀tb v,eW (·=tS s) T' F tb v->F tb v) (hl:∀v∈l,∀p,dk v p->dN O mk G T' p)
  {Q2:K1} (h2:∀v σ' R',σ'[rg]?=some (.list R')->R'.length=10->Q .none (σ'.set rg (.list (R'.set i v)))->Q2 v σ')
  (hQ:dU bk hd codes fo B P fl F rg ow ab as O Own cap G0 m0 D0 J D c f Q):aZ a0 (n+1) ("","_law_new") [.obj bk,.obj σa.length,s,.obj ow] (σa++[.list l]) Q2:=by
 have p2:J <+:σa++[Ob.list l]:=p.trans az;have x2:=x.ext E p2;have lt:=x.ms.lt;have hge:J.length<=σa.length:=bS p;have fresh:∀a,a<J.length->σa.length≠a:=λa ha e=>bh _ (ak ha (e▸hge));refine Dz (F:=F) (cl:=σa.length) (l:=l) (os:=os) x2.ms aF ⟨fresh _ lt.1,fresh _ lt.2.1,fresh _ lt.2.2.1,am lt.2.2.2 hge⟩ (λq=>fresh _ (x.ms.adlt q) rfl) hlen hp (ax (JO hphi) (by decide)) hks hfl x2.aow ⟨E.o.1,E.o.2.1,E.o.2.2.1,E.o.2.2.2⟩ (λq=>?_) (bg (fresh _ (a8 x.aow))) hos λσ' ms' l' hw at'=>?_
 ·exact bO (List.mem_map.mp q) λp hp e=>(x.da p hp).2.1 e
 have lle:J.length<=σ'.length:=am (bS p2) (Nat.le_of_eq l'.symm);have at2:∀n,n<J.length->n≠bk->n≠hd->n≠ow->σ'[n]?=J[n]?:=λn hn h1 h2 h3=>(at' n h1 h2 h3).trans (by refine xe p2 λτ w=>?_;rw [<-w];exact au hn);refine xe (x.made E cx ms' hge hw at2 hT hl) λos' y=>h2 _ _ R y.arg y.rl (hQ _ _ _ _ _ _ _ _ _ (y.setR E (v:=aV (m+1)) hi ⟨λz_=>.inr ⟨_,rfl⟩,λe=>absurd e h8⟩ λp hp=>⟨tS s,hh,.inr (.inr ⟨s,rfl,.inr ⟨rfl,iC hp⟩⟩)⟩) ?_ ?_)
 ·refine ⟨by rw [bE];exact lle,λn hn h1 h2 h3 h4 h5=>(aR (bg h3)).trans (at2 n hn h1 h2 h4),λp hp=>?_⟩;rcases bV.mp hp with hp | rfl
  ·exact .inl (aX.mpr ⟨p,hp,rfl⟩)
  ·exact .inr hge
 ·unfold j7;rw [aH];exact Kx
noncomputable def Cl(D:Dm):List V->(List V->Prop)->Prop
 | [],P=>P []
 | v::vs,P=>∀r,vA D v r->Cl D vs λrs=>P (r::rs)
theorem su{vs:List V}:∀{P P':List V->Prop},(∀rs,P rs->P' rs)->Cl D vs P->Cl D vs P':=by
 induction vs with
 | nil=>intro P P' h q;exact h _ q
 | cons v vs ih=>intro P P' h q r hr;exact ih (λrs=>h (r::rs)) (q r hr)
theorem xu{K:List V->Hp->Prop}(ms:iE bk hd codes fo B c P fl J D m f)(hg:gd J)(hb:cq ["one"] loc "book"=some (.obj bk)){vs:List V}:∀{acc:List V},(∀v∈vs,gw v)->acc.length+vs.length<1000->Cl D vs (λrs=>K (acc++rs) J)->
  dH gd (.name "one") (cq ["one"] loc) (dY (hO (aZ a0 (n+1)) ik) (ev (aZ a0 (n+1)) ij)) 0 vs acc J K:=by
 induction vs with
 | nil=>intro acc _ _ h;exact ⟨hg,bn acc▸(show K (acc++[]) J from h)⟩
 | cons v vs ih =>
  intro acc hp hl h;rw [List.length_cons] at hl;refine ⟨hg,aw ((if_neg (by decide:¬("book":String)="one")).trans hb) ?_⟩;refine mH ms (hp v ai) λr hr=>⟨by show 0+acc.length+1<big;unfold big;omega,?_⟩
  exact ih (λw hw=>hp w (aj _ hw)) (by rw [aH,List.length_singleton];omega) (su (λrs q=>by rw [bi];exact q) (h r hr))
noncomputable abbrev Gh(bk rg ow:Nat)(w:String)(xs:List V)(rd sm:Nat):Loc:=setL (setL (setL (jV dw.params [.obj bk,.obj rg,.tup (.str w::xs),.obj ow]) "word" (.str w)) "read" (.obj rd)) "some" (.obj sm)
noncomputable abbrev Ky:List S:=[dw.body.getD 3 .cont]
theorem eX{w:String}{vs:List V}(E:FD bk hd fo B rg ow ab as)(x:FS bk hd codes fo B P fl F rg ow ab as O Own cap G0 m0 D0 J R os G m D c mk f)(hw:w="makeslice"\/w="append"\/w="copy"\/w="cut"\/w="elemptr"\/w="makemap"\/w="mapset"\/w="mapget")(rd:Rd R xs vs)(hn:xs.length<1000)(pv:∀v∈vs,gw v)(hv:vs.length<900)
  (h:Cl D vs λrs=>∀rA sm σa K,J <+:σa->J.length<=rA->σa[rA]?=some (.list vs)->σa[sm]?=some (.list rs)->(∀loc σ',Q .none σ'->K .next loc σ')->ez (aZ a0 (n+2)) Ky (Gh bk rg ow w xs rA sm) σa K):aZ a0 (n+4) ("","_law_step") [.obj bk,.obj rg,.tup (.str w::xs),.obj ow,.obj ab] J Q:=by
 refine dD x rd hn λK hK=>?_;have px:J <+:(J++[Ob.list vs])++[F4]:=az.trans az;have x1:=x.ext E px;have hb:(V.str w::xs).length<big:=ax hn (by decide);have go:aZ a0 (n+3) ("","_law_rows_step") [.obj bk,.obj rg,.tup (.str w::xs),.obj ow] ((J++[Ob.list vs])++[F4]) λz_ σ'=>K .next (Hx bk rg ow ab w xs J.length) σ':=by
  generalize (J++[Ob.list vs])++[F4]=Z at px x1 ⊢;refine bq (d:=dw) rfl ae ae (aw (show jT Z (.tup (.str w::xs)) (.int 0)=some (.str w) from if_pos hb) ⟨rfl,rfl,hb,wD x1.arg x1.rl rfl (λn hn=>(aq hn).elim) rd.ok hn rd.e (aw (ch aF) ?_)⟩);refine xu (x1.ext E az).ms (λz_ z_=>rfl) rfl pv (by rw [List.length_nil,Nat.zero_add];exact aQ hv (by decide)) (su (λrs q=>?_) h);exact q Z.length _ _ _ ((px.trans az).trans az) (bS px) (aS aF) aF λz_ z_=>hK _ _
 rcases hw with rfl | rfl | rfl | rfl | rfl | rfl | rfl | rfl<;>exact sT (by decide) (by decide) go
theorem vz{w:String}{Q:Bool->Prop}(h1:w≠"cut")(h2:w≠"elemptr")(q:Q false):dn (jL .isIn (J++[Ob.list [.str "cut",.str "elemptr"]]) (.str w) (.obj J.length)) Q :=
 iw (r:=false) (iT (l:=[.str "cut",.str "elemptr"]) aF rfl (aC _) rfl ae |>.trans (congrArg some (decide_eq_false λk=>(aO.mp k).elim (λe=>h1 (V.str.inj e)) λk=>h2 (V.str.inj (an.mp k))))) q
theorem GX{w:String}{Q:Bool->Prop}(h1:w="cut"\/w="elemptr")(q:Q true):dn (jL .isIn (J++[Ob.list [.str "cut",.str "elemptr"]]) (.str w) (.obj J.length)) Q :=
 iw (r:=true) (iT (l:=[.str "cut",.str "elemptr"]) aF rfl (aC _) rfl ae |>.trans (congrArg some (bp (h1.elim (λe=>e▸.head _) λe=>e▸.tail _ (.head _))))) q
theorem p1(h:gw a):∀v∈[a],gw v:=aP.mpr ⟨h,λz_ h=>(aq h).elim⟩
theorem p2(h:gw a)(h2:gw b):∀v∈[a,b],gw v:=aP.mpr ⟨h,p1 h2⟩
theorem p3{d:V}(h:gw a)(h2:gw b)(h3:gw d):∀v∈[a,b,d],gw v:=aP.mpr ⟨h,p2 h2 h3⟩
theorem El{d s:V}(E:FD bk hd fo B rg ow ab as)(cx:Cx O Own cap F G0 m0)(x:FS bk hd codes fo B P fl F rg ow ab as O Own cap G0 m0 D0 J R os G m D c mk f)(hd1:iI d)(hs:ze s)(hphi:j7 D c f<=4000)(hos:os.length<50000)(hfl:getD fl s=some (mark F s))(hh:F (.held d) (tS s))
  (hQ:dU bk hd codes fo B P fl F rg ow ab as O Own cap G0 m0 D0 J D c f Q):aZ a0 (n+2) ("","_law_step") [.obj bk,.obj rg,(Ln.new d s).vl,.obj ow,.obj ab] J Q:=by
 refine cG hd1 λi hi h8 w=>?_;subst w;refine dD x (.no r8 (.no pQ (.no hs.2 .nil))) ae λK hK=>?_;exact nQ E cx x az hi h8 hs.1 hphi hos hfl hh (am ae x.c6) (p1 (.inl rfl)) qW (λv hv p hp=>absurd hp (by rw [an.mp hv];exact fm)) (λv σ' R' h l q=>oY h l hi (hK _ _ q)) hQ
theorem Ek{d:V}(E:FD bk hd fo B rg ow ab as)(x:FS bk hd codes fo B P fl F rg ow ab as O Own cap G0 m0 D0 J R os G m D c mk f)(hd1:iI d)(ha:dm a)(hcl:∀t,cg F a t->F (.held d) t)
  (hQ:dU bk hd codes fo B P fl F rg ow ab as O Own cap G0 m0 D0 J D c f Q):aZ a0 (n+4) ("","_law_step") [.obj bk,.obj rg,(Ln.cut d a).vl,.obj ow,.obj ab] J Q:=by
 refine cG hd1 λi hi h8 q=>?_;subst q;exact cG (x.opd ha) λv e hv hr'=>eX (vs:=[v]) E x (by decide) (.no r8 (.one e (.no .none (.no .none (.no .none (.no uq .nil)))))) ae (p1 hv) ae λr hr rA sm σa K px hl hA hS hK=>GX (.inl rfl) (bD (i:=0) (l:=[v]) (w:=v) (aS hA) ae rfl (gi E x (px.trans az) hi h8 hv hr' hcl hQ λz_=>hK _ _))
theorem BN{d:V}{j:Int}(E:FD bk hd fo B rg ow ab as)(x:FS bk hd codes fo B P fl F rg ow ab as O Own cap G0 m0 D0 J R os G m D c mk f)(hd1:iI d)(ha:dm a)(hcl:∀t,cg F a t->F (.held d) t)
  (hQ:dU bk hd codes fo B P fl F rg ow ab as O Own cap G0 m0 D0 J D c f Q):aZ a0 (n+4) ("","_law_step") [.obj bk,.obj rg,(Ln.elem d a j).vl,.obj ow,.obj ab] J Q:=by
 refine cG hd1 λi hi h8 q=>?_;subst q;exact cG (x.opd ha) λv e hv hr'=>eX (vs:=[v]) E x (by decide) (.no r8 (.one e (.no (uo j) .nil))) ae (p1 hv) ae λr hr rA sm σa K px hl hA hS hK=>GX (.inr rfl) (bD (i:=0) (l:=[v]) (w:=v) (aS hA) ae rfl (gi E x (px.trans az) hi h8 hv hr' hcl hQ λz_=>hK _ _))
theorem wR{d s:V}(E:FD bk hd fo B rg ow ab as)(cx:Cx O Own cap F G0 m0)(x:FS bk hd codes fo B P fl F rg ow ab as O Own cap G0 m0 D0 J R os G m D c mk f)(hd1:iI d)(hs:ze s)(hphi:j7 D c f<=4000)(hos:os.length<50000)(hfl:getD fl s=some (mark F s))(hh:F (.held d) (tS s))
  (hQ:dU bk hd codes fo B P fl F rg ow ab as O Own cap G0 m0 D0 J D c f Q):aZ a0 (n+4) ("","_law_step") [.obj bk,.obj rg,(Ln.mslice d s).vl,.obj ow,.obj ab] J Q:=by
 refine cG hd1 λi hi h8 w=>?_;subst w;refine eX (vs:=[]) E x (by decide) (.no r8 (.no uq (.no (uo 1) (.no (uo 1) (.no hs.2 .nil))))) ae (λz_ h=>(aq h).elim) ae λrA sm σa K px hl hA hS hK=>?_;exact nQ E cx x px hi h8 hs.1 hphi hos hfl hh (am ae x.c6) (p1 (.inl rfl)) qW (λv hv p hp=>absurd hp (by rw [an.mp hv];exact fm)) (λv σ' R' h l q=>oY h l hi (hK _ _ q)) hQ
theorem BQ{t s:V}(E:FD bk hd fo B rg ow ab as)(cx:Cx O Own cap F G0 m0)(x:FS bk hd codes fo B P fl F rg ow ab as O Own cap G0 m0 D0 J R os G m D c mk f)(ht:ef t)(hs:ze s)(hphi:j7 D c f<=4000)(hos:os.length<50000)(hfl:getD fl s=some (mark F s))(hh:F (.held (.int 7)) (tS s))
  (hQ:dU bk hd codes fo B P fl F rg ow ab as O Own cap G0 m0 D0 J D c f Q):aZ a0 (n+4) ("","_law_step") [.obj bk,.obj rg,(Ln.mmap t s).vl,.obj ow,.obj ab] J Q:=by
 exact eX (vs:=[]) E x (by decide) (.no (.int 7) (.no ht (.no hs.2 .nil))) ae (λz_ h=>(aq h).elim) ae λrA sm σa K px hl hA hS hK=>vz (by decide) (by decide) (nQ E cx x (i:=7) (px.trans az) (by decide) (by decide) hs.1 hphi hos hfl hh (aC _) (λv hv=>(aq hv).elim) qW (λv hv=>(aq hv).elim) (λv σ' R' h l q=>oY h l (by decide) (hK _ _ q)) hQ)
theorem wP{d:V}(E:FD bk hd fo B rg ow ab as)(cx:Cx O Own cap F G0 m0)(x:FS bk hd codes fo B P fl F rg ow ab as O Own cap G0 m0 D0 J R os G m D c mk f)(hd1:iI d)(ha:dm a)(hphi:j7 D c f<=4000)(hcl:∀t,mN F (oR (.int 7)) t->F (.held d) t)
  (hQ:dU bk hd codes fo B P fl F rg ow ab as O Own cap G0 m0 D0 J D c f Q):aZ a0 (n+4) ("","_law_step") [.obj bk,.obj rg,(Ln.mapget d a).vl,.obj ow,.obj ab] J Q:=by
 refine cG hd1 λi hi h8 z=>?_;subst z;refine cG (x.opd (a:=oR (.int 7)) ⟨7,by decide,by decide,rfl⟩) λv e hv hr'=>cG (x.opd ha) λva ea pa z_=>eX (vs:=[v,va]) E x (by decide) (.no r8 (.no .none (.one e (.one ea (.no pQ .nil))))) ae (p2 hv pa) ae λr hr r2 z_ rA sm σa K px hl hA hS hK=>vz (by decide) (by decide) ?_;have px4:=px.trans (az (τ:=[Ob.list [.str "cut",.str "elemptr"]]));refine bD (i:=0) (l:=[r,r2]) (w:=r) (aS hS) ae rfl ?_;have x4:=x.ext E px4;rcases hr with ⟨rfl,_⟩ | ⟨q,hq,rfl,rfl,e2⟩
 ·exact iF E x px4 hi h8 hQ λz_=>hK _ _
 ·have y:=x4.ms.ahd.a q hq;have hcb:=re hphi y.2.1;refine aw (a:= !q.2.2.isEmpty) ((cF y.1).trans (if_pos hcb)) ?_
  cases hb:q.2.2.isEmpty with
  | true=>exact iF E x px4 hi h8 hQ λz_=>hK _ _
  | false =>
   exact bO (wn (l:=q.2.2) λe=>by rw [e] at hb;cases hb) λw hw hn=>bD (i:=0) (l:=[.obj q.2.1,r2]) (w:=.obj q.2.1) (aS hS) ae rfl (bD (i:= -1) (l:=q.2.2) (w:=w) y.1 hcb hn (gi E x px4 hi h8 (y.2.2 w hw) (λp hp=>nN cx x.fi (hr' q.1 (.inl rfl)) ⟨q.2.2,e2,w,hw,hp⟩) hcl hQ λz_=>hK _ _))
theorem tP{v:Nat}{lo hi:Option Int}(h:J[v]?=some (.list l))(h1:jl lo=true)(h2:jl hi=true)(hl:l.length<big)(q:Q (.obj J.length) (J++[.list (xD l lo hi)])):Jk (.obj v) lo hi J Q:=by
 exact ⟨h1,h2,dZ h ⟨hl,q⟩⟩
theorem wQ(E:FD bk hd fo B rg ow ab as)(cx:Cx O Own cap F G0 m0)(x:FS bk hd codes fo B P fl F rg ow ab as O Own cap G0 m0 D0 J R os G m D c mk f)(ha:dm a)(hb:dm b)(hphi:j7 D c f<=4000)(hcl:∀tb v,eW (cg F (oR (.int 7))) (mF F [a,b]) F tb v->F tb v)
  (hQ:dU bk hd codes fo B P fl F rg ow ab as O Own cap G0 m0 D0 J D c f Q):aZ a0 (n+4) ("","_law_step") [.obj bk,.obj rg,(Ln.mapset a b).vl,.obj ow,.obj ab] J Q:=by
 refine cG (x.opd (a:=oR (.int 7)) ⟨7,by decide,by decide,rfl⟩) λv e hv hr'=>cG (x.opd ha) λva ea pa ra=>cG (x.opd hb) λvb eb pb rb=>eX (vs:=[v,va,vb]) E x (by decide) (.one e (.one ea (.one eb .nil))) ae (p3 hv pa pb) ae λr hr r2 z_ r3 z_ rA sm σa K px hl hA hS hK=>vz (by decide) (by decide) ?_;have px4:=px.trans (az (τ:=[Ob.list [.str "cut",.str "elemptr"]]));refine bD (i:=0) (l:=[r,r2,r3]) (w:=r) (aS hS) ae rfl ?_;have x4:=x.ext E px4;rcases hr with ⟨rfl,_⟩ | ⟨q,hq,rfl,rfl,e2⟩
 ·exact hK _ _ (mh E x px4 hQ)
 ·have y:=x4.ms.ahd.a q hq;refine bD (i:=0) (l:=[.obj q.2.1,r2,r3]) (w:=.obj q.2.1) (aS hS) ae rfl ⟨A7 y.1 rfl,tP (l:=[aV q.1,va,vb]) (aS hA) rfl rfl ae (fT (l':=[va,vb]) (aS y.1) (fD aF) (yA hphi y.2.1) (hK _ _ ?_))⟩;refine lW E x (px4.trans az) hq (aN c 2) (ay _) (by rw [aH];exact bQ y.2.1 2) (λw hw=>(bt.mp hw).elim (y.2.2 w) (p2 pa pb w)) ?_ hQ;refine jM cx x.fi hcl (hr' q.1 (.inl rfl)) (λw hw p hp=>(bt.mp hw).imp (λhw=>⟨q.2.2,e2,w,hw,hp⟩) λhw=>?_) λo p k=>(lF k).imp And.right id;rcases aO.mp hw with rfl | hw
  ·exact (ra p hp).mono λt ht=>⟨_,ai,ht⟩
  ·cases an.mp hw;exact (rb p hp).mono λt ht=>⟨_,aj _ ai,ht⟩
theorem Iq{w:Nat}{r r2:V}(h:J[w]?=some (.list [r,r2]))(h1:r=.none\/∃n l,r=.obj n/\J[n]?=some (.list l))(h2:r2=.none\/∃n l,r2=.obj n/\J[n]?=some (.list l)):C2 J .none (.obj w)=some (r.isNone ||r2.isNone):=by
 refine (cF h).trans ?_;rcases h1 with rfl | ⟨n,l,rfl,e1⟩<;>rcases h2 with rfl | ⟨n2,l2,rfl,e2⟩
 ·rfl
 ·have:gJ J (.obj n2)=true:=congrArg Option.isSome (cF e2);show (if _ then _ else if (V.none.isNone&&(gJ J .none&&(gJ J (.obj n2)&&true)))=true then _ else _)=_;rw [if_neg (λq=>by cases q),this];exact if_pos rfl
 ·have:gJ J (.obj n)=true:=congrArg Option.isSome (cF e1);show (if _ then _ else if (V.none.isNone&&(gJ J (.obj n)&&(gJ J .none&&true)))=true then _ else _)=_;rw [if_neg (λq=>by cases q),this];exact if_pos rfl
 ·have t1:gJ J (.obj n)=true:=congrArg Option.isSome (cF e1);have t2:gJ J (.obj n2)=true:=congrArg Option.isSome (cF e2);show (if _ then _ else if (V.none.isNone&&(gJ J (.obj n)&&(gJ J (.obj n2)&&true)))=true then _ else _)=_;rw [if_neg (λq=>by cases q),t1,t2];exact if_pos rfl
theorem Db{m:Nat}{l':List V}{hi:Int}{Q:Loc->Hp->Prop}(e1:J[n]?=some (.list l))(e2:J[m]?=some (.list l'))(hne:n≠m)(h0:0<=hi)(h1:hi<100)(hb:l.length+l'.length<big)(q:Q loc (J.set n (.list (l'++l.drop hi.toNat)))):Da (.obj m) hi loc Q (.obj n) J:=by
 exact dZ e1 (dZ e2 ⟨hne,h0,h1,hb,q⟩)
theorem Fh{a b d:Nat}(h:a<=1)(h2:b<=d)(h3:6<=d):a+(b-1)<=d:=by omega
theorem BL(E:FD bk hd fo B rg ow ab as)(cx:Cx O Own cap F G0 m0)(x:FS bk hd codes fo B P fl F rg ow ab as O Own cap G0 m0 D0 J R os G m D c mk f)(ha:dm a)(hb:dm b)(hphi:j7 D c f<=4000)(hcl:∀tb v,eW (cg F a) (mN F b) F tb v->F tb v)
  (hQ:dU bk hd codes fo B P fl F rg ow ab as O Own cap G0 m0 D0 J D c f Q):aZ a0 (n+4) ("","_law_step") [.obj bk,.obj rg,(Ln.copy a b).vl,.obj ow,.obj ab] J Q:=by
 refine cG (x.opd ha) λva ea pa ra=>cG (x.opd hb) λvb eb pb rb=>eX (vs:=[va,vb]) E x (by decide) (.no .none (.one ea (.one eb .nil))) ae (p2 pa pb) ae λr hr r2 hr2 rA sm σa K px3 hl hA hS hK=>?_;have x3:=x.ext E px3;have k1:∀{v r},vA D v r->r=.none\/∃n l,r=.obj n/\σa[n]?=some (.list l):=λhr=>hr.imp And.left λ⟨q,hq,_,e,_⟩=>⟨_,_,e,(x3.ms.ahd.a q hq).1⟩
 refine nT (Iq hS (k1 hr) (k1 hr2)) ?_;have px4:=px3.trans (az (τ:=[Ob.list [.str "cut",.str "elemptr"]]));rcases hr with ⟨rfl,_⟩ | ⟨q,hq,rfl,rfl,e2⟩
 ·exact vz (by decide) (by decide) (hK _ _ (mh E x px4 hQ))
 ·rcases hr2 with ⟨rfl,_⟩ | ⟨q2,hq2,rfl,rfl,e3⟩
  ·exact vz (by decide) (by decide) (hK _ _ (mh E x px4 hQ))
  ·have y:=x3.ms.ahd.a q hq;have y2:=x3.ms.ahd.a q2 hq2;refine bD (i:=1) (l:=[.obj q.2.1,.obj q2.2.1]) (w:=.obj q2.2.1) hS ae rfl (gj (et y2.1) (re hphi y2.2.1) (tP (l:=q2.2.2) aF rfl rfl (re hphi y2.2.1) (bD (i:=0) (l:=[.obj q.2.1,.obj q2.2.1]) (w:=.obj q.2.1) (aS (aS hS)) ae rfl ?_)));have t1:(q2.2.2.take 1).length<=1:=List.length_take_le _ _;have l1:(q2.2.2.take 1++q.2.2.drop 1).length<=c:=by
    rw [aH,List.length_drop];exact Fh t1 y.2.1 x.c6
   refine Db (l:=q.2.2) (l':=q2.2.2.take 1) (aS (aS y.1)) aF (aW (ak (a8 y.1) (bS az))) (by decide) (by decide) (ax (cn (bT t1) _) (yA hphi y.2.1)) (hK _ _ ?_);refine lW E x ((px3.trans az).trans az) hq (ay c) (aN _ _) l1 (λw hw=>(bt.mp hw).elim (λhw=>y2.2.2 w (List.mem_of_mem_take hw)) λhw=>y.2.2 w (List.mem_of_mem_drop hw)) ?_ hQ;exact jM cx x.fi hcl (ra q.1 (.inl rfl)) (λw hw p hp=>(bt.mp hw).elim (λhw=>.inr (nN cx x.fi (rb q2.1 (.inl rfl)) ⟨q2.2.2,e3,w,List.mem_of_mem_take hw,hp⟩)) λhw=>.inl ⟨q.2.2,e2,w,List.mem_of_mem_drop hw,hp⟩) λo p k=>(lF k).imp And.right id
noncomputable def J8:S->List S | .ite _ a _=>a | _=>[]
noncomputable def Ja:S->List S | .ite _ _ b=>b | _=>[]
noncomputable def ni:List S:=J8 ((Ja (dw.body.getD 3 .cont)).getD 0 .cont)
theorem Gf{s:V}{A B:V->Prop}(h1:∀tb v,eW (·=tS s) A F tb v->F tb v)(h2:∀tb v,eW (·=tS s) B F tb v->F tb v):∀tb v,eW (·=tS s) (λt=>A t\/B t) F tb v->F tb v:=λtb v w=>bO w λg eg k=>by
 subst eg;rcases k with ⟨e,_⟩ | ⟨o,e,_⟩ | ⟨s',e,⟨e8,q⟩ | ⟨hg,u,⟨t,ht,st⟩,q⟩⟩
 ·exact absurd e.symm il
 ·exact absurd e.symm ju
 ·exact q.elim (λq=>h1 tb v ⟨_,rfl,.inr (.inr ⟨s',e,.inl ⟨e8,q⟩⟩)⟩) λq=>h2 tb v ⟨_,rfl,.inr (.inr ⟨s',e,.inl ⟨e8,q⟩⟩)⟩
 ·exact ht.elim (λht=>h1 tb v ⟨_,rfl,.inr (.inr ⟨s',e,.inr ⟨hg,u,⟨t,ht,st⟩,q⟩⟩)⟩) λht=>h2 tb v ⟨_,rfl,.inr (.inr ⟨s',e,.inr ⟨hg,u,⟨t,ht,st⟩,q⟩⟩)⟩
theorem Co{k wA w2 rdA:Nat}{d s:V}{l1 l2:List V}{va vb:V}{K:KS}(E:FD bk hd fo B rg ow ab as)(cx:Cx O Own cap F G0 m0)(x:FS bk hd codes fo B P fl F rg ow ab as O Own cap G0 m0 D0 J R os G m D c mk f)(px:J <+:σa)(hi:i<10)(h8:i≠8)(hphi:j7 D c f<=4000)(hos:os.length<50000)(hks:s.key=true/\s.dep<=3)(hfl:getD fl s=some (mark F s))(hh:F (.held (.int i)) (tS s))
  (hA:σa[wA]?=some (.list l1)) (h2:σa[w2]?=some (.list l2)) (hR:σa[rdA]?=some (.list [va,vb])) (e1:loc "whole"=some (.obj wA)) (e2:loc "more"=some (.obj w2)) (e3:loc "book"=some (.obj bk)) (e4:loc "registers"=some (.obj rg)) (e5:loc "owned"=some (.obj ow)) (e6:loc "read"=some (.obj rdA)) (e7:loc "line"=some (.tup [.str "append",.int (i:Int),a,b,vROW,s]))
  (p1:∀v∈l1,gw v) (p2:∀v∈l2,gw v) (n1:l1.length<=c) (n2:l2.length<=c) (pa:gw va)
  (r1:∀v∈l1,∀p,dk v p->dN O mk G (mN F a) p) (r2:∀v∈l2,∀p,dk v p->dN O mk G (mN F b) p) (ra:∀p,dk va p->dN O mk G (cg F a) p)
  (hrw:rdA≠wA) (hin:l1≠[]->∃q∈D,va=aV q.1/\wA=q.2.1/\D.cells q.1=some q.2.2/\l1=q.2.2)
  (hcl1:∀t,cg F a t->F (.held (.int i)) t) (hcl2:∀tb v,eW (λt=>cg F a t\/t=tS s) (mN F b) F tb v->F tb v) (hcl3:∀tb v,eW (·=tS s) (mN F a) F tb v->F tb v)
  (hK:∀loc' σ',Q .none σ'->K .next loc' σ')
  (hQ:dU bk hd codes fo B P fl F rg ow ab as O Own cap G0 m0 D0 J D c f Q):ez (aZ a0 (k+1)) (ni.drop 1) loc σa K:=by
 have hc:=DH hphi;have x1:=x.ext E px;have d1:=ox (l:=l1) λv hv=>.inl (p1 v hv);have hT:=Gf hcl3 λtb v k=>hcl2 tb v (k.mono (λz_ z_=>id) (λz_=>.inr) λz_=>id);have lim:∀{y:Nat},y<=c->y<big:=λ{y} h=>ax (am h hc) (by decide);have fresh:∀{K2:KS} {σ2:Hp},(∀loc' σ',Q .none σ'->K2 .next loc' σ')->J <+:σ2->σ2[wA]?=some (.list l1)->σ2[w2]?=some (.list l2)->ez (aZ a0 (k+1)) (Ja (ni.getD 1 .cont)) loc σ2 K2:=λ{K2 σ2} hK2 q2 hA2 h22=>by
  refine aw e3 (aw e1 (gj (et hA2) (lim n1) (aw e2 (lT aF (aS h22) (ax (Nat.add_le_add (am n1 hc) (am n2 hc)) (by decide)) ?_))));refine tP aF rfl rfl (by rw [aH];exact ax (Nat.add_le_add (am n1 hc) (am n2 hc)) (by decide)) (aw e7 (aw e5 ?_));refine nQ E cx x (l:=xD (l1++l2) none (some 6)) ((q2.trans az).trans az) hi h8 hks hphi hos hfl hh (am (by show ((l1++l2).take 6).length<=6;exact List.length_take_le ..) x.c6) (λv hv=>(bt.mp (List.mem_of_mem_take hv)).elim (p1 v) (p2 v)) hT (λv hv p hp=>(bt.mp (List.mem_of_mem_take hv)).elim (λh=>(r1 v h p hp).mono λt ht=>.inl ht) λh=>(r2 v h p hp).mono λt ht=>.inr ht) (λv σ' R' h l q=>?_) hQ;exact aw e4 (aw e7 (oY h l hi (hK2 _ _ q)))
 refine aw e1 ?_
 cases hb:l1.isEmpty with
 | true =>
  exact kU (b:=true) (aS hA) aF d1.1 d1.2 hb (fresh (λloc' σ' h=>hK loc' σ' h) (px.trans az) (aS hA) (aS h2))
 | false =>
  refine kU (b:=false) (aS hA) aF d1.1 d1.2 hb ?_;have q2:J <+:σa++[Ob.list []]:=px.trans az;have x2:=x.ext E q2;refine aw e1 (ku (iX (aS hA)) (lim n1) ?_)
  (conv=>whnf)
  by_cases hlt:((l1.length:Nat):Int)<3
  ·rw [bp hlt];refine xe x2.ms.abk λbe hbe=>aw e3 (dF hbe rfl ?_)
   (conv=>whnf)
   refine ⟨⟨by decide,by decide⟩,?_⟩
   (conv=>whnf)
   cases (V.int (m%2)).deq (V.int 0) with
   | false=>exact fresh (λloc' σ' h=>hK loc' σ' h) q2 (aS hA) (aS h2)
   | true =>
    obtain ⟨q,hq,eva,ew,ec,el⟩:=hin λe=>by rw [e] at hb;cases hb
    subst ew;subst el;refine aw e1 ⟨A7 (aS hA) rfl,aw e2 ?_⟩;have l3:q.2.2.length<=2:=Nat.le_of_lt_succ (Int.ofNat_lt.mp hlt);refine fT (l':=l2) (aS hA) (fD (aS h2)) (ax (Nat.add_le_add l3 (am n2 hc)) (by decide)) (aw e6 (bD (i:=0) (l:=[va,vb]) (w:=va) ((aR (bg hrw)).trans (aS hR)) ae rfl (aw e4 (aw e7 ?_))));have fi':=jM (H':=(D.upd q.1 (q.2.2++l2)).cells) cx x.fi (λtb v k=>hcl2 tb v (k.mono (λz_ z_=>id) (λz_=>.inl) λz_=>id)) (ra q.1 (eva▸.inl rfl)) (λw hw p hp=>(bt.mp hw).imp (λhw=>⟨q.2.2,ec,w,hw,hp⟩) λhw=>r2 w hw p hp) λo p k=>(lF k).imp And.right id;have y:=x2.cell E hq (l:=q.2.2++l2) (c':=c+2) (aN _ _) (by rw [aH];exact am (Nat.add_le_add l3 n2) (Nat.le_of_eq (Nat.add_comm 2 c))) (λw hw=>(bt.mp hw).elim (p1 w) (p2 w)) fi';refine oY y.arg y.rl hi (hK _ _ ?_);refine hQ _ _ _ _ _ _ _ _ _ (y.setR E hi ⟨λz_=>pa,λe=>absurd e h8⟩ λp hp=>(ra p hp).mono hcl1) ⟨by rw [bE,bE];exact bS q2,λn hn k1 k2 k3 k4 k5=>(aR (bg k3)).trans ((aR λe=>k5 (aX.mpr ⟨q,hq,e⟩)).trans (by refine xe q2 λτ z=>?_;rw [<-z];exact au hn)),λr hr=>?_⟩ ?_
    ·have:r.2.1∈(D.upd q.1 (q.2.2++l2)).map (·.2.1):=aX.mpr ⟨r,hr,rfl⟩;rw [Dm.upd_map λz_ z_=>rfl] at this;exact .inl this
    ·exact zI (ay _)
  ·rw [decide_eq_false hlt];exact fresh (λloc' σ' h=>hK loc' σ' h) q2 (aS hA) (aS h2)
end
section
variable{Own:SetI}{G0 G G':SetI}{m0 m:Int}{D D0:Dm}{mk:V->SetI}{T T':V->Prop}
variable{bk hd codes fo:Nat}{P:dh}{f:Int}
variable{rg ow ab:Nat}{R:List V}
theorem IN{K:KS}(hw:loc "word"=some (.str "append"))(h:ez C ni loc J (ud (ez C []) (ud (ez C []) K))):ez C [dw.body.getD 3 .cont] loc J K:=by
 exact aw hw (aw hw h)
theorem E6{k sm rdA:Nat}{d s r r2:V}{va vb:V}{K:KS}(E:FD bk hd fo B rg ow ab as)(cx:Cx O Own cap F G0 m0)(x:FS bk hd codes fo B P fl F rg ow ab as O Own cap G0 m0 D0 J R os G m D c mk f)(px:J <+:σa)(hi:i<10)(h8:i≠8)(hphi:j7 D c f<=4000)(hos:os.length<50000)(hks:s.key=true/\s.dep<=3)(hfl:getD fl s=some (mark F s))(hh:F (.held (.int i)) (tS s))
  (hS:σa[sm]?=some (.list [r,r2])) (hR:σa[rdA]?=some (.list [va,vb])) (hrd:J.length<=rdA) (e0:loc "some"=some (.obj sm)) (e3:loc "book"=some (.obj bk)) (e4:loc "registers"=some (.obj rg)) (e5:loc "owned"=some (.obj ow)) (e6:loc "read"=some (.obj rdA)) (e7:loc "line"=some (.tup [.str "append",.int (i:Int),a,b,vROW,s]))
  (hr:vA D va r) (hr2:vA D vb r2) (pa:gw va) (ra:∀p,dk va p->dN O mk G (cg F a) p) (rb:∀p,dk vb p->dN O mk G (cg F b) p)
  (hcl1:∀t,cg F a t->F (.held (.int i)) t) (hcl2:∀tb v,eW (λt=>cg F a t\/t=tS s) (mN F b) F tb v->F tb v) (hcl3:∀tb v,eW (·=tS s) (mN F a) F tb v->F tb v)
  (hK:∀loc' σ',Q .none σ'->K .next loc' σ')
  (hQ:dU bk hd codes fo B P fl F rg ow ab as O Own cap G0 m0 D0 J D c f Q):ez (aZ a0 (k+1)) ni loc σa K:=by
 have x1:=x.ext E px;have lim:∀{y:Nat},y<=c->y<big:=re hphi;have fin:∀{wA w2:Nat} {l1 l2:List V} {σ4:Hp},σa <+:σ4->σ4[wA]?=some (.list l1)->σ4[w2]?=some (.list l2)->(∀v∈l1,gw v/\∀p,dk v p->dN O mk G (mN F a) p)->(∀v∈l2,gw v/\∀p,dk v p->dN O mk G (mN F b) p)->l1.length<=c->l2.length<=c->rdA≠wA->
   (l1≠[]->∃q∈D,va=aV q.1/\wA=q.2.1/\D.cells q.1=some q.2.2/\l1=q.2.2)->ez (aZ a0 (k+1)) (ni.drop 1) (setL (setL loc "whole" (.obj wA)) "more" (.obj w2)) σ4 K:=λ{wA w2 l1 l2 σ4} p h1 h2 q1 q2 n1 n2 ne hin =>
  Co (rdA:=rdA) (va:=va) (vb:=vb) (d:=d) (b:=b) E cx x (px.trans p) hi h8 hphi hos hks hfl hh h1 h2 (bR p hR) rfl rfl e3 e4 e5 e6 e7 (λv h=>(q1 v h).1) (λv h=>(q2 v h).1) n1 n2 pa (λv h=>(q1 v h).2) (λv h=>(q2 v h).2) ra ne hin hcl1 hcl2 hcl3 hK hQ
 have none0:∀{X:V->Prop},∀v∈([]:List V),X v:=λ{X} v h=>(aq h).elim;have more:∀{wA:Nat} {l1:List V} {σ2:Hp} {Za:K1},σa <+:σ2->(∀w2 σ4 l2,σ2 <+:σ4->σ4[w2]?=some (.list l2)->(∀v∈l2,gw v/\∀p,dk v p->dN O mk G (mN F b) p)->l2.length<=c->Za (.obj w2) σ4)->ev (aZ a0 (k+1)) (.prim .list [(.or [(.sub (.var "some") (.const (.int 1))),(.list [])])]) loc σ2 Za:=λ{wA l1 σ2 Za} p hZ=>by
  refine aw e0 (bD (i:=1) (l:=[r,r2]) (w:=r2) (bR p hS) ae rfl ?_);have emp:∀{Z2:K1},(∀w2 σ4,σ2 <+:σ4->σ4[w2]?=some (.list [])->Z2 (.obj w2) σ4)->jq .list [.obj σ2.length] (σ2++[.list []]) Z2:=λ{Z2} h=>gj (et aF) ae (h _ _ (az.trans az) aF);rcases hr2 with ⟨rfl,_⟩ | ⟨q2,hq2,rfl,rfl,e3⟩
  ·exact emp λw2 σ4 p4 h4=>hZ w2 σ4 [] p4 h4 none0 (aC _)
  ·have y2:=(x1.ext E p).ms.ahd.a q2 hq2;refine aw (a:= !q2.2.2.isEmpty) ((cF y2.1).trans (if_pos (lim y2.2.1))) ?_
   cases hl:q2.2.2.isEmpty with
   | true=>exact emp λw2 σ4 p4 h4=>hZ w2 σ4 [] p4 h4 none0 (aC _)
   | false =>
    exact gj (et y2.1) (lim y2.2.1) (hZ _ _ q2.2.2 az aF (λv hv=>⟨y2.2.2 v hv,λp hp=>nN cx x.fi (rb q2.1 (.inl rfl)) ⟨q2.2.2,e3,v,hv,hp⟩⟩) y2.2.1)
 refine aw e0 (bD (i:=0) (l:=[r,r2]) (w:=r) hS ae rfl ?_);rcases hr with ⟨rfl,_⟩ | ⟨q,hq,rfl,rfl,e2⟩
 ·refine more (wA:=σa.length) (l1:=[]) (σ2:=σa++[.list []]) az λw2 σ4 l2 p4 h4 k4 n4=>?_;exact fin (wA:=σa.length) (w2:=w2) (l1:=[]) (az.trans p4) (bR p4 aF) h4 none0 k4 (aC _) n4 (aW (a8 hR)) λh=>absurd rfl h
 ·have y:=x1.ms.ahd.a q hq;have y0:=x.ms.ahd.a q hq;exact aw e0 (bD (i:=0) (l:=[.obj q.2.1,r2]) (w:=.obj q.2.1) hS ae rfl (more (wA:=q.2.1) (l1:=q.2.2) (σ2:=σa) (aD _) λw2 σ4 l2 p4 h4 k4 n4=>fin (wA:=q.2.1) (w2:=w2) (l1:=q.2.2) p4 (bR p4 y.1) h4 (λv hv=>⟨y.2.2 v hv,λp hp=>nN cx x.fi (ra q.1 (.inl rfl)) ⟨q.2.2,e2,v,hv,hp⟩⟩) k4 y.2.1 n4 (λe=>bh _ (ak (a8 y0.1) (e▸hrd))) λz_=>⟨q,hq,rfl,rfl,e2,rfl⟩))
theorem wO{d s:V}(E:FD bk hd fo B rg ow ab as)(cx:Cx O Own cap F G0 m0)(x:FS bk hd codes fo B P fl F rg ow ab as O Own cap G0 m0 D0 J R os G m D c mk f)(hd1:iI d)(ha:dm a)(hb:dm b)(hs:ze s)(hphi:j7 D c f<=4000)(hos:os.length<50000)(hfl:getD fl s=some (mark F s))(hcl:∀tb v,HO d a b s F tb v->F tb v)
  (hQ:dU bk hd codes fo B P fl F rg ow ab as O Own cap G0 m0 D0 J D c f Q):aZ a0 (n+4) ("","_law_step") [.obj bk,.obj rg,(Ln.append d a b s).vl,.obj ow,.obj ab] J Q:=by
 refine cG hd1 λi hi h8 w=>?_;subst w;exact cG (x.opd ha) λva ea pa ra=>cG (x.opd hb) λvb eb pb rb=>eX (vs:=[va,vb]) E x (by decide) (.no r8 (.one ea (.one eb (.no uq (.no hs.2 .nil))))) ae (p2 pa pb) ae λr hr r2 hr2 rA sm σa K px hl hA hS hK=>IN rfl (E6 (d:=.int (i:Int)) E cx x px hi h8 hphi hos hs.1 hfl (hcl _ _ (.inl (.inr ⟨rfl,rfl⟩))) hS hA hl rfl rfl rfl rfl rfl rfl hr hr2 pa ra rb (λt q=>hcl _ _ (.inr (.inl ⟨rfl,q⟩))) (λtb v q=>hcl tb v (.inr (.inr (.inl q)))) (λtb v q=>hcl tb v (.inr (.inr (.inr q)))) (λloc' σ' h=>hK _ _ h) hQ)
end
section
variable{Own:SetI}{F:V->Facts}{G0 G G':SetI}{m0 m:Int}{D D0:Dm}{mk:V->SetI}{T T':V->Prop}
variable{bk hd codes fo:Nat}{P:dh}{f:Int}
variable{rg ow ab:Nat}{R:List V}
noncomputable def Ln.mok:Ln->Prop
 | .new d s | .mslice d s=>iI d/\ef s
 | .mmap t s=>ef t/\ef s
 | .store a b | .copy a b | .mapset a b | .struct a b=>dm a/\dm b
 | .load d a | .move d a | .cut d a | .elem d a _ | .mapget d a=>iI d/\dm a
 | .append d a b s=>iI d/\dm a/\dm b/\ef s
 | .part d i=>iI d/\(i=.int 0\/i=.int 1)
 | .recv d=>iI d
 | .face a | .send a=>dm a
 | .call d1 d2 k a b=>iI d1/\iI d2/\dm a/\dm b
structure qa(P:dh)(F:V->Facts)(fl:List (V×V)):Prop where
 ok:P.Ok
 cl:cC P F
 mks:∀k∈bP,∀s∈P.news k,getD fl s=some (mark (F k) s)
 mok:∀k∈bP,∀x∈P.ls k,x.mok
 ra:∀k∈bP,dm (P.a k)
 rb:∀k∈bP,dm (P.b k)
 few:∀k∈bP,(P.ls k).length<=8
noncomputable def mB(bk hd codes fo B:Nat)(P:dh)(F:V->Facts)(fl:List (V×V))(n j:Nat):Prop :=
 ∀{J:Hp} {k x y:V} {gv ab:Nat} {as:List (Nat×List V)} {O:V->SetI->SetI} {Own:SetI} {cap:Int->SetI->SetI} {G:SetI} {m f:Int} {D:Dm} {c:Nat} {Q:K1},k∈bP->iE bk hd codes fo B c P fl J D m f->Cx O Own cap (F k) G m->
  J[gv]?=some (.list [x,y])->gw x->gw y->(∀p,dk x p->O (.int 0) G p)->(∀p,dk y p->O (.int 1) G p)->J[ab]?=some (.list (as.map λx=>V.obj x.1))->5<=as.length+j->as.length<=5->ab≠bk/\ab≠hd->
  (∀z∈as,(J[z.1]?=some (.list z.2)/\z.1≠bk/\z.1≠hd/\z.2.length<=10)/\∀v∈z.2,u8 v/\∀p,dk v p->G p\/Own p)->
  (∀p∈D,p.2.1≠ab/\∀z∈as,z.1≠p.2.1)->
  (∀o,G o->∀p,cont D.cells o p->G p)->(∀o,Own o->∀p,cont D.cells o p->cap o G p)->(∀o,G o->o<=m)->G 0->(∃l,D.cells 0=some l)->0<=m->6<=c->j7 D c f<=700->
  (∀σ' D' c' m' f' G' t0 t1,iE bk hd codes fo B c' P fl σ' D' m' f'->J.length<=σ'.length->(∀n,n<J.length->n≠bk->n≠hd->n∉D.map (·.2.1)->σ'[n]?=J[n]?)->(∀p∈D',p.2.1∈D.map (·.2.1)\/J.length<=p.2.1)->u6 G m G'->m<=m'->(∀o,G' o->∀p,cont D'.cells o p->G' p)->(∀o,Own o->∀p,cont D'.cells o p->cap o G' p)->(∀o,G' o->o<=m')->gw t0->gw t1->
   (∀p,dk t0 p->∃x,F k (.told (.int 0)) x/\O x G' p)->(∀p,dk t1 p->∃x,F k (.told (.int 1)) x/\O x G' p)->6<=c'->j7 D' c' f'<=j7 D c f->(∀o,o<=m->(∃l,D.cells o=some l)->∃l,D'.cells o=some l)->Q (.tup [t0,t1]) σ')->
  aZ a0 n ("","_law_called") [.obj bk,k,.obj gv,.obj ab] J Q
theorem cD(M:qa P F fl)(hk:k∈bP){x:Ln}(hx:x∈P.ls k)(h:qQ F x (F k) tb v):F k tb v:=(M.cl k hk).2 tb v (.inl ⟨x,hx,h⟩)
theorem q9(M:qa P F fl)(hk:k∈bP)(h:xZ (P.a k) (P.b k) (F k) tb v):F k tb v:=(M.cl k hk).2 tb v (.inr h)
theorem nU{a:Nat}(h:∀p∈D,p.2.1≠a):a∉D.map (·.2.1):=λq=>by
 exact bO (List.mem_map.mp q) λp hp e=>h p hp e
theorem FS.call{σ4:Hp}{D4:Dm}{c4:Nat}{m4 f4:Int}{G4:SetI}(E:FD bk hd fo B rg ow ab as)(cx:Cx O Own cap (F k) G0 m0)(x:FS bk hd codes fo B P fl (F k) rg ow ab as O Own cap G0 m0 D0 J R os G m D c mk f)
  (ms4:iE bk hd codes fo B c4 P fl σ4 D4 m4 f4) (k4:∀n,n<J.length->n≠bk->n≠hd->n∉D.map (·.2.1)->σ4[n]?=J[n]?) (ad4:∀p∈D4,p.2.1∈D.map (·.2.1)\/J.length<=p.2.1) (ext4:u6 G m G4) (lm4:m<=m4) (hm:0<=m) (g14:∀o,G4 o->∀p,cont D4.cells o p->G4 p)
  (g24:∀o,EV Own mk (F k) o->∀p,cont D4.cells o p->Jf O Own cap mk (F k) o G4 p) (gm4:∀o,G4 o->o<=m4) (c64:6<=c4) (keys4:∀o,o<=m->(∃l,D.cells o=some l)->∃l,D4.cells o=some l) :
  FS bk hd codes fo B P fl (F k) rg ow ab as O Own cap G0 m0 D0 σ4 R os G4 m4 D4 c4 mk f4:=by
 have fst:=x.fi.st;have st4:=fst.later ext4;have at4:∀{n o},n≠bk->n≠hd->(∀p∈D,p.2.1≠n)->J[n]?=some o->σ4[n]?=some o:=λ{n o} h1 h2 h4 h3=>(k4 n (a8 h3) h1 h2 (nU h4)).trans h3;have om:∀o∈os,o<=m:=λo ho=>let ⟨s,h1,_⟩:=(x.own o).mp ho;(fst.m4 s o h1).2
 have fi4:Fi O Own cap (F k) G0 m0 G4 m4 D4.cells mk:=by
  refine ⟨⟨st4.ext,Int.le_trans fst.le lm4,st4.m1,st4.m2,st4.m3,λs o h=>⟨(fst.m4 s o h).1,Int.le_trans (fst.m4 s o h).2 lm4⟩⟩,g14,λo ho p hp=>?_,λs o h1 h2 p hp=>?_,gm4⟩
  ·exact (g24 o (.inl ho) p hp).elim And.right λw=>bO w λs q z_=>absurd ho (fst.mkOwn cx q)
  ·exact (g24 o (.inr ⟨s,h1,h2⟩) p hp).elim (λq=>absurd q.1 (fst.mkOwn cx h1)) λy=>bO y λs' q q2=>fst.m3 _ _ _ q h1▸q2
 have da4:∀{a:Nat},a<J.length->(∀p∈D,p.2.1≠a)->∀p∈D4,p.2.1≠a:=λ{a} h1 h2 p hp e=>(ad4 p hp).elim (λq=>nU h2 (e▸q)) λq=>bh _ (ak h1 (e▸q));exact ⟨ms4,fi4,at4 E.r.1 E.r.2.1 (λp hp=>(x.da p hp).1) x.arg,x.rl,λi v hi=>⟨(x.rv i v hi).1,λp hp=>((x.rv i v hi).2 p hp).up cx ext4.1 λz_ z_=>id⟩,at4 E.o.1 E.o.2.1 (λp hp=>(x.da p hp).2.1) x.aow,x.own,x.ond,λo ho=>keys4 o (om o ho) (x.dom o ho),λo h1 h2=>keys4 o (Int.le_trans h1 fst.le) (x.old o h1 h2),at4 E.ab.1 E.ab.2.1 (λp hp=>(x.da p hp).2.2.1) x.aab,
  λz hz=>⟨at4 (E.as z hz).1 (E.as z hz).2.1 (λp hp=>bg ((x.da p hp).2.2.2 z hz)) (x.av z hz).1,λv hv=>⟨((x.av z hz).2 v hv).1,λp hp=>(((x.av z hz).2 v hv).2 p hp).imp (ext4.1 p) id⟩⟩,ext4.1 0 x.g0,keys4 0 hm x.z0,
  λp hp=>⟨da4 (a8 x.arg) (λp hp=>(x.da p hp).1) p hp,da4 (a8 x.aow) (λp hp=>(x.da p hp).2.1) p hp,da4 (a8 x.aab) (λp hp=>(x.da p hp).2.2.1) p hp,λz hz=>bg (da4 (a8 (x.av z hz).1) (λp hp=>bg ((x.da p hp).2.2.2 z hz)) p hp)⟩,c64⟩
theorem FS.aboves(E:FD bk hd fo B rg ow ab as)(cx:Cx O Own cap (F k) G0 m0)(x:FS bk hd codes fo B P fl (F k) rg ow ab as O Own cap G0 m0 D0 J R os G m D c mk f)(hal:∀z∈as,z.2.length<=10):∀z∈as++[(rg,R)],(J[z.1]?=some (.list z.2)/\z.1≠bk/\z.1≠hd/\z.2.length<=10)/\∀v∈z.2,u8 v/\∀p,dk v p->G p\/EV Own mk (F k) p:=λz hz=>by
 rcases bV.mp hz with hz | rfl
 ·have z1:=x.av z hz;have a:=E.as z hz;exact ⟨⟨z1.1,a.1,a.2.1,hal z hz⟩,λv hv=>⟨(z1.2 v hv).1,λp hp=>((z1.2 v hv).2 p hp).imp id .inl⟩⟩
 ·refine ⟨⟨x.arg,E.r.1,E.r.2.1,Nat.le_of_eq x.rl⟩,λv hv=>?_⟩;obtain ⟨i,hi,e⟩:=List.getElem_of_mem hv;have q:=x.rv i v (by rw [aA hi,e]);exact ⟨q.1.val,λp hp=>x.fi.st.where' cx (q.2 p hp)⟩
theorem GB{QQ:KS}{w y z t0 t1:V}{i1 i2:Nat}(h1:loc "registers"=some (.obj rg))(h2:loc "line"=some (.tup [w,.tup [.int (i1:Int),.int (i2:Int)],y,z]))(h:J[rg]?=some (.list R))(hl:R.length=10)(hi1:i1<10)(hi2:i2<10)
  (q:QQ .next loc ((J.set rg (.list (R.set i1 t0))).set rg (.list ((R.set i1 t0).set i2 t1)))) :
  IY (t9 C (.subs (.var "registers") (.sub (.sub (.var "line") (.const (.int 1))) (.const (.int 0))) (.var "registers") (.sub (.sub (.var "line") (.const (.int 1))) (.const (.int 1)))) QQ loc) J (.tup [t0,t1]):=by
 have hs:(J.set rg (.list (R.set i1 t0)))[rg]?=some (.list (R.set i1 t0)):=bG h;have hl2:(R.set i1 t0).length=10:=by rw [bE];exact hl
 refine aw h1 (aw h2 ?_)
 (conv=>whnf)
 refine dZ h ?_;refine ⟨Int.natCast_nonneg _,by rw [hl];exact Int.ofNat_lt.mpr hi1,by rw [hl];decide,aw h1 (aw h2 ?_)⟩
 (conv=>whnf)
 refine dZ hs ?_;exact ⟨Int.natCast_nonneg _,by rw [hl2];exact Int.ofNat_lt.mpr hi2,by rw [hl2];decide,q⟩
theorem BK{j:Nat}{d1 d2 k':V}(M:qa P F fl)(hk:k∈bP)(hx:Ln.call d1 d2 k' a b∈P.ls k)(ih:mB bk hd codes fo B P F fl n j)(E:FD bk hd fo B rg ow ab as)(cx:Cx O Own cap (F k) G0 m0)(x:FS bk hd codes fo B P fl (F k) rg ow ab as O Own cap G0 m0 D0 J R os G m D c mk f)
  (hj:5<=as.length+(j+1)) (has:as.length<=4) (hal:∀z∈as,z.2.length<=10) (hm:0<=m0) (hphi:j7 D c f<=700) (hn:1<=n)
  (hQ:dU bk hd codes fo B P fl (F k) rg ow ab as O Own cap G0 m0 D0 J D c f Q):aZ a0 (n+1) ("","_law_step") [.obj bk,.obj rg,(Ln.call d1 d2 k' a b).vl,.obj ow,.obj ab] J Q:=by
 cases n with
 | zero=>exact absurd hn (by decide)
 | succ n =>
 have hk':k'∈bP:=(M.ok.ls k hk _ hx).2.2.1;refine mV (M.mok k hk _ hx) λu r ha hb=>cG u λi1 hi1 h81 g=>?_;subst g;refine cG r λi2 hi2 h82 d=>?_;subst d;have hcl:∀tb v,gf (F k') a b (.int i1) (.int i2) (F k) tb v->F k tb v:=λtb v q=>cD M hk hx q;have nr:=ha.tup hb;refine dR (x.opd2 ha) λi va ea na z_ pa ra=>dR (x.opd2 hb) λj' vb eb nb z_ pb rb=>?_;have nl:∀{J σ':Hp},b8 [] J σ':=λz_ q=>(aq q).elim;have nr1:ef (.tup [.int (i1:Int),.int (i2:Int)]):=.tup _ _ rfl (aC _) rfl ae;have nr2:ef (.tup [.str "fn",k']):=.tup _ _ rfl (aC _) rfl ae;have fst:=x.fi.st;refine dD x (.no nr1 (.no nr2 (.no nr .nil))) ae λK hK=>sT (by decide) (by decide) ?_;have px:J <+:(J++[Ob.list []])++[F4]:=az.trans az;have x0:=x.ext E px;generalize (J++[Ob.list []])++[F4]=Z at px x0 ⊢;have x1:=x0.ext E (az (τ:=[Ob.list [va,vb]]));have x2:=x1.ext E (az (τ:=[Ob.list [V.obj rg]]));have x3:=x2.ext E (az (τ:=[Ob.list ((as++[(rg,R)]).map λx=>V.obj x.1)]));have p3:J <+:Z++[Ob.list [va,vb]]++[Ob.list [V.obj rg]]++[Ob.list ((as++[(rg,R)]).map λx=>V.obj x.1)]:=((px.trans az).trans az).trans az;have pat:∀n,n<J.length->(Z++[Ob.list [va,vb]]++[Ob.list [V.obj rg]]++[Ob.list ((as++[(rg,R)]).map λx=>V.obj x.1)])[n]?=J[n]?:=λn hn=>by
  refine xe p3 λτ u=>?_;rw [<-u];exact au hn
 have l5:(as++[(rg,R)]).length=as.length+1:=aH;have lR:R.length<big:=by rw [x.rl];decide
 have hcl':∀tb v,gf (F k') (oR (.int i)) (oR (.int j')) (.int i1) (.int i2) (F k) tb v->F k tb v:=by rw [<-ea,<-eb];exact hcl
 rw [ea] at ra ⊢;rw [eb] at rb ⊢;refine ⟨nl,bD (l:=R) (w:=va) x0.arg lR na ⟨ae,nl,bD (l:=R) (w:=vb) x0.arg lR nb ⟨ae,nl,?_⟩⟩⟩;refine lT x2.aab aF (by rw [aM];exact ax (bQ has 1) (by decide)) ?_;rw [show (as.map λx=>V.obj x.1)++[V.obj rg]=(as++[(rg,R)]).map λx=>V.obj x.1 by rw [List.map_append];rfl];have lt2:∀{a},a<J.length->(Z++[Ob.list [va,vb]]++[Ob.list [V.obj rg]]).length≠a:=λh e=>bh _ (ak (e▸h) (bS ((px.trans az).trans az)));refine ih hk' x3.ms (Ab cx fst hcl') (aS (aS aF)) pa pb (λp hp=>(ra p hp).mono λt q=>.inl ⟨rfl,t,q,.refl⟩) (λp hp=>(rb p hp).mono λt q=>.inr (.inl ⟨rfl,t,q,.refl⟩)) aF (by rw [l5];omega) (by rw [l5];omega) ⟨lt2 x.ms.lt.1,lt2 x.ms.lt.2.1⟩ (x3.aboves E cx hal)
  (λp hp=>⟨bg (lt2 (x.ms.adlt (aX.mpr ⟨p,hp,rfl⟩))),λz hz=>(bV.mp hz).elim ((x.da p hp).2.2.2 z) λe=>e▸bg (x.da p hp).1⟩) x.fi.g1
  (λo ho p hp=>ho.elim (λho=>.inl ⟨ho,x.fi.g2 o ho p hp⟩) λW=>bO W λs h1 h2=>.inr ⟨s,h1,x.fi.g3 s o h1 h2 p hp⟩) x.fi.gm x.g0 x.z0 (Int.le_trans hm fst.le) x.c6 hphi λσ4 D4 c4 m4 f4 G4 t0 t1 ms4 le4 k4 ad4 ext4 lm4 g14 g24 gm4 v0 v1 r0 r1 c64 phi4 keys4=>?_
 have k4':∀n,n<J.length->n≠bk->n≠hd->n∉D.map (·.2.1)->σ4[n]?=J[n]?:=λn hn h1 h2 h3=>(k4 n (ak hn (bS p3)) h1 h2 h3).trans (pat n hn);have ad4':∀p∈D4,p.2.1∈D.map (·.2.1)\/J.length<=p.2.1:=λp hp=>(ad4 p hp).imp id (am (bS p3));have x4:=x.call E cx ms4 k4' ad4' ext4 lm4 (Int.le_trans hm fst.le) g14 g24 gm4 c64 keys4;have x5:=x4.setR E hi1 ⟨λz_=>v0,λe=>absurd e h81⟩ λp hp=>let ⟨y,h1,h2⟩:=r0 p hp;dN.mono (λt ht=>hcl' _ _ (.inr (.inr (.inl ⟨y,h1,rfl,ht⟩)))) h2
 have x6:=x5.setR E hi2 ⟨λz_=>v1,λe=>absurd e h82⟩ λp hp=>let ⟨y,h1,h2⟩:=r1 p hp;dN.mono (λt ht=>hcl' _ _ (.inr (.inr (.inr ⟨y,h1,rfl,ht⟩)))) h2
 dsimp only [t9,HP,ud];refine tJ (aw rfl (GB rfl rfl x4.arg x4.rl hi1 hi2 (hK _ _ ?_)));exact hQ _ _ os G4 m4 D4 c4 mk f4 x6 ⟨by rw [bE,bE];exact am (bS p3) le4,λn hn h1 h2 h3 h4 h5=>(aR (bg h3)).trans ((aR (bg h3)).trans (k4' n hn h1 h2 h5)),ad4'⟩ (am phi4 (aN _ _))
end
section
variable{Own:SetI}{F:V->Facts}{G0 G G':SetI}{m0 m:Int}{D D0:Dm}{mk:V->SetI}{T T':V->Prop}
variable{bk hd codes fo:Nat}{P:dh}{f:Int}
variable{rg ow ab:Nat}{R:List V}
theorem IT(h:∀v∈l,u8 v):xj l<=6*l.length:=by
 induction l with
 | nil=>exact ay _
 | cons x r ih =>
  show wt x+xj r<=6*r.length+6;rw [Nat.add_comm];exact Nat.add_le_add (ih λy hy=>h y (aj _ hy)) (EN (h x ai)).2
theorem Ge{a b:Nat}(h:a+b<=724):2*b*a<=524176:=by
 rw [Nat.mul_assoc];refine Or.elim (Nat.le_total a 362) (λq=>?_) (λq=>?_)
 ·exact Nat.mul_le_mul_left 2 (am (Nat.mul_le_mul (show b<=724 by omega) q) (by decide:724*362<=262088))
 ·exact Nat.mul_le_mul_left 2 (am (Nat.mul_le_mul (show b<=362 by omega) (show a<=724 by omega)) (by decide:362*724<=262088))
theorem B2:hV D []<=D.length:=List.length_filter_le _ _
theorem xX{sm:Nat}{vals:List V}{A:V->Prop}(ms:iE bk hd codes fo B c P fl J D m f)(hs:J[sm]?=some (.list vals))(hv:∀v∈vals,u8 v/\A v)(hl:vals.length<1000)(hD:D.length+c<=724)
  (hA:∀o l,A (aV o)->D.cells o=some l->∀v∈l,A v) (hT:∀a b,A (.tup [a,b])->A a/\A b)
  (hQ:∀r σ' fs,J <+:σ'->σ'[r]?=some (.list fs)->(∀v∈fs,∃o,v=.int o/\A (aV o))->Q (.obj r) σ'):aZ a0 (n+1) ("","_law_leads") [.obj bk,.obj sm] J Q:=by
 refine xe ms.abk λbe hbe=>?_;have w1:=IT λv q=>(hv v q).1;have w2:2*c*hV D []<=524176:=am (Nat.mul_le_mul_left _ B2) (Ge hD);refine bq (d:=m6) rfl ae ae (gj (et (aS hs)) (aQ hl (by decide)) ⟨540001,?_⟩);exact xW (A:=A) (n:=540000) (ls:=vals) (fs:=[]) hbe ms.ahd (lf:=(J++[Ob.list []]).length) (fd:=J.length) (bS az) (ay _) (bg (aW (a8 aF))) hA hT ⟨az.trans az,aF,aS aF,hv,λv hv=>(aq hv).elim,by omega,by rw [List.length_nil];omega⟩ rfl rfl rfl λloc' σ' fs' ag p hr hf hl'=>aw (ag.at (by decide) rfl) (hQ _ σ' fs' p hr hf)
theorem As{F:Facts}(x:FS bk hd codes fo B P fl F rg ow ab as O Own cap G0 m0 D0 J R os G m D c mk f):os.length<=D.length:=by
 have h2:=cV (l:=os) (m:=D.map (·.1)) x.ond λo ho=>by
  obtain ⟨l,e⟩:=x.dom o ho;refine Or.elim (Dm.get (D:=D) (o:=o)) (λq=>oz q λp hp e1 z_ z_=>?_) (λw=>xa w λz_ e2=>?_)
  ·exact aX.mpr ⟨p,hp,e1⟩
  ·rw [e2] at e;cases e
 rwa [aM] at h2
theorem Ej{j:Nat}{y:Ln}(M:qa P F fl)(hk:k∈bP)(hy:y∈P.ls k)(ih:mB bk hd codes fo B P F fl (n+3) j)(E:FD bk hd fo B rg ow ab as)(cx:Cx O Own cap (F k) G0 m0)(x:FS bk hd codes fo B P fl (F k) rg ow ab as O Own cap G0 m0 D0 J R os G m D c mk f)
  (hj:5<=as.length+(j+1)) (has:as.length<=4) (hal:∀z∈as,z.2.length<=10) (hm:0<=m0) (hphi:j7 D c f<=700) (sp:dU bk hd codes fo B P fl (F k) rg ow ab as O Own cap G0 m0 D0 J D c f Q):aZ a0 (n+4) ("","_law_step") [.obj bk,.obj rg,y.vl,.obj ow,.obj ab] J Q:=by
 have mok:=M.mok k hk y hy;have h4:j7 D c f<=4000:=am hphi (by decide);have hos:os.length<50000:=ax (am (As x) (am (am (aN _ c) (aN _ (25*f.toNat))) h4)) (by decide);have nw:∀{s},s∈y.news->getD fl s=some (mark (F k) s)/\s.key=true/\s.dep<=3:=λ{s} h=>by
  have hs:s∈P.news k:=List.mem_flatMap.mpr ⟨_,hy,h⟩;exact ⟨M.mks k hk s hs,M.ok.key k hk s hs⟩
 cases y with
 | new d s=>have q:=nw ai;exact El E cx x mok.1 ⟨q.2,mok.2⟩ h4 hos q.1 (cD M hk hy (.inr ⟨rfl,rfl⟩)) sp
 | mslice d s=>have q:=nw ai;exact wR E cx x mok.1 ⟨q.2,mok.2⟩ h4 hos q.1 (cD M hk hy (.inr ⟨rfl,rfl⟩)) sp
 | mmap t s=>have q:=nw ai;exact BQ E cx x mok.1 ⟨q.2,mok.2⟩ h4 hos q.1 (cD M hk hy (.inr ⟨rfl,rfl⟩)) sp
 | append d a b s=>have q:=nw ai;exact wO E cx x mok.1 mok.2.1 mok.2.2.1 ⟨q.2,mok.2.2.2⟩ h4 hos q.1 (λtb v q=>cD M hk hy q) sp
 | store a b=>exact yQ E cx x mok.1 mok.2 h4 (λtb v q=>cD M hk hy q) sp
 | copy a b=>exact BL E cx x mok.1 mok.2 h4 (λtb v q=>cD M hk hy q) sp
 | mapset a b=>exact wQ E cx x mok.1 mok.2 h4 (λtb v q=>cD M hk hy q) sp
 | load d a=>exact BP E cx x mok.1 mok.2 h4 (λu q=>cD M hk hy ⟨rfl,q⟩) sp
 | mapget d a=>exact wP E cx x mok.1 mok.2 h4 (λu q=>cD M hk hy ⟨rfl,q⟩) sp
 | move d a=>exact BR E x mok.1 mok.2 (λu q=>cD M hk hy ⟨rfl,q⟩) sp
 | cut d a=>exact Ek E x mok.1 mok.2 (λu q=>cD M hk hy ⟨rfl,q⟩) sp
 | elem d a i=>exact BN E x mok.1 mok.2 (λu q=>cD M hk hy ⟨rfl,q⟩) sp
 | struct a b=>exact wS E x mok.1 mok.2 (λu q=>cD M hk hy ⟨rfl,q⟩) sp
 | part d i=>exact BS E x mok.1 mok.2 (λu q=>cD M hk hy ⟨rfl,q⟩) sp
 | face a=>exact BO E x mok (λu q=>cD M hk hy (.inr ⟨rfl,q⟩)) sp
 | send a=>exact BV E cx x mok h4 (λtb v q=>cD M hk hy q) sp
 | recv d=>exact BU E x mok h4 (cD M hk hy ⟨rfl,rfl⟩) sp
 | call d1 d2 k' a b=>exact BK M hk hy ih E cx x hj has hal hm hphi (Nat.le_add_left _ _) sp
theorem ya{N j:Nat}{li:Nat}(M:qa P F fl)(hk:k∈bP)(ih:mB bk hd codes fo B P F fl (N+2*j+5) j)(E:FD bk hd fo B rg ow ab as)(cx:Cx O Own cap (F k) G0 m0)
  (hj:5<=as.length+(j+1)) (has:as.length<=4) (hal:∀z∈as,z.2.length<=10) (hm:0<=m0) (hliB:li<B) {rest:List Ln}:∀{loc:Loc} {J:Hp} {R:List V} {os:List Int} {G:SetI} {m:Int} {D:Dm} {c:Nat} {mk:V->SetI} {f:Int},(∀x∈rest,x∈P.ls k)->FS bk hd codes fo B P fl (F k) rg ow ab as O Own cap G0 m0 D0 J R os G m D c mk f->J[li]?=σb[li]?->
  loc "book"=some (.obj bk)->loc "registers"=some (.obj rg)->loc "owned"=some (.obj ow)->loc "above"=some (.obj ab)->j7 D c f+3*rest.length<=700->
  (∀loc' σ' R' os' G' m' D' c' mk' f',b6 ["line"] loc loc'->FS bk hd codes fo B P fl (F k) rg ow ab as O Own cap G0 m0 D0 σ' R' os' G' m' D' c' mk' f'->Frame bk hd rg ow D J σ' D'->j7 D' c' f'<=j7 D c f+3*rest.length->QQ .next loc' σ')->
  gh (b8 [li] σb) (.name "line") (ez (aZ a0 (N+2*j+6)) jF) (rest.map Ln.vl) loc J QQ:=by
 induction rest with
 | nil =>
  intro loc J R os G m D c mk f hr x hl b1 b2 b3 b4 hphi hQ;exact ⟨λq hq=>by rw [an.mp hq];exact hl,hQ loc J R os G m D c mk f .refl x (.pre (aD _)) (ay _)⟩
 | cons y rest ihr =>
  intro loc J R os G m D c mk f hr x hl b1 b2 b3 b4 hphi hQ;have hy:=hr y ai;rw [List.length_cons] at hphi hQ;refine ⟨λq hq=>by rw [an.mp hq];exact hl,aw b1 (aw b2 (aw b3 (aw b4 (Ej (n:=N+2*j+2) M hk hy ih E cx x hj has hal hm (am (aN _ _) hphi) λσ' R' os' G' m' D' c' mk' f' x' fr' ph'=>?_))))⟩;have ne:∀{a},B<=a->li≠a:=λh=>aW (ak hliB h);refine ihr (λz hz=>hr z (aj _ hz)) x' ((fr'.at' li (ak hliB x.ms.lt.2.2.2) (ne x.ms.n4) (ne x.ms.n5) (ne E.r.2.2.2) (ne E.o.2.2.2) (nU λp hp=>bg (ne (x.ms.ne p hp).2.2.2))).trans hl) b1 b2 b3 b4 (by omega) λloc'' σ'' R'' os'' G'' m'' D'' c'' mk'' f'' ag' x'' fr'' ph''=>hQ loc'' σ'' R'' os'' G'' m'' D'' c'' mk'' f'' ((b6.refl.set ai).trans ag') x'' (fr'.trans fr'') (by omega)
end
section
variable{Own:SetI}{F:V->Facts}{G0 G G':SetI}{m0 m:Int}{D D0:Dm}{mk:V->SetI}{T T':V->Prop}
variable{bk hd codes fo:Nat}{P:dh}{f:Int}
variable{rg ow ab:Nat}{R:List V}
theorem An{p:V×V}{r:List (V×V)}:r5 (p::r) k=if p.1=k then r else p::r5 r k:=by
 delta r5 gF;rw [List.findIdx?_cons];by_cases h:p.1=k
 ·rw [if_pos h,if_pos (V.deq_iff.mpr h)];rfl
 ·rw [if_neg h,if_neg (by rw [V.deq_ne h];decide)]
  cases List.findIdx? (λp:V×V=>V.deq p.1 k) r with
  | none=>rfl
  | some i=>rfl
noncomputable def Dm.del(D:Dm)(o:Int):Dm:=D.filter λp=>decide (p.1≠o)
theorem Dm.del_cons{p:Int×Nat×List V}{r:Dm}:Dm.del (p::r) o=if p.1=o then Dm.del r o else p::Dm.del r o:=by
 unfold Dm.del;by_cases h:p.1=o
 ·rw [if_pos h];exact List.filter_cons_of_neg (λq=>aB q h)
 ·rw [if_neg h];exact List.filter_cons_of_pos (bp h)
theorem Dm.del_cells{o':Int}:(D.del o).cells o'=if o'=o then none else D.cells o':=by
 induction D with
 | nil=>split<;>rfl
 | cons p r ih =>
  rw [Dm.del_cons,Dm.cells_cons];by_cases h:p.1=o
  ·rw [if_pos h,ih];by_cases e:o'=o
   ·rw [if_pos e,if_pos e]
   ·rw [if_neg e,if_neg e,if_neg λq=>e (q.symm.trans h)]
  ·rw [if_neg h,Dm.cells_cons,ih];by_cases e:p.1=o'
   ·rw [if_pos e,if_pos e,if_neg λq=>h (e.trans q)]
   ·rw [if_neg e,if_neg e]
theorem Dm.del_self(h:∀p∈D,p.1≠o):D.del o=D:=List.filter_eq_self.mpr λp hp=>bp (h p hp)
theorem Dm.del_d(h:(D.map (·.1)).Nodup):r5 D.d (.int o)=(D.del o).d:=by
 induction D with
 | nil=>rfl
 | cons p r ih =>
  have hn:=List.nodup_cons.mp h;have e1:r5 (Dm.d (p::r)) (.int o)=if V.int p.1=V.int o then Dm.d r else (V.int p.1,V.obj p.2.1)::r5 (Dm.d r) (.int o):=An
  rw [e1,Dm.del_cons];by_cases e:p.1=o
  ·rw [if_pos e,if_pos (congrArg V.int e),Dm.del_self λq hq e'=>hn.1 (aX.mpr ⟨q,hq,e'.trans e.symm⟩)]
  ·rw [if_neg e,if_neg λq=>e (V.int.inj q),ih hn.2];rfl
theorem Fo{l:List (V×V)}{e:Nat}{i:Int}{u:V}(h:J[n]?=some (.dict l e))(hl:l.length<big)(h2:getD l (.int i)=some u)(q:Q u (J.set n (qA l e (.int i)))):xp .dpop (.obj n) [.int i] J Q :=
 jU h ⟨rfl,hl,aw h2 q⟩
theorem iE.drop(x:iE bk hd codes fo B c P fl J D m f){a:Int}{K:K1}(hu:∃l,D.cells a=some l)(hl:D.length<100000)(hQ:∀u σ',iE bk hd codes fo B c P fl σ' (D.del a) m f->σ'.length=J.length->(∀n,n≠hd->σ'[n]?=J[n]?)->K u σ'):xp .dpop (.obj hd) [.int a] J K:=by
 refine xe x.ahd.d λe he=>xe hu λl hl'=>Or.elim (Dm.get (D:=D) (o:=a)) (λw=>oz w λp hp z_ e1 z_=>?_) (λy=>xa y λz_ e2=>?_)
 ·refine Fo he (by unfold Dm.d;rw [aM];exact aQ hl (by decide)) e1 ?_;have sub:List.Sublist (D.del a) D:=List.filter_sublist;have kp:∀{o:Ob} n,n≠hd->(J.set hd o)[n]?=J[n]?:=λn hn=>aR (bg hn);refine hQ _ _ ⟨x.abk.imp λe q=>(kp _ x.n1).trans q,⟨⟨_,(bG he).trans (congrArg some (congrArg (λl=>Ob.dict l _) (Dm.del_d x.ids)))⟩,λp hp=>?_⟩,x.afo.imp λe q=>(kp _ x.n3).trans q,x.cd.same λn hn=>kp n (aW (ak hn x.n5)),x.ids.sublist (sub.map _),λp hp=>x.top p (sub.subset hp),x.ads.sublist (sub.map _),λp hp=>x.ne p (sub.subset hp),x.n1,x.n2,x.n3,x.n4,x.n5⟩ bE λn hn=>kp n hn;have q:=sub.subset hp;exact ⟨(kp _ (x.ne p q).2.1).trans (x.ahd.a p q).1,(x.ahd.a p q).2⟩
 ·rw [e2] at hl';cases hl'
theorem DK(hoh:ow≠hd):∀{D:Dm} {loc:Loc} {J:Hp},os.Nodup->iE bk hd codes fo B c P fl J D m f->J[ow]?=σb[ow]?->(∀o∈os,∃l,D.cells o=some l)->D.length<100000->loc "book"=some (.obj bk)->
  (∀loc' σ' D',b6 ["one"] loc loc'->iE bk hd codes fo B c P fl σ' D' m f->σ'.length=J.length->(∀n,n≠hd->σ'[n]?=J[n]?)->(∀o:Int,D'.cells o=if o∈os then none else D.cells o)->List.Sublist D' D->QQ .next loc' σ')->
  gh (b8 [ow] σb) (.name "one") (ez (aZ a0 n) jG) (os.map V.int) loc J QQ:=by
 induction os with
 | nil=>intro D loc J nd x hs hd' hl hb hQ;exact ⟨λk q=>by rw [an.mp q];exact hs,hQ loc J D .refl x rfl (λz_ z_=>rfl) (λo=>(if_neg aq).symm) (List.Sublist.refl _)⟩
 | cons o os ih =>
  intro D loc J nd x hs hd' hl hb hQ;refine ⟨λk q=>by rw [an.mp q];exact hs,?_⟩;have nn:=List.nodup_cons.mp nd;refine xe x.abk λbe hbe=>xe x.ahd.d λhe hhe=>aw hb (dF hbe rfl ⟨Hh hhe rfl,x.drop (hd' o ai) hl λu σ1 x1 l1 k1=>?_⟩);have sub:List.Sublist (D.del o) D:=List.filter_sublist;refine ih nn.2 x1 ((k1 _ hoh).trans hs) (λo' ho'=>?_) (ax sub.length_le hl) hb λloc' σ' D' ag' x' l' k' g' hl'=>hQ loc' σ' D' ((b6.refl.set ai).trans ag') x' (l'.trans l1) (λn hn=>(k' n hn).trans (k1 n hn)) (λo'=>?_) (hl'.trans sub)
  ·rw [Dm.del_cells,if_neg (λe:o'=o=>nn.1 (e▸ho'))];exact hd' o' (aj _ ho')
  ·rw [g',Dm.del_cells];by_cases e1:o'∈os
   ·rw [if_pos e1,if_pos (aj _ e1)]
   ·rw [if_neg e1];by_cases e2:o'=o
    ·rw [if_pos e2,if_pos (e2▸ai)]
    ·rw [if_neg e2,if_neg λq=>(aO.mp q).elim e2 e1]
theorem xH{l:Loc}{K:List V->Hp->Prop}(hg:gd J){ys:List V}:∀{acc:List V},n+acc.length+ys.length<10000->K (acc++ys) J->
  dH gd (.name "value") l (dY (hO C gD) (ev C gC)) n ys acc J K:=by
 induction ys with
 | nil=>intro acc _ hk;exact ⟨hg,bn acc▸hk⟩
 | cons y ys ih =>
  intro acc hl hk;rw [List.append_cons] at hk;rw [List.length_cons] at hl;refine ⟨hg,?_⟩;exact ⟨by show n+acc.length+1<big;unfold big;omega,ih (by rw [aH,List.length_singleton];omega) hk⟩
theorem xI{l:Loc}{K:List V->Hp->Prop}(hg:gd J):∀{acc:List V},(∀y∈as,J[y.1]?=some (.list y.2))->acc.length+(as.flatMap (·.2)).length<10000->K (acc++as.flatMap (·.2)) J->
  dH gd (.name "one") l (uf .over (.name "value") (rX C [.var "one"]) (dY (hO C gD) (ev C gC))) 0 (as.map λy=>V.obj y.1) acc J K:=by
 induction as with
 | nil=>intro acc _ _ hk;exact ⟨hg,bn acc▸hk⟩
 | cons y as ih =>
  intro acc ha hl hk;rw [List.flatMap_cons,<-bi] at hk;rw [List.flatMap_cons,aH] at hl;refine ⟨hg,aw (ch (ha y ai)) ?_⟩;refine xH (ys:=y.2) (λz_ z_=>rfl) (by rw [List.length_nil];omega) ?_;exact ⟨by show 0+acc.length+y.2.length<big;unfold big;omega,ih (λz hz=>ha z (aj _ hz)) (by rw [List.nil_append,aH];omega) hk⟩
theorem jP:V.dats (os.map V.int)=true/\V.deps (os.map V.int)=0:=by
 induction os with
 | nil=>exact ⟨rfl,rfl⟩
 | cons a r ih=>exact ⟨ih.1,ih.2▸rfl⟩
theorem Du:V.int o∈os.map V.int↔o∈os:=List.mem_map.trans ⟨λq=>bO q λa h e=>by cases e;exact h,λh=>⟨o,h,rfl⟩⟩
theorem yi{l:Loc}{K:List V->Hp->Prop}(hg:gd J)(how:J[ow]?=some (.list (os.map V.int)))(hl:cq ["one"] l "owned"=some (.obj ow))(hf:∀v∈fs,∃n,v=.int n/\n∉os)(hk:K [] J) :
  dH gd (.name "one") (cq ["one"] l) (dY (hO C jI) (ev C jH)) 0 fs [] J K:=by
 induction fs with
 | nil=>exact ⟨hg,hk⟩
 | cons v fs ih =>
  refine ⟨hg,bO (hf v ai) λo x ho=>?_⟩;subst x;refine aw hl (iw (iT how rfl (aC _) jP.1 (jP.2▸aC _)) ?_);rw [decide_eq_false λq=>ho (Du.mp q)];exact ⟨ae,ih (λw hw=>hf w (aj _ hw))⟩
theorem zV(M:qa P F fl)(hk:k∈bP)(cx:Cx O Own cap (F k) G0 m0)(x:FS bk hd codes fo B P fl (F k) rg ow ab as O Own cap G0 m0 D0 J R os G m D c mk f){i:V}{op:V}(hl:∀tb v,oT i op (F k) tb v->F k tb v)(hr:∀p,dk v p->dN O mk G (cg (F k) op) p){p:Int}(hp:dk v p):∃y,F k (.told i) y/\O y G p:=by
 refine bO (hr p hp) λt ht q=>⟨lK t,hl _ _ (.inl ⟨rfl,t,ht,rfl⟩),?_⟩
 rcases q with ⟨rfl,q⟩ | ⟨j,rfl,q⟩ | ⟨s,rfl,q⟩
 ·exact (cx.neg G p).mpr q
 ·rw [uH];exact q
 ·rw [uI,cx.neg];exact x.fi.st.m1 s p q (hl _ _ (.inr ⟨tS s,⟨tS s,⟨ht,s,rfl⟩,.refl⟩,.inl ⟨rfl,rfl⟩⟩))
theorem zB{a:Nat}{y:Int}{x:List V}(h:J[a]?=some (.list x))(h0:0<=y)(h1:y<100)(hx:x.length<100)(q:Q (.obj J.length) (J++[.list (List.replicate y.toNat x).flatten])):z9 .mul (.obj a) (.int y) J Q:=by
 exact dZ h ⟨h0,h1,hx,q⟩
theorem ql{a b:Nat}{x y:List V}(h:J[a]?=some (.list x))(h2:J[b]?=some (.list y))(hl:x.length+y.length<big)(q:∀w τ,J <+:τ->J.length<=w->τ[w]?=some (.list (x++y))->Q (.obj w) τ):z9 .add (.obj a) (.obj b) J Q:=lT h h2 hl (q _ _ az (ay _) aF)
theorem vK:∀{l:List (Nat×List V)},(∀z∈l,z.2.length<=c)->(l.flatMap (·.2)).length<=l.length*c:=λ{l}=>by
 induction l with
 | nil=>intro _;exact aC _
 | cons z r ih =>
  intro h;rw [List.flatMap_cons,aH,List.length_cons,Nat.add_mul,Nat.one_mul,Nat.add_comm];exact Nat.add_le_add (ih λy hy=>h y (aj _ hy)) (h z ai)
theorem xt{t:V}(E:FD bk hd fo B rg ow ab as)(x:FS bk hd codes fo B P fl (F k) rg ow ab as O Own cap G0 m0 D0 J R os G m D c mk f)(hH:D.length<=2000)(h1:loc "book"=some (.obj bk))(h2:loc "told"=some t)(h3:loc "owned"=some (.obj ow))
  (hQ:∀σ' D',iE bk hd codes fo B c P fl σ' D' m f->σ'.length=J.length->(∀n,n≠hd->σ'[n]?=J[n]?)->(∀o:Int,D'.cells o=if o∈os then none else D.cells o)->List.Sublist D' D->Q t σ'):ez (aZ a0 n) (fx.body.drop 8) loc J (uc Q):=by
 refine aw h3 (aw (ch x.aow) (DK E.o.2.1 x.ond x.ms rfl x.dom (ax hH (by decide)) h1 λloc6 σ6 H6 ag6 ms6 l6 k6 g6 h6=>aw (ag6.at (by decide) h2) ?_))
 (conv=>whnf)
 exact hQ σ6 H6 ms6 l6 k6 g6 h6
theorem GV{p:α->Prop}{l m:List α}(h:∀v∈l,p v)(k:∀v∈m,p v):∀v∈l++m,p v:=λv hv=>(bt.mp hv).elim (h v) (k v)
theorem iE.ptr(x:iE bk hd codes fo B c P fl J D m f){n:Int}(h:D.cells n=some l):∀v∈l,gw v:=λv hv=>(Dm.get (D:=D) (o:=n)).elim (λz=>oz z λq hq z_ z_ e=>(x.ahd.a q hq).2.2 v (a9 (e.symm.trans h)▸hv)) λz=>nomatch z.2.symm.trans h
theorem GP(h:u8 (.tup [a,b])):gw a/\gw b:=h.elim (λh=>h.elim (λh=>nomatch h) λh=>xe h λz_ h=>nomatch h) λh=>cU h λa' b' h ha hb=>have e:=List.cons.inj (V.tup.inj h);⟨e.1▸ha,(List.cons.inj e.2).1▸hb⟩
theorem zM{w:V}{p:Int}(pw:gw w)(hw:w∈[a,b])(hp:dk w p):dk (.tup [a,b]) p:=by
 rcases pw with rfl | ⟨o,rfl⟩
 ·exact absurd hp fm
 ·exact .inr ⟨_,rfl,iC hp▸hw⟩
theorem FB(h:os≠[]):(os.map V.int).isEmpty=false:=by
 cases os with
 | nil=>exact absurd rfl h
 | cons _ _=>rfl
theorem xr{t0 t1:V}{i0 i1:Nat}(M:qa P F fl)(hk:k∈bP)(E:FD bk hd fo B rg ow ab as)(cx:Cx O Own cap (F k) G0 m0)(x:FS bk hd codes fo B P fl (F k) rg ow ab as O Own cap G0 m0 D0 J R os G m D c mk f)(has:as.length<=4)(hal:∀z∈as,z.2.length<=10)(hH:D.length+c<=724)
  (l1:loc "book"=some (.obj bk)) (l2:loc "registers"=some (.obj rg)) (l3:loc "owned"=some (.obj ow)) (l4:loc "above"=some (.obj ab)) (l5:loc "end"=some (.tup [.str "return",.tup [oR (.int (i0:Int)),oR (.int (i1:Int))]]))
  (na:zE R i0=some t0) (nb:zE R i1=some t1) (va:gw t0) (vb:gw t1) (ta:∀p,dk t0 p->G p\/Own p) (tb:∀p,dk t1 p->G p\/Own p)
  (hQ:∀σ' D',iE bk hd codes fo B c P fl σ' D' m f->J.length<=σ'.length->(∀n,n<J.length->n≠hd->σ'[n]?=J[n]?)->(∀o:Int,D'.cells o=if o∈os then none else D.cells o)->List.Sublist D' D->Q (.tup [t0,t1]) σ'):ez (aZ a0 (n+1)) (fx.body.drop 5) loc J (uc Q):=by
 have nl:∀{J σ':Hp},b8 [] J σ':=λz_ q=>(aq q).elim;have hid:∀{y:String},y≠"operand"->y≠".0"->cq ["operand"] loc y=loc y:=λh h2=>if_neg λq=>q.elim (λq=>h (an.mp q)) h2;have r2:=(hid (by decide) (by decide)).trans l2;have lR:R.length<big:=by rw [x.rl];decide
 have hH2:D.length<=2000:=by omega
 have fin:∀{σ5:Hp} {loc5:Loc},J <+:σ5->loc5 "book"=some (.obj bk)->loc5 "told"=some (.tup [t0,t1])->loc5 "owned"=some (.obj ow)->ez (aZ a0 (n+1)) (fx.body.drop 8) loc5 σ5 (uc Q):=λp h1 h2 h3 =>
  xt E (x.ext E p) hH2 h1 h2 h3 λσ' D' a1 a2 a3 a4 a5=>hQ σ' D' a1 (am (bS p) (Nat.le_of_eq a2.symm)) (λn hn h=>(a3 n h).trans (by refine xe p λτ u=>?_;subst u;exact au hn)) a4 a5
 refine aw l5 ?_
 (conv=>whnf)
 refine ⟨nl,aw r2 ?_⟩
 (conv=>whnf)
 refine bD (l:=R) (w:=t0) x.arg lR na ⟨ae,nl,aw r2 ?_⟩
 (conv=>whnf)
 refine bD (l:=R) (w:=t1) x.arg lR nb ⟨ae,nl,xg (fD aF) ae ?_⟩
 (conv=>whnf)
 have x4:=x.ext E (az (τ:=[Ob.list [t0,t1]]));refine aw l4 (aw (ch x4.aab) ?_);have flen:(as.flatMap (·.2)).length<=40:=am (vK hal) (Nat.mul_le_mul_right 10 has);refine xI (λz_ z_=>rfl) (λz hz=>(x4.av z hz).1) (by rw [List.length_nil,Nat.zero_add];exact ax flen (by decide)) ?_;rw [List.nil_append];have live:∀n:Int,(G n\/Own n)->n∉os:=λn h q=>by
  exact bO ((x.own n).mp q) λs h1 h2=>h.elim (x.fi.st.m2 s n h1 h2) (x.fi.st.mkOwn cx h1)
 refine ⟨ae,?_⟩
 (conv=>whnf)
 refine lT (aS aF) aF (ax (bQ flen 2) (by decide)) ?_
 (conv=>whnf)
 refine ql (aS aF) aF (by rw [aH];exact ax (bQ (bQ flen 2) 1) (by decide)) λw4 σ4 p4 z_ h4=>?_;have q4:J <+:σ4:=((((az.trans az).trans az).trans az).trans az).trans p4;have x5:=x.ext E q4;refine aw l3 ?_
 (conv=>whnf)
 by_cases hos:os=[]
 ·exact kU (b:=true) (aS x5.aow) aF jP.1 (jP.2▸aC _) (by rw [hos];rfl) (fin (q4.trans az) l1 rfl l3)
 ·refine kU (b:=false) (aS x5.aow) aF jP.1 (jP.2▸aC _) (FB hos) (aw l1 ?_)
  (conv=>whnf)
  refine xX (A:=λv=>u8 v/\∀p,dk v p->G p\/Own p) (x5.ext E az).ms (aS h4) (λv hv=>?_) ?_ hH (λn l h1 h2 v hv=>?_) (λa b h1=>?_) λr σ5 fs p5 hr hfs=>?_
  ·have key:=GV (p:=λv=>u8 v/\∀p,dk v p->G p\/Own p) (GV (λv hv=>bO (List.mem_flatMap.mp hv) λz hz hv=>(x.av z hz).2 v hv) (qm ⟨.inl va,ta⟩ ⟨.inl vb,tb⟩)) (λw hw=>an.mp hw▸⟨.inl (.inr ⟨0,rfl⟩),λp hp=>.inl ((iC (o:=0) hp).symm▸x.g0)⟩) v hv;exact ⟨key.1,key⟩
  ·rw [aH,aH];exact ax (bQ (bQ flen 2) 1) (by decide)
  ·exact ⟨.inl (x.ms.ptr h2 v hv),λp hp=>(h1.2 n (.inl rfl)).elim (λh=>.inl (x.fi.g1 n h p ⟨l,h2,v,hv,hp⟩)) λh=>cx.capsub G x.fi.st.ext n h p (x.fi.g2 n h p ⟨l,h2,v,hv,hp⟩)⟩
  ·have hp:=GP h1.1;exact ⟨⟨.inl hp.1,λp q=>h1.2 p (zM hp.1 ai q)⟩,.inl hp.2,λp q=>h1.2 p (zM hp.2 (aj _ ai) q)⟩
  ·refine aw (ch hr) ?_;have x6:=(x5.ext E az).ext E p5;refine yi (l:=setL (setL loc "told" (.tup ([t0]++[t1]))) "some" (.obj w4)) ?_ x6.aow ((if_neg λq=>q.elim (λq=>absurd (an.mp q) (by decide)) (by decide)).trans l3) (λv hv=>?_) ?_
   ·exact λz_ z_=>rfl
   ·refine cG (hfs v hv) λn t z_ h2=>?_;subst t;exact ⟨n,rfl,live n (h2 n (.inl rfl))⟩
   ·(conv=>whnf)
    exact kU (b:=true) (aS aF) aF rfl (aC _) rfl (fin ((((q4.trans az).trans p5).trans az).trans az) l1 rfl l3)
noncomputable abbrev DW(x y:V):List V:=[x,y,.none,.none,.none,.none,.none,.none,.none,.none]
theorem HZ{x y:V}{ab:Nat}{G:SetI}(M:qa P F fl)(hk:k∈bP)(ms:iE bk hd codes fo B c P fl J D m f)(vx:gw x)(vy:gw y)(rx:∀p,dk x p->O (.int 0) G p)(ry:∀p,dk y p->O (.int 1) G p)
  (ar:J[rg]?=some (.list (DW x y))) (ao:J[ow]?=some (.list [])) (hab:J[ab]?=some (.list (as.map λx=>V.obj x.1))) (hav:∀z∈as,J[z.1]?=some (.list z.2)/\∀v∈z.2,u8 v/\∀p,dk v p->G p\/Own p)
  (g1:∀o,G o->∀p,cont D.cells o p->G p) (g2:∀o,Own o->∀p,cont D.cells o p->cap o G p) (gm:∀o,G o->o<=m) (g0:G 0) (z0:∃l,D.cells 0=some l) (da:∀p∈D,p.2.1≠rg/\p.2.1≠ow/\p.2.1≠ab/\∀x∈as,x.1≠p.2.1) (c6:6<=c):FS bk hd codes fo B P fl (F k) rg ow ab as O Own cap G m D J (DW x y) [] G m D c (λz_ z_=>False) f:=by
 have hcl:=M.cl k hk;refine ⟨ms,⟨⟨.refl,Int.le_refl _,λz_ z_ h=>h.elim,λz_ z_ h=>h.elim,λz_ z_ z_ h=>h.elim,λz_ z_ h=>h.elim⟩,g1,g2,λz_ z_ h=>h.elim,gm⟩,ar,rfl,λi v hi=>?_,ao,λo=>⟨λh=>(aq h).elim,λq=>bO q λz_ h z_=>h.elim⟩,List.nodup_nil,λz_ h=>(aq h).elim,λz_ z_ h=>h,hab,hav,g0,z0,da,c6⟩
 cases i with
 | zero=>cases hi;exact ⟨⟨λz_=>vx,λe=>by cases e⟩,λp hp=>⟨tO (.int 0),hcl.1 _ _ (.inl ⟨rfl,rfl⟩),.inr (.inl ⟨_,rfl,rx p hp⟩)⟩⟩
 | succ i =>
 cases i with
 | zero=>cases hi;exact ⟨⟨λz_=>vy,λe=>by cases e⟩,λp hp=>⟨tO (.int 1),hcl.1 _ _ (.inr ⟨rfl,rfl⟩),.inr (.inl ⟨_,rfl,ry p hp⟩)⟩⟩
 | succ i =>
  have hi:[V.none,.none,.none,.none,.none,.none,.none,.none][i]?=some v:=hi;have:v=.none:=(show ∀w∈[V.none,.none,.none,.none,.none,.none,.none,.none],w=.none from λw hw=>List.eq_of_mem_replicate (n:=8) hw) v (List.mem_of_getElem? hi);subst this;exact ⟨⟨λz_=>.inl rfl,λz_=>.inl rfl⟩,λp h=>absurd h fm⟩
theorem DI(h:0<f):j7 D c (f-1)+25<=j7 D c f:=by
 unfold j7;rw [Int.pred_toNat,<-Nat.succ_pred_eq_of_pos (Int.lt_toNat.mpr h)];exact Nat.le_of_eq (Nat.add_assoc _ _ _)
theorem IC:j7 D c (f-1)<=j7 D c f:=cn (Nat.mul_le_mul_left 25 (Int.toNat_le_toNat (Int.sub_le_self f (by decide)))) _
end
section
variable{Own:SetI}{F:V->Facts}{G0 G G':SetI}{m0 m:Int}{D D0:Dm}{mk:V->SetI}{T T':V->Prop}
variable{bk hd codes fo:Nat}{P:dh}{f:Int}
variable{rg ow ab:Nat}{R:List V}
theorem Kw{a j:Nat}(h:5<=a+j)(k:a<=4):j=j-1+1:=by omega
theorem JI{a b:Nat}(h:n<=8)(k:a+25<=b):a+3*n<=b:=by omega
theorem qs(M:qa P F fl)(N j:Nat)(ih:∀j',j=j'+1->mB bk hd codes fo B P F fl (N+2*j'+5) j'):mB bk hd codes fo B P F fl (N+2*j+5) j:=by
 intro J k x y gv ab as O Own cap G m f D c Q hk ms cx hgv vx vy rx ry hab hj has nb hav hda g1 g2 gm g0 z0 hm hc6 hphi hQ;refine xe ms.abk λbe hbe=>bq (d:=fx) rfl ae ae (dF hbe rfl (ms.setBook (m':=m) (f':=f-1) (Int.le_refl m) DS λσ1 ms1 l1 k1=>xe ms1.abk λbe1 hbe1=>?_));have fin:Q (.tup [.none,.none]) σ1:=hQ σ1 D c m (f-1) G .none .none ms1 (Nat.le_of_eq l1.symm) (λn z_ h1 z_ z_=>k1 n h1) (λp hp=>.inl (aX.mpr ⟨p,hp,rfl⟩)) .refl (Int.le_refl _) g1 g2 gm (.inl rfl) (.inl rfl) (λp hp=>absurd hp fm) (λp hp=>absurd hp fm) hc6 IC λz_ z_ h=>h;have hab1:=(k1 _ nb.1).trans hab;refine dF hbe1 rfl ?_
 (conv=>whnf)
 by_cases hf:f-1<0
 ·rw [bp hf];exact fin
 rw [decide_eq_false hf];refine ku (iX hab1) (by rw [aM];exact ax has (by decide)) ?_;rw [aM];(conv=>whnf)
 by_cases has4:(4:Int)<as.length
 ·rw [bp has4];exact fin
 rw [decide_eq_false has4];have has':as.length<=4:=Int.ofNat_le.mp (Int.not_lt.mp has4);obtain ⟨j,rfl⟩:∃j',j=j'+1:=⟨j-1,Kw hj has'⟩
 have ih:mB bk hd codes fo B P F fl (N+2*j+5) j:=ih j rfl;have ngv:gv≠bk:=λe=>by rw [e] at hgv;rw [hgv] at hbe;cases hbe
 have hgv1:=(k1 _ ngv).trans hgv;refine gj (et hgv1) ae (zB aF (by decide) (by decide) (by decide) (ql (y:=[V.none,.none,.none,.none,.none,.none,.none,.none]) (aS (aS aF)) aF ae λw τ p hwl hw=>?_));have p1:σ1 <+:τ:=((az.trans az).trans az).trans p;have hwl1:σ1.length<=w:=am (bS ((az.trans az).trans az)) hwl;have p2:σ1 <+:τ++[Ob.list []]:=p1.trans az;have ms2:=ms1.ext p2;refine xe ms2.abk λbe2 hbe2=>xe ms2.cd.d λce hce=>?_;have cx':=(ms2.cd.c k hk).ex;refine eF cx' λck rgv bl blk li q1 q2 q3 q4 w1 w2 w3 w4=>mV ms1.lt λlb lh lf lB=>?_;have labs:=a8 hab1;have lw:=a8 hw;have gt:∀{a b:Nat},a<σ1.length->σ1.length<=b->b≠a:=λh1 h2 e=>bh _ (ak h1 (e▸h2));have lt1:=bS p1;have asat:∀z∈as,σ1[z.1]?=some (.list z.2):=λz hz=>(k1 _ (hav z hz).1.2.1).trans (hav z hz).1.1;have E:FD bk hd fo B w τ.length ab as:=⟨⟨gt lb hwl1,gt lh hwl1,gt lf hwl1,am lB hwl1⟩,⟨gt lb lt1,gt lh lt1,gt lf lt1,am lB lt1⟩,aW lw,⟨nb.1,nb.2,(gt labs hwl1).symm,(gt labs lt1).symm⟩,λz hz =>
  have z1:=(hav z hz).1;have:=a8 (asat z hz)
  ⟨z1.2.1,z1.2.2.1,(gt this hwl1).symm,(gt this lt1).symm⟩⟩
 have x0:FS bk hd codes fo B P fl (F k) w τ.length ab as O Own cap G m D (τ++[Ob.list []]) (DW x y) [] G m D c (λz_ z_=>False) (f-1) :=
  HZ M hk ms2 vx vy rx ry (aS hw) aF (bR p2 hab1) (λz hz=>⟨bR p2 (asat z hz),(hav z hz).2⟩) g1 g2 gm g0 z0 (λp hp =>
   have l:=ms1.adlt (aX.mpr ⟨p,hp,rfl⟩)
   ⟨(gt l hwl1).symm,(gt l lt1).symm,hda p hp⟩) hc6
 have ph:=DI (D:=D) (c:=c) (f:=f) (Int.sub_nonneg.mp (Int.not_lt.mp hf));have few:=M.few k hk;refine dF hbe2 rfl (nv hk hce (nD (M.ok.mem.mpr hk)) (bY w1 rfl (bD w2 ae rfl (aw (fD w3) (aw rfl (aw (ch w4) ?_))))));have ph25:=JI few ph;refine ya M hk ih E cx hj has' (λz hz=>(hav z hz).1.2.2.2) hm q4 (λz_ h=>h) x0 rfl rfl rfl rfl rfl (am ph25 hphi) λloc3 σ3 R3 os3 G3 m3 D3 c3 mk3 f3 ag3 x3 fr3 ph3=>?_;have hH3:D3.length+c3<=724:=am (aN _ (25*f3.toNat)) (am ph3 (am ph25 (am hphi (by decide))));refine dR (x3.opd2 (M.ra k hk)) λi0 t0 e0 na z_ pa ra=>dR (x3.opd2 (M.rb k hk)) λi1 t1 e1 nb' z_ pb rb=>?_;have ta:∀p,dk t0 p->∃y,F k (.told (.int 0)) y/\O y G3 p:=λp=>zV M hk cx x3 (i:=.int 0) (λtb v q=>q9 M hk (.inl q)) ra;have tb:∀p,dk t1 p->∃y,F k (.told (.int 1)) y/\O y G3 p:=λp=>zV M hk cx x3 (i:=.int 1) (λtb v q=>q9 M hk (.inr q)) rb;dsimp only [ud];rw [e0,e1] at ag3;refine xr (n:=N+2*j+5) M hk E cx x3 has' (λz hz=>(hav z hz).1.2.2.2) hH3 (ag3.at (by decide) rfl) (ag3.at (by decide) rfl) (ag3.at (by decide) rfl) (ag3.at (by decide) rfl) (ag3.at (by decide) rfl) na nb' pa pb (λp hp=>let ⟨y,_,h2⟩:=ta p hp;cx.sub G3 x3.fi.st.ext y p h2) (λp hp=>let ⟨y,_,h2⟩:=tb p hp;cx.sub G3 x3.fi.st.ext y p h2) λσ6 D6 ms6 l6 k6 g6 h6=>?_;have ct:∀{o p},cont D6.cells o p->cont D3.cells o p:=λ{o p} ⟨v,h1,h2⟩=>by
  rw [g6] at h1
  split at h1
  ·cases h1
  ·exact ⟨v,h1,h2⟩
 have s2:J.length<=(τ++[Ob.list []]).length:=l1▸bS p2;have ph6:j7 D6 c3 f3<=j7 D3 c3 f3:=bQ (bQ h6.length_le _) _;refine hQ σ6 D6 c3 m3 f3 G3 _ _ ms6 (am s2 (am fr3.le l6)) (λq hq' h1 h2 h3=>?_) (λp hp=>(fr3.ad p (h6.subset hp)).imp id (am s2)) x3.fi.st.ext x3.fi.st.le (λo ho p hp=>x3.fi.g1 o ho p (ct hp)) (λo ho p hp=>x3.fi.g2 o ho p (ct hp)) x3.fi.gm pa pb ta tb x3.c6 (am ph6 (am ph3 ph25)) λo ho hv=>?_
 ·have q1:q<σ1.length:=l1▸hq';refine (k6 q (ak hq' (am s2 fr3.le)) h2).trans ((fr3.at' q (ak hq' s2) h1 h2 (gt q1 hwl1).symm (gt q1 lt1).symm h3).trans ?_);refine xe p2 λτ' e=>?_;rw [<-e,au q1];exact k1 q h1
 ·refine xe (x3.old o ho hv) λv hv'=>⟨v,(g6 o).trans ((if_neg λq=>?_).trans hv')⟩
  exact bO ((x3.own o).mp q) λs h1 z_=>absurd ho (Int.not_le.mpr (x3.fi.st.m4 s o h1).1)
theorem vw(M:qa P F fl)(N:Nat):∀j,mB bk hd codes fo B P F fl (N+2*j+5) j:=λj=>by
 induction j with
 | zero=>exact qs M N 0 λz_ e=>nomatch e
 | succ j ih=>exact qs M N (j+1) λz_ e=>Nat.succ.inj e▸ih
end
section
variable{P:dh}{codes:Nat}
structure EU(P:dh):Prop where
 ok:P.Ok
 mok:∀k∈bP,∀x∈P.ls k,x.mok
 ra:∀k∈bP,dm (P.a k)
 rb:∀k∈bP,dm (P.b k)
 few:∀k∈bP,(P.ls k).length<=8
 s1:cO (bZ [] (P.full (cT P.ks)))=true
 s2:cO (P.ks.flatMap P.news)=true
 s3:cT (bZ [] (P.full (cT P.ks)))=cT (P.ks.flatMap P.news)
theorem yd{l:Loc}{K:List V->Hp->Prop}(hg:gd J){ys:List V}:∀{acc:List V},n+acc.length+ys.length<10000->K (acc++ys) J->
  dH gd (.name "line") l (dY (hO C f9) (ev C f8)) n ys acc J K:=by
 induction ys with
 | nil=>intro acc _ hk;exact ⟨hg,bn acc▸hk⟩
 | cons y ys ih =>
  intro acc hl hk;rw [List.append_cons] at hk;rw [List.length_cons] at hl;refine ⟨hg,?_⟩;exact ⟨by show n+acc.length+1<big;unfold big;omega,ih (by rw [aH,List.length_singleton];omega) hk⟩
noncomputable def dh.lines(P:dh)(k:V):List V:=(P.ls k).map Ln.vl
theorem ye{l:Loc}{K:List V->Hp->Prop}(g:EU P)(cd:gN B J codes P)(hl:l "codes"=some (.obj codes))(hg:gd J){ks:List V}:∀{acc:List V},(∀k∈ks,k∈bP)->acc.length+(ks.flatMap P.lines).length<1000->K (acc++ks.flatMap P.lines) J->
  dH gd (.name "name") (cq ["name","line"] l) (uf .over (.name "line") (rX C [(.sub (.sub (.attr (.sub (.var "codes") (.var "name")) "blocks") (.const (.int 0))) (.const (.int 0)))]) (dY (hO C f9) (ev C f8))) 0 ks acc J K:=by
 induction ks with
 | nil=>intro acc _ _ hk;exact ⟨hg,bn acc▸hk⟩
 | cons k ks ih =>
  intro acc hks hlen hk;rw [List.flatMap_cons,aH] at hlen;rw [List.flatMap_cons,<-bi] at hk;have hkk:=hks k ai;obtain ⟨ce,hce⟩:=cd.d;have cx:=(cd.c k hkk).ex;obtain ⟨ck,rgv,bl,blk,li,q1,q2,q3,q4,w1,w2,w3,w4⟩:=cx;have hh:cq ["name","line"] l "codes"=some (.obj codes):=(if_neg (by decide)).trans hl;refine ⟨hg,aw hh (nv hkk hce (nD (g.ok.mem.mpr hkk)) (bY w1 rfl (bD w2 ae rfl (bD w3 ae rfl (aw (ch w4) ?_)))))⟩;refine yd (ys:=P.lines k) (λz_ z_=>rfl) (by rw [List.length_nil];omega) ?_;rw [List.nil_append];exact ⟨by show 0+acc.length+(P.lines k).length<big;unfold big;omega,ih (λz hz=>hks z (aj _ hz)) (by rw [aH];omega) hk⟩
noncomputable abbrev tQ:List V:=[.str "new",.str "makeslice",.str "append",.str "makemap"]
theorem eJ{w:V}{r:Bool}{Q:Bool->Prop}(hw:w.dat=true)(hd:w.dep<=6)(h:decide (w∈tQ)=r)(q:Q r):dn (jL .isIn (J++[Ob.list tQ]) w (.obj J.length)) Q :=
 iw ((iT aF hw hd rfl (aC _)).trans (congrArg some h)) q
noncomputable def KF:V->String | .str s=>s | _=>""
theorem eM{s:String}(h:s∉["new","makeslice","append","makemap"]):decide (V.str s∈tQ)=false:=decide_eq_false λq=>h (aX.mpr ⟨.str s,q,rfl⟩:s∈tQ.map KF)
theorem t6{s:String}(h:V.str s∈tQ):decide (V.str s∈tQ)=true:=bp h
theorem CG{l:Loc}{K:List V->Hp->Prop}{md:Nat}(hm:md<J.length){ys:List Ln}:∀{acc:List V} {σa:Hp},J <+:σa->acc.length+ys.length<1000->(∀σ',J <+:σ'->K (acc++ys.flatMap Ln.news) σ')->
  dH (b8 [md] J) (.name "line") l (dY (hO C eL) (ev C eK)) 0 (ys.map Ln.vl) acc σa K:=by
 have hg:∀{σa},J <+:σa->b8 [md] J σa:=λp n hn=>by
  rw [an.mp hn];obtain ⟨τ,rfl⟩:=p;exact au hm
 induction ys with
 | nil=>intro acc σa p _ hk;exact ⟨hg p,bn acc▸hk _ p⟩
 | cons y ys ih =>
  intro acc σa p hl hk;rw [List.length_cons] at hl;rw [List.flatMap_cons] at hk;have p2:J <+:σa++[Ob.list tQ]:=p.trans az;have b1:0+acc.length+1<big:=by unfold big;omega
  have no:y.news=[]->0+acc.length+0<big/\dH (b8 [md] J) (.name "line") l (dY (hO C eL) (ev C eK)) 0 (ys.map Ln.vl) (acc++[]) (σa++[Ob.list tQ]) K:=λh=>by
   rw [h] at hk;exact ⟨aQ (bX _) b1,ih p2 (by rw [bn];omega) (by rw [bn];exact hk)⟩
  have yes:∀s,y.news=[s]->0+acc.length+1<big/\dH (b8 [md] J) (.name "line") l (dY (hO C eL) (ev C eK)) 0 (ys.map Ln.vl) (acc++[s]) (σa++[Ob.list tQ]) K:=λs h=>by
   rw [h] at hk;exact ⟨b1,ih p2 (by rw [aH,List.length_singleton];omega) (by rw [bi];exact hk)⟩
  refine ⟨hg p,?_⟩
  cases y with
  | new d s=>refine eJ rfl (aC _) (t6 ai) ?_;exact yes s rfl
  | mslice d s=>refine eJ rfl (aC _) (t6 (aj _ ai)) ?_;exact yes s rfl
  | append d a b s=>refine eJ rfl (aC _) (t6 (aj _ (aj _ ai))) ?_;exact yes s rfl
  | mmap t s=>refine eJ rfl (aC _) (t6 (aj _ (aj _ (aj _ ai)))) ?_;exact yes s rfl
  | store a b=>refine eJ rfl (aC _) (eM (by decide)) ?_;exact no rfl
  | load d a=>refine eJ rfl (aC _) (eM (by decide)) ?_;exact no rfl
  | move d a=>refine eJ rfl (aC _) (eM (by decide)) ?_;exact no rfl
  | struct a b=>refine eJ rfl (aC _) (eM (by decide)) ?_;exact no rfl
  | part d i=>refine eJ rfl (aC _) (eM (by decide)) ?_;exact no rfl
  | call d1 d2 k a b=>refine eJ rfl (aC _) (eM (by decide)) ?_;exact no rfl
  | copy a b=>refine eJ rfl (aC _) (eM (by decide)) ?_;exact no rfl
  | cut d a=>refine eJ rfl (aC _) (eM (by decide)) ?_;exact no rfl
  | elem d a i=>refine eJ rfl (aC _) (eM (by decide)) ?_;exact no rfl
  | mapset a b=>refine eJ rfl (aC _) (eM (by decide)) ?_;exact no rfl
  | mapget d a=>refine eJ rfl (aC _) (eM (by decide)) ?_;exact no rfl
  | face a=>refine eJ rfl (aC _) (eM (by decide)) ?_;exact no rfl
  | send a=>refine eJ rfl (aC _) (eM (by decide)) ?_;exact no rfl
  | recv d=>refine eJ rfl (aC _) (eM (by decide)) ?_;exact no rfl
theorem C4(h:xM v=true):v.dat=true/\v.dep<=1:=by
 obtain ⟨i,j,rfl⟩:=nJ h;exact ⟨rfl,ay 1⟩
theorem C6(h:AF v=true):v.dat=true/\v.dep<=1:=by
 obtain ⟨i,j,rfl⟩:=nK h;exact ⟨rfl,ay 1⟩
theorem FC(h:Js v=true):v.dat=true/\v.dep<=1:=by cases v<;>first | exact ⟨rfl,aC _⟩ | cases h
theorem FF(h:JZ v=true):v.dat=true/\v.dep<=1:=by cases v<;>first | exact ⟨rfl,aC _⟩ | cases h
theorem zk(h:∀v∈l,v.dep<=n):V.deps l<=n:=by
 induction l with
 | nil=>exact aC _
 | cons x r ih=>exact Nat.max_le.mpr ⟨h x ai,ih λy hy=>h y (aj _ hy)⟩
theorem ng{p:V->Bool}(hp:∀{v},p v=true->v.dat=true/\v.dep<=1)(h:l.all p=true):V.dats l=true/\V.deps l<=6 :=
 have k:=λv hv=>hp (List.all_eq_true.mp h v hv)
 ⟨V.dats_iff.mpr λv hv=>(k v hv).1,zk λv hv=>am (k v hv).2 (by decide)⟩
theorem sj(h:cO l=true):V.dats l=true/\V.deps l<=6:=by
 unfold cO at h;simp only [Bool.and_eq_true,Bool.or_eq_true] at h;rcases h.2 with ((h | h) | h) | h
 ·exact ng FC h
 ·exact ng FF h
 ·exact ng C4 h
 ·exact ng C6 h
theorem Il{a b:Nat}{x y:List V}{Q:Bool->Prop}(h1:J[a]?=some (.list x))(h2:J[b]?=some (.list y))(d1:V.dats x=true/\V.deps x<=6)(d2:V.dats y=true)(e:x=y)(q:Q false):dn (jL .ne J (.obj a) (.obj b)) Q:=by
 refine aw (show (Im J (.obj a) (.obj b)).map (!·)=some false from ?_) q;have:Im J (.obj a) (.obj b)=some (V.deq (.tup x) (.tup y)):=Dw h1 h2 d1.1 d1.2 d2;rw [this,e,V.deq_self];rfl
noncomputable abbrev D3(a b c:Nat):Dm:=[(0,a,[]),(1,b,[.none]),(2,c,[aV 1])]
theorem qn{p:α->Prop}{a b c:α}(h1:p a)(h2:p b)(h3:p c):∀x∈[a,b,c],p x:=aP.mpr ⟨h1,qm h2 h3⟩
noncomputable def J1:SetI:=λo=>o=0\/o=1\/o=2
theorem I1{a b:Nat}{p:Int}(h:cont (D3 a b c).cells o p):J1 p:=by
 obtain ⟨l,h1,v,hv,hr⟩:=h;refine Or.elim (Dm.get (D:=D3 a b c) (o:=o)) (λw=>oz w λq hq z_ z_ e=>?_) (λx=>xa x λz_ e=>?_)
 ·rw [h1] at e;cases e;have k:∀q∈D3 a b c,∀v∈q.2.2,dk v p->J1 p:=qn (λv h=>(aq h).elim) (λv h r=>by rw [an.mp h] at r;exact absurd r fm) λv h r=>by rw [an.mp h] at r;exact .inr (.inl (iC r))
  exact k q hq v hv hr
 ·rw [h1] at e;cases e
end
section
variable{P:dh}{codes:Nat}
theorem qR:P.ks.flatMap P.lines=(P.ks.flatMap P.ls).map Ln.vl:=List.map_flatMap.symm
theorem FX:(P.ks.flatMap P.ls).flatMap Ln.news=P.ks.flatMap P.news:=List.flatMap_assoc
theorem yj{z t fo r d e g x:Nat}(h1:z<=t)(h2:fo<t)(h3:t<=r)(h7:c<d)(h8:d<e)(h9:e<g)(hx:r<=x)(hc:x<c):(x≠d/\x≠c/\x≠fo/\z<=x)/\x≠g/\e≠x :=
 ⟨⟨aW (aQ hc h7),aW hc,bC (ak h2 (am h3 hx)),am h1 (am h3 hx)⟩,aW (aQ hc (aQ h7 (aQ h8 h9))),bC (aQ hc (aQ h7 h8))⟩
theorem nL{N:Nat}{key:V}(g:EU P)(cd:gN J.length J codes P)(hk:key∈bP)(hQ:∀σ',J.length<=σ'.length->(∀n,n<J.length->σ'[n]?=J[n]?)->Q (.bool true) σ'):aZ a0 (N+14) ("","_law_is_safe") [.obj codes,key] J Q:=by
 refine bq (d:=lc) rfl ae ae (ny (n:=N+3) g.ok cd λfo σ1 fl fe F hz1 k1 hfo hfd hkeys hcl z_ hmk=>?_);have cd1:=cd.same k1;refine xe cd1.d λce hce=>?_;have lt1:=a8 hfd;have ll:(P.ks.flatMap P.ls).length<=16:=by
  have:=vK (c:=8) (l:=P.ks.map λk=>(0,P.lines k)) λz hz=>by
   refine bO (List.mem_map.mp hz) λk hk e=>?_;rw [<-e];show ((P.ls k).map Ln.vl).length<=8;rw [aM];exact g.few k (g.ok.mem.mp hk)
  rw [List.flatMap_map,aM,g.ok.len] at this;rw [<-aM (as:=P.ks.flatMap P.ls) Ln.vl,<-qR];exact this
 have dd:∀{l:List V},cO l=true->V.dats (cT l)=true/\V.deps (cT l)<=6:=λ{l} h =>
  have q:=sj h
  ⟨V.dats_iff.mpr λv hv=>V.dats_iff.mp q.1 v (fV.mp hv),zk λv hv=>am (V.dep_le_deps (fV.mp hv)) q.2⟩
 refine aw (fj hce) ?_;rw [ug];refine ye g cd1 rfl (λz_ z_=>rfl) (λk hk=>g.ok.mem.mp hk) (by rw [qR,aM];exact ax (cn ll _) (by decide)) ?_;rw [List.nil_append,qR];refine aw (ch aF) (CG (md:=σ1.length) (a8 aF) (aD _) (ax (cn ll _) (by decide)) λσ2 p2=>?_);rw [List.nil_append,FX];have p12:σ1 <+:σ2:=az.trans p2;refine j3 (l:=bZ [] (P.full (cT P.ks))) ((uj (aS (bR p12 hfd))).trans (congrArg some hkeys)) g.s1 (j3 (l:=P.ks.flatMap P.news) (FP (aS aF)) g.s2 (Il (aS aF) aF (dd g.s1) (dd g.s2).1 g.s3 ?_));have pρ:σ1 <+:σ2++[Ob.list (List.flatMap P.news P.ks)]++[Ob.list (cT (bZ [] (P.full (cT P.ks))))]++[Ob.list (cT (List.flatMap P.news P.ks))]:=((p12.trans az).trans az).trans az;generalize σ2++[Ob.list (List.flatMap P.news P.ks)]++[Ob.list (cT (bZ [] (P.full (cT P.ks))))]++[Ob.list (cT (List.flatMap P.news P.ks))]=Z at pρ ⊢;have kk:∀i:Int,(V.int i).key=true/\(V.int i).dep<=6:=λi=>⟨rfl,aC _⟩
 have ks:∀s:String,(V.str s).key=true/\(V.str s).dep<=6:=λi=>⟨rfl,aC _⟩
 refine ⟨qn (kk _) (kk _) (kk _),ae,⟨z6 (ks _) (ks _) (ks _) (ks _) (ks _) (ks _),ae,?_⟩⟩
 let σ01:Hp:=Z++[Ob.list []]
 let σ02:Hp:=σ01++[Ob.list [.none]]
 let σ03:Hp:=σ02++[Ob.list [aV 1]]
 let σA:Hp:=σ03++[Ob.dict (D3 Z.length σ01.length σ02.length).d 3]
 let σB:Hp:=σA++[Ob.dict (kR codes fo σ03.length 2 24 true) 6]
 let σC:Hp:=σB++[Ob.list [aV 1,aV 2]]
 let σE:Hp:=σC++[Ob.list [V.obj σB.length]]
 show aZ a0 (N+13) ("","_law_called") [.obj σA.length,key,.obj σB.length,.obj σC.length] σE _;have pE:σB <+:σE:=az.trans az;have pA:σA <+:σE:=az.trans pE;have p3:σ03 <+:σE:=az.trans pA;have p02:σ02 <+:σE:=az.trans p3;have p01:σ01 <+:σE:=az.trans p02;have p0:Z <+:σE:=az.trans p01;have p1:σ1 <+:σE:=pρ.trans p0;have c0:σE[Z.length]?=some (.list []):=bR p01 aF;have c1:σE[σ01.length]?=some (.list [.none]):=bR p02 aF;have c2:σE[σ02.length]?=some (.list [aV 1]):=bR p3 aF;have b3:σE[σ03.length]?=some (.dict (D3 Z.length σ01.length σ02.length).d 3):=bR pA aF;have b4:σE[σA.length]?=some (.dict (kR codes fo σ03.length 2 24 true) 6):=bR pE aF;have b5:σE[σB.length]?=some (.list [aV 1,aV 2]):=aS aF;have b7:σE[σC.length]?=some (.list [V.obj σB.length]):=aF;have l1:σ1.length<=Z.length:=bS pρ;have k0:Z.length<σ01.length:=a8 aF;have k1':σ01.length<σ02.length:=a8 aF;have k2:σ02.length<σ03.length:=a8 aF;have lA:σ03.length<σA.length:=a8 aF;have lB:σA.length<σB.length:=a8 aF;have lC:σB.length<σC.length:=a8 aF;clear_value σB σC σE;have D3p:∀{p:Int×Nat×List V->Prop},p (0,Z.length,[])->p (1,σ01.length,[.none])->p (2,σ02.length,[aV 1])->∀q∈D3 Z.length σ01.length σ02.length,p q:=λh1 h2 h3=>qn h1 h2 h3;have ptr1:gw (aV 1):=.inr ⟨1,rfl⟩;have kc:Z.length<σ03.length:=aQ k0 (aQ k1' k2);have u0:=yj hz1 lt1 l1 lA lB lC (ay _) kc;have u1:=yj hz1 lt1 l1 lA lB lC (cB k0) (aQ k1' k2);have u2:=yj hz1 lt1 l1 lA lB lC (cB (aQ k0 k1')) k2;have lz3:J.length<=σ03.length:=cB (ax (am hz1 l1) kc);have lf3:fo<σ03.length:=aQ (ak lt1 l1) kc;have ms:iE σA.length σ03.length codes fo J.length 6 P fl σE (D3 Z.length σ01.length σ02.length) 2 24 :=
  ⟨⟨6,b4⟩,⟨⟨3,b3⟩,D3p ⟨c0,aC _,λv hv=>(aq hv).elim⟩ ⟨c1,ae,λv hv=>by rw [an.mp hv];exact .inl rfl⟩ ⟨c2,ae,λv hv=>by rw [an.mp hv];exact ptr1⟩⟩,⟨fe,bR p1 hfd⟩,cd1.same λn hn=>by refine xe p1 λτ e=>?_;rw [<-e];exact au (ak hn hz1),
   (by decide:[(0:Int),1,2].Nodup),D3p (by show (0:Int)<=2;decide) (by show (1:Int)<=2;decide) (by show (2:Int)<=2;decide),
   (show [Z.length,σ01.length,σ02.length].Nodup from List.nodup_cons.mpr ⟨λh=>(aO.mp h).elim (aW k0) λh=>aW (aQ k0 k1') (an.mp h),List.nodup_cons.mpr ⟨λh=>aW k1' (an.mp h),List.nodup_cons.mpr ⟨aq,List.nodup_nil⟩⟩⟩),
   D3p u0.1 u1.1 u2.1,bC lA,aW (aQ lf3 lA),aW lf3,cB (ax lz3 lA),lz3⟩
 have M:qa P F fl:=⟨g.ok,hcl,hmk,g.mok,g.ra,g.rb,g.few⟩
 refine vw (bk:=σA.length) (hd:=σ03.length) M N 4 hk ms (CI (G0:=J1)) b5 ptr1 (.inr ⟨2,rfl⟩) (λp hp=>.inr (.inl (iC hp))) (λp hp=>.inr (.inr (iC hp))) (as:=[(σB.length,[aV 1,aV 2])]) b7 (ay _) ae ⟨bC (aQ lB lC),bC (aQ lA (aQ lB lC))⟩ (λz hz=>?_) ?_ (λo z_ p hp=>I1 hp) (λo h=>h.elim) (λo ho=>?_) (.inl rfl) ⟨[],rfl⟩ (by decide) (ay _) (by show 3+6+25*(24:Int).toNat<=700;decide) λσ3 D' c' m' f' G' t0 t1 ms3 l3 k3 z_ z_ z_ z_ z_ z_ z_ z_ z_ z_ z_ z_ z_=>?_
 ·cases an.mp hz;refine ⟨⟨b5,bC lB,bC (aQ lA lB),ae⟩,λv hv=>?_⟩;rcases aO.mp hv with rfl | hv
  ·exact ⟨.inl ptr1,λp hp=>.inl (.inr (.inl (iC hp)))⟩
  ·cases an.mp hv;exact ⟨.inl (.inr ⟨2,rfl⟩),λp hp=>.inl (.inr (.inr (iC hp)))⟩
 ·have one:∀{a:Nat},a≠σC.length/\σB.length≠a->a≠σC.length/\∀z∈[(σB.length,[aV 1,aV 2])],z.1≠a:=λ{a} h=>⟨h.1,λz hz=>by cases an.mp hz;exact h.2⟩
  exact D3p (p:=λq=>q.2.1≠σC.length/\∀z∈[(σB.length,[aV 1,aV 2])],z.1≠q.2.1) (one u0.2) (one u1.2) (one u2.2)
 ·rcases ho with rfl | rfl | rfl<;>decide
 ·refine xe ms3.abk λbe hbe=>dF hbe rfl ?_;have lz:=bS p1;have lr:J.length<=Z.length:=am hz1 l1;have la:∀n,n<J.length->n∉(D3 Z.length σ01.length σ02.length).map (·.2.1):=λn hn=>nU (D3p (bC (ak hn lr)) (bC (aQ (ak hn lr) k0)) (bC (aQ (ak hn lr) (aQ k0 k1'))));exact hQ σ3 (am hz1 (am lz l3)) λn hn=>(k3 n (ak hn (am hz1 lz)) (aW (aQ (ak hn lz3) lA)) (aW (ak hn lz3)) (la n hn)).trans (by refine xe p1 λτ e=>?_;rw [<-e,au (ak hn hz1)];exact k1 n hn)
end
section
variable{so:Nat}
theorem xF{x:String}{r:Nat}{rs:List V}(hx:loc x=some (.obj r))(hr:J[r]?=some (.list rs))(hl:rs.length<big)(q:Q (.obj J.length) (J++[.list rs])):ev C (.prim .list [.var x]) loc J Q:=by
 refine aw hx ?_
 (conv=>whnf)
 exact gj (et hr) hl q
theorem D1{r:List Mine.S}{Q:KS}{τ:Hp}{c a x:String}{rs:List V}{l:List (String×V)}(hx:loc x=some (.obj n))(hr:J[n]?=some (.list rs))(hrl:rs.length<big)(hs:loc "self"=some (.obj J.length))(ht:τ[0]?=some (.inst c l))(hl:l.length<100)
  (q:ez C r loc (J++(τ++[Ob.list rs]).set 0 (.inst c (kZ l a (.obj (J.length+τ.length))))) Q):ez C (.assign (.attr (.var "self") a) (.prim .list [.var x])::r) loc (J++τ) Q:=by
 refine xF (Q:=t9 C (.attr (.var "self") a) (ud (ez C r) Q) loc) hx (aS hr) hrl (aw hs ?_)
 (conv=>whnf)
 refine kG (c:=c) (l:=l) (by rw [bi,iS,au (a8 ht)];exact ht) hl ?_;rw [bi,oc,fh];exact q
theorem Ah{key blocks:V}{r:Nat}{rs:List V}(hr:J[r]?=some (.list rs))(hl:rs.length<1000)
  (hQ:Q .none (J++[.inst "Code" [("key",key),("params",.int 2),("registers",.obj (J.length+1)),("blocks",blocks),("captured",.int 0),("results",.int 2),("recovery",.none)],.list rs])) :
  aZ a0 (n+1) ("Code","__init__") [.obj J.length,key,.int 2,.obj r,blocks,.int 0,.int 2] (J++[.inst "Code" []]) Q:=by
 exact bq (d:=kM) rfl ae ae (gp (c:="Code") (v:=key) (λq=>q) rfl rfl ae (gp (c:="Code") (v:=.int 2) (λq=>q) rfl rfl ae (D1 (c:="Code") rfl hr (aQ hl (by decide)) rfl rfl ae (gp (c:="Code") (v:=blocks) (λq=>q) rfl rfl ae (gp (c:="Code") (v:=.int 0) (λq=>q) rfl rfl ae (gp (c:="Code") (v:=.int 2) (λq=>q) rfl rfl ae (gp (c:="Code") (v:=.none) (λq=>q) rfl rfl ae hQ)))))))
noncomputable def vj(J:Hp)(so:Nat):Prop:=∃a b:Int,J[so]?=some (.list [.int a,.int b])
structure SF(so:Nat)(J σ':Hp):Prop where
 le:J.length<=σ'.length
 fr:∀n,n<J.length->n≠so->σ'[n]?=J[n]?
 src:vj σ' so
theorem SF.trans(x:SF so J σ')(y:SF so σ' σ''):SF so J σ'':=⟨am x.le y.le,λn hn h=>(y.fr n (ak hn x.le) h).trans (x.fr n hn h),y.src⟩
theorem vj.ext(x:vj J so)(p:J <+:σ'):vj σ' so:=let ⟨a,b,h⟩:=x;⟨a,b,bR p h⟩
theorem SF.pre(x:vj J so)(p:J <+:σ'):SF so J σ':=⟨bS p,λn hn z_=>by refine xe p λτ q=>?_;subst q;exact au hn,x.ext p⟩
theorem SF.keep(x:SF so J σ'){o:Ob}(e:J[n]?=some o)(h:n≠so):σ'[n]?=some o:=(x.fr n (a8 e) h).trans e
theorem SF.set{x y:V}(h:J[so]?=some (.list [x,y])){a b:Int}:SF so J (J.set so (.list [.int a,.int b])):=⟨Nat.le_of_eq bE.symm,λn z_ h=>aR (bg h),a,b,bG h⟩
theorem iG{top:Int}(hs:vj J so)(h0:0<top)(h1:top<1000)(hQ:∀r σ',0<=r->r<top->SF so J σ'->σ'.length=J.length->Q (.int r) σ'):aZ a0 (n+1) ("","_law_take") [.obj so,.int top] J Q:=by
 refine ER hs λa b hab=>?_;have m0:∀x:Int,0<=x%top:=λx=>Int.emod_nonneg _ (Int.ne_of_gt h0);have m1:∀x:Int,x%top<top:=λx=>Int.emod_lt_of_pos _ h0;have t30:top<2^30:=Int.lt_trans h1 (by decide);have t62:top<2^62:=Int.lt_trans h1 (by decide);have b2:2<big:=by decide
 refine bq (d:=pe) rfl ae ae ?_
 (conv=>whnf)
 refine bD hab b2 rfl ?_
 (conv=>whnf)
 by_cases hp:0<a
 ·rw [bp hp];(conv=>whnf)
  refine bD hab b2 rfl ?_
  (conv=>whnf)
  refine ⟨⟨h0,t62⟩,?_⟩
  (conv=>whnf)
  refine bD hab b2 rfl ?_
  (conv=>whnf)
  refine ⟨⟨h0,t30⟩,?_⟩
  (conv=>whnf)
  refine pZ hab (by decide) (show (0:Int)<2 by decide) b2 ?_
  (conv=>whnf)
  exact hQ _ _ (m0 _) (m1 _) (SF.set hab) bE
 ·rw [decide_eq_false hp];(conv=>whnf)
  refine bD hab b2 rfl ?_
  (conv=>whnf)
  refine ⟨.inr (by decide),?_⟩
  (conv=>whnf)
  refine ⟨⟨by decide,by decide⟩,?_⟩
  (conv=>whnf)
  refine pZ hab (by decide) (show (1:Int)<2 by decide) b2 ?_;have hab2:(J.set so (.list [.int a,.int ((b*39373+7)%2147483647)]))[so]?=some (.list [.int a,.int ((b*39373+7)%2147483647)]):=bG hab;have r0:=Int.emod_nonneg (b*39373+7) (show (2147483647:Int)≠0 by decide);have r1:=Int.emod_lt_of_pos (b*39373+7) (show (0:Int)<2147483647 by decide);refine bD hab2 b2 rfl (bD hab2 b2 rfl ?_)
  (conv=>whnf)
  refine ⟨.inl (by omega),?_⟩
  (conv=>whnf)
  refine ⟨⟨by decide,by decide⟩,?_⟩
  (conv=>whnf)
  refine ⟨⟨by decide,by decide⟩,?_⟩
  (conv=>whnf)
  refine ⟨⟨h0,t62⟩,?_⟩
  (conv=>whnf)
  exact hQ _ _ (m0 _) (m1 _) (SF.set hab) bE
theorem nZ{l:Nat}(hs:vj J so)(hl:J[l]?=some (.list xs))(hne:l≠so)(h0:xs≠[])(h1:xs.length<1000)(hQ:∀x σ',x∈xs->SF so J σ'->Q x σ'):aZ a0 (n+2) ("","_law_one") [.obj so,.obj l] J Q:=by
 have hpos:0<xs.length:=List.length_pos_iff.mpr h0;have hb:xs.length<big:=aQ h1 (by decide);refine bq (d:=qe) rfl ae ae ?_
 (conv=>whnf)
 refine ku (iX hl) hb ?_
 (conv=>whnf)
 refine iG hs (Int.ofNat_lt.mpr hpos) (Int.ofNat_lt.mpr h1) λr σ' r0 r1 sf len=>xe (Int.eq_ofNat_of_zero_le r0) λi q=>?_;subst q;have hi:i<xs.length:=Int.ofNat_lt.mp r1
 (conv=>whnf)
 refine bD (w:=xs[i]) (sf.keep hl hne) hb ?_ ?_
 ·show (if 0<=(i:Int) then xs[Int.toNat i]? else _)=some xs[i];rw [if_pos (Int.natCast_nonneg _),Int.toNat_natCast,aA hi]
 ·exact hQ _ _ (List.getElem_mem hi) sf
noncomputable def B9(x:V):Prop:=∃i:Nat,i<8/\x=.int (i:Int)
theorem B9.ropd{x:V}(h:B9 x):dm (oR x):=let ⟨i,h1,h2⟩:=h;⟨i,ak h1 (by decide),aW h1,congrArg oR h2⟩
theorem uM(i:Nat)(h:i<8):B9 (.int (i:Int)):=⟨i,h,rfl⟩
theorem kC(hs:vj J so)(hQ:∀x σ',dm x->SF so J σ'->Q x σ'):aZ a0 (n+3) ("","_law_pointer") [.obj so] J Q:=by
 refine bq (d:=lg) rfl ae ae ?_;have hso:so<J.length:=let ⟨_,_,h⟩:=hs;a8 h
 refine nZ (n:=n) (hs.ext az) (xs:=[.int 0,.int 2,.int 3,.int 4,.int 2]) aF (bg (aW hso)) (List.cons_ne_nil _ _) (by decide) λx σ' hx sf=>?_;have k:∀x∈[V.int 0,.int 2,.int 3,.int 4,.int 2],B9 x:=aP.mpr ⟨uM 0 (by decide),aP.mpr ⟨uM 2 (by decide),qn (uM 3 (by decide)) (uM 4 (by decide)) (uM 2 (by decide))⟩⟩;exact hQ (oR x) σ' (k x hx).ropd ((SF.pre hs az).trans sf)
theorem g9(hs:vj J so)(hQ:∀x σ',dm x->SF so J σ'->Q x σ'):aZ a0 (n+3) ("","_law_row") [.obj so] J Q:=by
 refine bq (d:=qg) rfl ae ae ?_;have hso:so<J.length:=let ⟨_,_,h⟩:=hs;a8 h
 refine nZ (n:=n) (hs.ext az) (xs:=[.int 1,.int 5,.int 6,.int 5]) aF (bg (aW hso)) (List.cons_ne_nil _ _) (by decide) λx σ' hx sf=>?_;have k:∀x∈[V.int 1,.int 5,.int 6,.int 5],B9 x:=aP.mpr ⟨uM 1 (by decide),qn (uM 5 (by decide)) (uM 6 (by decide)) (uM 5 (by decide))⟩;exact hQ (oR x) σ' (k x hx).ropd ((SF.pre hs az).trans sf)
end
section
variable{so:Nat}
theorem iI.regs{d:V}(h:iI d):d∈regs:=let ⟨i,h1,_,h2⟩:=h;aX.mpr ⟨i,List.mem_range.mpr h1,h2.symm⟩
theorem dm.opd'(h:dm a):iq a:=let ⟨i,h1,_,h2⟩:=h;.inl ⟨_,aX.mpr ⟨i,List.mem_range.mpr h1,rfl⟩,h2⟩
theorem Kz(d:Nat)(h:d<8):iI (.int d):=⟨d,ak h (by decide),aW h,rfl⟩
theorem tm{b:Nat}{r:Int}{t:Nat}(h0:0<=r)(h1:r<t)(hb:b+t<=8):iI (.int ((b:Int)+r)):=by
 refine xe (Int.eq_ofNat_of_zero_le h0) λi q=>?_;subst q;exact Kz (b+i) (ak (Nat.add_lt_add_left (Int.ofNat_lt.mp h1) b) hb)
theorem vj.ne(x:vj J so):J.length≠so:=let ⟨_,_,h⟩:=x;bg (aW (a8 h))
theorem HR{r:Int}(h0:0<=r)(h1:r<2):V.int r=.int 0\/V.int r=.int 1 :=
 (show r=0\/r=1 by omega).imp (congrArg V.int) (congrArg V.int)
noncomputable abbrev vMAP:V:=.tup [.str "map",vT,vT]
theorem F1:ef vMAP:=.tup _ _ rfl (aC _) rfl ae
noncomputable abbrev DY(d r p q s a1 a2 a3 a4 a5 a6 j x k a7:V):List V:=[(Ln.new d s).vl,(Ln.new d s).vl,(Ln.store p q).vl,(Ln.load d p).vl,(Ln.move d p).vl,(Ln.mslice r s).vl,(Ln.append r a1 a2 s).vl,(Ln.copy a3 a4).vl,(Ln.cut r a5).vl,(Ln.elem d a6 0).vl,(Ln.mmap vMAP s).vl,(Ln.mapset p q).vl,(Ln.mapget d p).vl,(Ln.struct p q).vl,(Ln.part d j).vl,(Ln.face p).vl,x,(Ln.call d r k p a7).vl]
noncomputable def Dr(s:V)(y:Ln):Prop:=y.mok/\y.ok [s]/\(y.news=[]\/y.news=[s])
noncomputable def I3(s x:V):Prop:=∃y:Ln,x=y.vl/\Dr s y
theorem dW{p:V->Prop}(h:p a)(t:∀x∈l,p x):∀x∈a::l,p x:=aP.mpr ⟨h,t⟩
theorem u9{s:V}{y:Ln}(h1:y.mok)(h2:y.ok [s])(h3:y.news=[]\/y.news=[s]):I3 s y.vl:=⟨y,rfl,h1,h2,h3⟩
theorem DZ{d r p q s a1 a2 a3 a4 a5 a6 j x a7:V}(hs:ef s)(hd:iI d)(hr:iI r)(hp:dm p)(hq:dm q)(h1:dm a1)(h2:dm a2)(h3:dm a3)(h4:dm a4)(h5:dm a5)(h6:dm a6)(hj:j=.int 0\/j=.int 1)(hx:I3 s x)(hk:k∈bP)(h7:dm a7) :
  ∀y∈DY d r p q s a1 a2 a3 a4 a5 a6 j x k a7,I3 s y:=by
 have n:I3 s (Ln.new d s).vl:=u9 ⟨hd,hs⟩ ⟨hd.regs,ai⟩ (.inr rfl);exact dW n (dW n (dW (u9 ⟨hp,hq⟩ ⟨hp.opd',hq.opd'⟩ (.inl rfl)) (dW (u9 ⟨hd,hp⟩ ⟨hd.regs,hp.opd'⟩ (.inl rfl)) (dW (u9 ⟨hd,hp⟩ ⟨hd.regs,hp.opd'⟩ (.inl rfl)) (dW (u9 ⟨hr,hs⟩ ⟨hr.regs,ai⟩ (.inr rfl))
  (dW (u9 ⟨hr,h1,h2,hs⟩ ⟨hr.regs,h1.opd',h2.opd',ai⟩ (.inr rfl)) (dW (u9 ⟨h3,h4⟩ ⟨h3.opd',h4.opd'⟩ (.inl rfl)) (dW (u9 ⟨hr,h5⟩ ⟨hr.regs,h5.opd'⟩ (.inl rfl)) (dW (u9 ⟨hd,h6⟩ ⟨hd.regs,h6.opd'⟩ (.inl rfl)) (dW (u9 ⟨F1,hs⟩ ai (.inr rfl))
  (dW (u9 ⟨hp,hq⟩ ⟨hp.opd',hq.opd'⟩ (.inl rfl)) (dW (u9 ⟨hd,hp⟩ hd.regs (.inl rfl)) (dW (u9 ⟨hp,hq⟩ ⟨hp.opd',hq.opd'⟩ (.inl rfl)) (dW (u9 ⟨hd,hj⟩ hd.regs (.inl rfl)) (dW (u9 hp hp.opd' (.inl rfl)) (dW hx (dW (u9 ⟨hd,hr,hp,h7⟩ ⟨hd.regs,hr.regs,hk,hp.opd',h7.opd'⟩ (.inl rfl)) λz_ h=>(aq h).elim)))))))))))))))))
theorem oP{s:V}(hns:ef s)(hs:vj J so)(hQ:∀(y:Ln) σ',Dr s y->SF so J σ'->Q y.vl σ'):aZ a0 (n+5) ("","_law_instruction") [.obj so,s] J Q:=by
 refine bq (d:=iN) rfl ae ae (iG hs (by decide) (by decide) λw σ1 w0 w1 sf z_=>kC sf.src λp σ2 hp sf2=>?_);have sf:=sf.trans sf2;refine kC sf.src λq σ3 hq sf3=>?_;have sf:=sf.trans sf3;refine iG sf.src (by decide) (by decide) λd σ4 d0 d1 sf4 z_=>?_;have sf:=sf.trans sf4;have hd:=tm (b:=2) (t:=3) d0 d1 (by decide);refine iG sf.src (by decide) (by decide) λr σ5 r0 r1 sf5 z_=>?_;have sf:=sf.trans sf5;have hr:=tm (b:=5) (t:=2) r0 r1 (by decide);refine g9 sf.src λa1 σ6 h1 sf6=>?_;have sf:=sf.trans sf6;refine g9 sf.src λa2 σ7 h2 sf7=>?_;have sf:=sf.trans sf7;refine g9 sf.src λa3 σ8 h3 sf8=>?_;have sf:=sf.trans sf8;refine g9 sf.src λa4 σ9 h4 sf9=>?_;have sf:=sf.trans sf9;refine g9 sf.src λa5 σ10 h5 sf10=>?_;have sf:=sf.trans sf10;refine g9 sf.src λa6 σ11 h6 sf11=>?_;have sf:=sf.trans sf11;refine iG sf.src (by decide) (by decide) λj σ12 j0 j1 sf12 z_=>?_;have sf:=sf.trans sf12;refine nZ (sf.src.ext az) (xs:=[(Ln.send p).vl,(Ln.recv (.int ((2:Nat)+d))).vl]) aF sf.src.ne (List.cons_ne_nil _ _) ae λx σ13 hx sf13=>?_;have sf:=sf.trans ((SF.pre sf.src az).trans sf13);refine nZ (sf.src.ext az) (xs:=[.str "f",.str "g"]) aF sf.src.ne (List.cons_ne_nil _ _) ae λk σ14 hk sf14=>?_;have sf:=sf.trans ((SF.pre sf.src az).trans sf14);refine g9 sf.src λa7 σ15 h7 sf15=>?_;have sf:=sf.trans sf15;refine xe (Int.eq_ofNat_of_zero_le w0) λi z=>?_;subst z;have hi:i<18:=Int.ofNat_lt.mp w1;have hX:I3 s x:=(aO.mp hx).elim (λe=>e▸u9 hp hp.opd' (.inl rfl)) λh=>an.mp h▸u9 hd hd.regs (.inl rfl);have hall:=DZ (j:=.int j) (x:=x) hns hd hr hp hq h1 h2 h3 h4 h5 h6 (HR j0 j1) hX hk h7;refine bD (l:=DY (.int ((2:Nat)+d)) (.int ((5:Nat)+r)) p q s a1 a2 a3 a4 a5 a6 (.int j) x k a7) (w:=(DY (.int ((2:Nat)+d)) (.int ((5:Nat)+r)) p q s a1 a2 a3 a4 a5 a6 (.int j) x k a7)[i]'hi) aF ae ?_ ?_
 ·unfold zE;rw [if_pos (Int.natCast_nonneg _)];exact aA hi
 ·refine bO (hall _ (List.getElem_mem hi)) λy e h=>?_;rw [e];exact hQ y _ h (sf.trans (SF.pre sf.src az))
end
section
variable{so:Nat}{X:Nat->Prop}
theorem zv(h:k∈bP):∃s:String,k=.str s/\s≠"reg":=(show ∀k∈bP,∃s:String,k=.str s/\s≠"reg" from qm ⟨_,rfl,by decide⟩ ⟨_,rfl,by decide⟩) k h
structure p6(X:Nat->Prop)(J:Hp)(c:Nat)(ls:List Ln)(a b:V):Prop where
 ex:∃k rg bl blk li,¬X c/\¬X bl/\¬X blk/\¬X li/\
  J[c]?=some (.inst "Code" [("key",k),("params",.int 2),("registers",rg),("blocks",.obj bl),("captured",.int 0),("results",.int 2),("recovery",.none)])/\
  J[bl]?=some (.list [.obj blk])/\J[blk]?=some (.list [.obj li,.tup [.str "return",.tup [a,b]]])/\J[li]?=some (.list (ls.map Ln.vl))
theorem p6.same{ls:List Ln}(s:p6 X J c ls a b)(h:∀n,n<J.length->¬X n->σ'[n]?=J[n]?):p6 X σ' c ls a b:=by
 exact eF s.ex λk rg bl blk li h1 h2 h3 h4 g1 g2 g3 g4=>⟨k,rg,bl,blk,li,h1,h2,h3,h4,(h _ (a8 g1) h1).trans g1,(h _ (a8 g2) h2).trans g2,(h _ (a8 g3) h3).trans g3,(h _ (a8 g4) h4).trans g4⟩
theorem p6.at{ls:List Ln}(s:p6 X J c ls a b):iH J.length J c ls a b:=by
 exact eF s.ex λk rg bl blk li h1 h2 h3 h4 g1 g2 g3 g4=>⟨k,rg,bl,blk,li,a8 g1,a8 g2,a8 g3,a8 g4,g1,g2,g3,g4⟩
noncomputable abbrev IV:List V:=(List.replicate (Int.toNat 10) [vT]).flatten
noncomputable abbrev Jj(J:Hp)(key:V):Ob:=.inst "Code" [("key",key),("params",.int 2),("registers",.obj (J.length+5)),("blocks",.obj (J.length+3)),("captured",.int 0),("results",.int 2),("recovery",.none)]
noncomputable abbrev kT(J:Hp)(key:V)(li:Nat)(en:V):Hp:=[Ob.list [vT],Ob.list IV,Ob.list [.obj li,en],Ob.list [.obj (J.length+2)],Jj J key,Ob.list IV]
theorem CB{li:Nat}{key en:V}(hQ:Q .none (J++kT J key li en)) :
  aZ a0 (n+1) ("Code","__init__") [.obj (J.length+4),key,.int 2,.obj (J.length+1),.obj (J.length+3),.int 0,.int 2] (J++[Ob.list [vT],Ob.list IV,Ob.list [.obj li,en],Ob.list [.obj (J.length+2)],.inst "Code" []]) Q:=by
 have h:=Ah (n:=n) (J:=J++[Ob.list [vT],Ob.list IV,Ob.list [.obj li,en],Ob.list [.obj (J.length+2)]]) (key:=key) (blocks:=.obj (J.length+3)) (r:=J.length+1) (rs:=IV) (Q:=Q) (by rw [dK];rfl) (by decide) ?_
 ·rw [fh,bi] at h;exact h
 ·rw [bi,fh];exact hQ
theorem Id{a:Ob}:(J++[a]).length=J.length+1:=fh
theorem AP{a b:Ob}:(J++[a]++[b]).length=J.length+2:=fh.trans (congrArg (·+1) Id)
theorem JB{a b c:Ob}:(J++[a]++[b]++[c]).length=J.length+3:=fh.trans (congrArg (·+1) AP)
theorem FM{a b c d:Ob}:(J++[a]++[b]++[c]++[d]).length=J.length+4:=fh.trans (congrArg (·+1) JB)
theorem J7{a b c d e:Ob}:J++[a]++[b]++[c]++[d]++[e]=J++[a,b,c,d,e]:=by rw [bi,bi,bi,bi];rfl
theorem Ai{li x1 x2 x3 x4:Nat}{key en:V}{τ:Hp}(e1:x1=J.length+1)(e2:x2=J.length+2)(e3:x3=J.length+3)(e4:x4=J.length+4)(hτ:τ=J++[Ob.list [vT],Ob.list IV,Ob.list [.obj li,en],Ob.list [.obj x2],.inst "Code" []])(hQ:Q .none (J++kT J key li en)) :
  aZ a0 (n+1) ("Code","__init__") [.obj x4,key,.int 2,.obj x1,.obj x3,.int 0,.int 2] τ Q:=by
 subst e1 e2 e3 e4 hτ;exact CB hQ
theorem lE{li:Nat}{key:V}{ls:List Ln}(h:J[li]?=some (.list (ls.map Ln.vl)))(hl:¬X li)(hX:∀n,J.length<=n->¬X n):p6 X (J++kT J key li (.tup [.str "return",.tup [a,b]])) (J.length+4) ls a b :=
 ⟨key,.obj (J.length+5),J.length+3,J.length+2,li,hX _ (by omega),hX _ (by omega),hX _ (by omega),hl,dK,dK,dK,aS h⟩
theorem Ln.ok_of{x:Ln}{st st':List V}(h:x.ok st)(hs:∀s∈x.news,s∈st'):x.ok st':=by
 cases x with
 | new d s=>exact ⟨h.1,hs s ai⟩
 | mslice d s=>exact ⟨h.1,hs s ai⟩
 | append d a b s=>exact ⟨h.1,h.2.1,h.2.2.1,hs s ai⟩
 | mmap t s=>exact hs s ai
 | _=>exact h
theorem oK{li:Nat}{key told:V}(hQ:Q (.obj (J.length+4)) (J++kT J key li (.tup [.str "return",told]))):aZ a0 (n+2) ("","_law_code") [key,.obj li,told] J Q:=by
 refine bq (d:=pd) rfl ae ae (zB aF (by decide) (by decide) ae (Ai Id AP JB FM J7 ⟨rfl,?_⟩));rw [FM];exact hQ
structure p7(key:V)(js:List Int)(ys:List Ln):Prop where
 mok:∀y∈ys,y.mok
 ok:∀y∈ys,∃st,y.ok st
 news:(ys.flatMap Ln.news).Sublist (js.map λj=>V.tup [key,.int j])
 len:ys.length=js.length
theorem p7.nil{key:V}:p7 key [] []:=⟨λz_ h=>(aq h).elim,λz_ h=>(aq h).elim,List.nil_sublist _,rfl⟩
theorem p7.cons{key:V}{j:Int}{js:List Int}{x:Ln}{ys:List Ln}(m:x.mok)(o:x.ok [.tup [key,.int j]])(hn:x.news=[]\/x.news=[.tup [key,.int j]])(d:p7 key js ys):p7 key (j::js) (x::ys) :=
 ⟨aP.mpr ⟨m,d.mok⟩,aP.mpr ⟨⟨_,o⟩,d.ok⟩,by
  rw [List.flatMap_cons,List.map_cons];exact hn.elim (λe=>by rw [e];exact d.news.cons _) λe=>by rw [e];exact d.news.cons_cons _,congrArg (·+1) d.len⟩
theorem x9{ks:String}{key:V}(hks:key=.str ks)(hkr:ks≠"reg"){K:List V->Hp->Prop}(hg:∀J,gd J)(hk:cq ["at"] loc "key"=some key)(hsl:cq ["at"] loc "source"=some (.obj so)){js:List Int}:∀{acc:List Ln} {J:Hp},vj J so->acc.length+js.length<1000->
  (∀ys σ',p7 key js ys->SF so J σ'->K ((acc++ys).map Ln.vl) σ')->
  dH gd (.name "at") (cq ["at"] loc) (dY (hO (aZ a0 (n+5)) kP) (ev (aZ a0 (n+5)) kO)) 0 (js.map V.int) (acc.map Ln.vl) J K:=by
 induction js with
 | nil=>intro acc J hs hl hK;exact ⟨hg J,bn acc▸hK [] J .nil ⟨ay _,λz_ z_ z_=>rfl,hs⟩⟩
 | cons j js ih =>
  intro acc J hs hl hK;rw [List.length_cons] at hl;refine ⟨hg J,aw hsl (aw hk ?_)⟩;have nr:ef (.tup [key,.int j]):=.tup _ _ (by rw [hks];rfl) (by rw [hks];exact aC _) (by rw [hks];exact decide_eq_false hkr) ae;refine oP nr hs λx σ1 dx sf=>⟨by show 0+(acc.map Ln.vl).length+1<big;rw [aM];unfold big;omega,?_⟩
  rw [show acc.map Ln.vl++[x.vl]=(acc++[x]).map Ln.vl from (List.map_append (f:=Ln.vl) (l₁:=acc) (l₂:=[x])).symm];exact ih sf.src (by rw [aH,List.length_singleton];omega) λys σ' dr sf'=>List.append_cons acc x ys▸hK (x::ys) σ' (dr.cons dx.1 dx.2.1 dx.2.2) (sf.trans sf')
structure I2(key:V)(ls:List Ln)(a b:V):Prop where
 js:∃js:List Int,js.Nodup/\js.length<=8/\p7 key js ls
 a:dm a
 b:dm b
structure JV(J:Hp)(so fo:Nat)(X:Nat->Prop)(done:List V)(cA:V->Nat)(ls:V->List Ln)(a b:V->V):Prop where
 src:vj J so
 fnd:∃e,J[fo]?=some (.dict (done.map λk=>(k,V.obj (cA k))) e)
 fn:∀k∈done,p6 X J (cA k) (ls k) (a k) (b k)/\I2 k (ls k) (a k) (b k)
theorem Gz{m:List (V×V)}{e:Nat}{w:V}(h:getD m k=none):gq m e k w=.dict (m++[(k,w)]) (e+1):=by
 unfold gq;rw [jY h,h];rfl
theorem Fv{l:List (V×V)}(h:k∉l.map (·.1)):getD l k=none:=by
 cases e:getD l k with
 | none=>rfl
 | some v=>exact (h (let ⟨i,_,h2⟩:=fc e;aX.mpr ⟨_,List.mem_of_getElem? h2,rfl⟩)).elim
theorem xA{fo li fe:Nat}{done:List V}{a' b':V}{ys:List Ln}{cA:V->Nat}{ls:V->List Ln}{a b:V->V}{σ6:Hp}(hX:∀n,X n↔n=so\/n=fo)(hne:so≠fo)(cs:JV J so fo X done cA ls a b)(hfo:J[fo]?=some (.dict (done.map λk=>(k,V.obj (cA k))) fe))(sf:SF so J σ')(hli:σ'[li]?=some (.list (ys.map Ln.vl)))(hl:J.length<=li)(knd:k∉done)(df:I2 k ys a' b')
  (h6:σ6=(σ'++kT σ' k li (.tup [.str "return",.tup [a',b']])).set fo (gq (done.map λk=>(k,V.obj (cA k))) fe k (.obj (σ'.length+4)))) :
  (∃cA ls a b,JV σ6 so fo X (done++[k]) cA ls a b)/\J.length<=σ6.length/\∀n,n<J.length->¬X n->σ6[n]?=J[n]?:=by
 have hget:getD (done.map λk=>(k,V.obj (cA k))) k=none:=Fv (by rw [List.map_map];intro q;exact knd (by refine bO (List.mem_map.mp q) λz hz e=>?_;exact e▸hz));have hst:gq (done.map λk=>(k,V.obj (cA k))) fe k (.obj (σ'.length+4))=.dict (done.map (λk=>(k,V.obj (cA k)))++[(k,.obj (σ'.length+4))]) (fe+1):=by
  exact Gz hget
 rw [hst] at h6;have lso:so<J.length:=let ⟨_,_,h⟩:=cs.src;a8 h
 have lfo:=a8 hfo;have Xn:∀n,J.length<=n->¬X n:=λn hn q=>((hX n).mp q).elim (λe=>Nat.not_le_of_lt lso (e▸hn)) λe=>Nat.not_le_of_lt lfo (e▸hn);have cx:=lE (X:=X) (key:=k) (a:=a') (b:=b') hli (Xn _ hl) λn hn=>Xn n (am sf.le hn);have hfo4:(σ'++kT σ' k li (.tup [.str "return",.tup [a',b']]))[fo]?=some (.dict (done.map λk=>(k,V.obj (cA k))) fe):=aS (sf.keep hfo (bg hne));have set':∀n,¬X n->σ6[n]?=(σ'++kT σ' k li (.tup [.str "return",.tup [a',b']]))[n]?:=λn hn=>h6▸aR λe=>hn ((hX n).mpr (.inr e.symm));have old:∀n,n<J.length->¬X n->σ6[n]?=J[n]?:=λn hn hx =>
  (set' n hx).trans ((au (ak hn sf.le)).trans (sf.fr n hn λe=>hx ((hX n).mpr (.inl e))))
 have at':σ6[fo]?=some (.dict (done.map (λk=>(k,V.obj (cA k)))++[(k,.obj (σ'.length+4))]) (fe+1)):=h6▸bG hfo4;have src':vj σ6 so:=let ⟨x,y,h⟩:=sf.src;⟨x,y,h6▸(aR (bg hne)).trans (aS h)⟩
 refine ⟨⟨λk'=>if k'=k then σ'.length+4 else cA k',λk'=>if k'=k then ys else ls k',λk'=>if k'=k then a' else a k',λk'=>if k'=k then b' else b k',src',⟨fe+1,?_⟩,λk' hk'=>?_⟩,?_,old⟩
 ·have e9:done.map (λk=>(k,V.obj (cA k)))++[(k,.obj (σ'.length+4))]=(done++[k]).map λk'=>(k',V.obj (if k'=k then σ'.length+4 else cA k')):=by
   rw [List.map_append,List.map_cons,List.map_nil,if_pos rfl];exact congrArg (·++[(k,V.obj (σ'.length+4))]) (List.map_congr_left λk' hk'=>by rw [if_neg (λe:k'=k=>knd (e▸hk'))])
  rw [at',e9]
 ·by_cases e:k'=k
  ·subst e;rw [if_pos rfl,if_pos rfl,if_pos rfl,if_pos rfl];exact ⟨cx.same λn z_ hn=>set' n hn,df⟩
  ·rw [if_neg e,if_neg e,if_neg e,if_neg e];have c:=cs.fn k' ((bt.mp hk').elim id λq=>absurd (an.mp q) e);exact ⟨c.1.same old,c.2⟩
 ·rw [h6,bE,fh];exact am sf.le (aN _ _)
theorem DU(h:i<1000):eA .range [.int i] J=some (((List.range i).map λ(j:Nat)=>(j:Int)).map V.int,[]):=by
 show (if (0:Int)<=(i:Int)/\(i:Int)<1000000 then some ((List.range (i:Int).toNat).map λ(j:Nat)=>V.int (j:Int),([]:List Nat)) else none)=_;rw [if_pos ⟨Int.natCast_nonneg _,Int.ofNat_lt.mpr (aQ h (by decide))⟩,Int.toNat_natCast,List.map_map];rfl
theorem E1{x y z:Int}(e:z=x+y)(q:Q (.int z) J):JT .add Q (.int x) (.int y) J:=by
 subst e;exact q
theorem AK{Q:KL}(h:Q [v] J):G8 (rX C [] loc) Q v J:=h
theorem CD{k:oB}{vs:List V}{p:List V×List Nat}{m:Nat}{t:Tn}{turn:Nat->Loc->Hp->KL->Prop}{Q:KL}(h:eA k vs J=some p)(q:dH (b8 p.2 J) t loc turn m p.1 [] J Q):zu k t loc turn m Q vs J :=
 aw h q
theorem xz{fo:Nat}{l:Nat}(hX:∀n,X n↔n=so\/n=fo)(hne:so≠fo)(hl:¬X l){rest:List V}:∀{done:List V} {cA:V->Nat} {ls:V->List Ln} {a b:V->V} {loc:Loc} {J:Hp},(done++rest).Nodup->(∀k∈done++rest,k∈bP)->(done++rest).length=2->JV J so fo X done cA ls a b->l<J.length->J[l]?=σb[l]?->σb.length<=J.length->(∀n,n<σb.length->¬X n->J[n]?=σb[n]?)->loc "source"=some (.obj so)->loc "found"=some (.obj fo)->
  (∀loc' σ' cA ls a b,b6 ["key","lines"] loc loc'->JV σ' so fo X (done++rest) cA ls a b->σb.length<=σ'.length->(∀n,n<σb.length->¬X n->σ'[n]?=σb[n]?)->QQ .next loc' σ')->
  gh (b8 [l] σb) (.name "key") (ez (aZ a0 (n+5)) kN) rest loc J QQ:=by
 induction rest with
 | nil =>
  intro done cA ls a b loc J nd hm h3 cs hl1 hl2 hz keep hs hf hQ;exact ⟨λq hq=>by rw [an.mp hq];exact hl2,hQ loc J cA ls a b .refl ((bn done).symm▸cs) hz keep⟩
 | cons k rest ih =>
  intro done cA ls a b loc J nd hm h3 cs hl1 hl2 hz keep hs hf hQ;refine ⟨λq hq=>by rw [an.mp hq];exact hl2,?_⟩;rw [List.append_cons] at nd hm h3 hQ;have hkk:=hm k (List.mem_append_left _ (List.mem_append_right _ ai));have knd:k∉done:=λq=>(cI.mp (cI.mp nd).1).2.2 k q k ai rfl;have dl:done.length<1000:=by rw [aH,aH] at h3;omega
  refine xe cs.fnd λfe hfe=>aw hs (iG cs.src (by decide) (by decide) λr σ1 r0 r1 sf1 z_=>xe (Int.eq_ofNat_of_zero_le r0) λi w=>?_);subst w;have hi:3+i<9:=Nat.add_lt_add_left (Int.ofNat_lt.mp r1) 3;have e3:((3+i:Nat):Int)=3+(i:Int):=Int.natCast_add 3 i;generalize (i:Int)=ii at e3 ⊢;refine E1 e3 ?_;have hr:=DU (J:=σ1) (i:=3+i) (aQ hi (by decide));refine AK ?_;generalize ((3+i:Nat):Int)=z at hr ⊢;refine CD hr ?_;have nj:((List.range (3+i)).map λ(j:Nat)=>(j:Int)).Nodup:=List.Pairwise.map _ (λa b h e=>h (Int.ofNat.inj e)) List.nodup_range;have lj:((List.range (3+i)).map λ(j:Nat)=>(j:Int)).length=3+i:=by rw [aM,List.length_range]
  generalize ((List.range (3+i)).map λ(j:Nat)=>(j:Int))=js at nj lj ⊢;refine xe (zv hkk) λkst hks=>?_;refine x9 (n:=n) (loc:=setL loc "key" k) (key:=k) (acc:=[]) hks.1 hks.2 (λJ z_ q=>(aq q).elim) rfl hs sf1.src (by rw [lj];exact ax (Nat.le_of_eq (Nat.zero_add _)) (aQ hi (by decide))) λys σ2 dr sf2=>aw hs (kC (sf2.src.ext az) λa' σ3 ha sf3=>aw hs (g9 sf3.src λb' σ4 hb sf4=>oK (aw hf ?_)));have sfA:=(sf1.trans sf2).trans (((SF.pre sf2.src az).trans sf3).trans sf4);have kk:=mM hkk;refine jt (aS (sfA.keep hfe (bg hne))) kk.1 kk.2 (by rw [aM];exact aQ dl (by decide)) ?_;have l2:σ2.length<σ3.length:=ak (a8 aF) sf3.le;have hli:σ4[σ2.length]?=some (.list (ys.map Ln.vl)):=sf4.keep (sf3.keep aF (sf2.src.ne)) (sf2.src.ne);have nx:=xA hX hne cs hfe sfA hli (am sf1.le sf2.le) knd ⟨⟨js,nj,by rw [lj];exact Nat.le_of_lt_succ hi,dr⟩,ha,hb⟩ rfl;generalize List.set (σ4++kT σ4 k (List.length σ2) (V.tup [V.str "return",V.tup [a',b']])) fo (gq (List.map (λk=>(k,V.obj (cA k))) done) fe k (V.obj (List.length σ4+4)))=σ6 at nx ⊢;refine o9 nx λx l6 old=>JS x λz_ z_ z_ z_ cs6=>?_;have ag:b6 ["key","lines"] loc (setL (setL loc "key" k) "lines" (.obj σ2.length)):=(b6.refl.set (by decide)).set (by decide);exact ih nd hm h3 cs6 (ak hl1 l6) ((old l hl1 hl).trans hl2) (am hz l6) (λn hn hx=>(old n (ak hn hz) hx).trans (keep n hn hx)) hs hf λloc' σ' cA ls a b ag' cs' h1 h2=>hQ loc' σ' cA ls a b (ag.trans ag') cs' h1 h2
end
section
variable{so:Nat}{X:Nat->Prop}
theorem zU:cT [.str "f",.str "g"]=[.str "f",.str "g"]:=by kernel_rfl
theorem iO:∀{l:List V},(l++ns).Nodup->bZ l ns=l++ns:=by
 induction ns with
 | nil=>intro l _;exact (bn l).symm
 | cons x ns ih =>
  intro l h;have hx:x∉l:=λq=>(cI.mp h).2.2 x q x ai rfl;rw [List.append_cons] at h ⊢;rw [lq,show er l x=l++[x] from if_neg hx];exact ih h
theorem I2.sites{ls:List Ln}(h:I2 k ls a b):(ls.flatMap Ln.news).Nodup/\(ls.flatMap Ln.news).length<=8/\∀s∈ls.flatMap Ln.news,∃j:Int,s=.tup [k,.int j]:=by
 refine cG h.js λjs h1 h2 d=>?_;have nd:(js.map λj=>V.tup [k,.int j]).Nodup:=List.Pairwise.map _ (λa b h e=>h (by cases e;rfl)) h1;exact ⟨nd.sublist d.news,am d.news.length_le (by simpa using h2),λs hs=>bO (List.mem_map.mp (d.news.subset hs)) λj z_ e=>⟨j,e.symm⟩⟩
theorem Fy{cA:V->Nat}{ls:V->List Ln}{a b:V->V}(h:∀k∈bP,I2 k (ls k) (a k) (b k)):EU ⟨bP,cA,ls,a,b⟩:=by
 have kstr:∀k∈bP,∃s,k=.str s:=λk hk=>(zv hk).imp λz_ h=>h.1;have disj:∀k∈bP,∀k'∈bP,k≠k'->∀s∈(ls k).flatMap Ln.news,s∉(ls k').flatMap Ln.news:=λk hk k' hk' hne s h1 h2=>by
  refine xe ((h k hk).sites.2.2 s h1) λj e=>xe ((h k' hk').sites.2.2 s h2) λj' e'=>?_;rw [e] at e';simp only [V.tup.injEq,List.cons.injEq,and_true] at e';exact hne e'.1
 have ok:dh.Ok ⟨bP,cA,ls,a,b⟩:=by
  refine ⟨.refl _,λk hk=>am (h k hk).sites.2.1 (by decide),λk hk s hs=>?_,λk hk x hx=>?_,λk hk=>(h k hk).a.opd',λk hk=>(h k hk).b.opd',disj⟩
  ·refine xe ((h k hk).sites.2.2 s hs) λj w=>?_;subst w;refine xe (kstr k hk) λt z=>?_;subst z;exact ⟨rfl,ae⟩
  ·exact cG ((h k hk).js) λjs h1 h2 d=>xe (d.ok x hx) λst q=>Ln.ok_of q λs hs=>List.mem_flatMap.mpr ⟨x,hx,hs⟩
 have nd:(bP.flatMap λk=>(ls k).flatMap Ln.news).Nodup:=by
  have hf:=(h (.str "f") (by simp [bP])).sites.1;have hg:=(h (.str "g") (by simp [bP])).sites.1;simp only [bP,List.flatMap_cons,List.flatMap_nil,bn];exact List.nodup_append.mpr ⟨hf,hg,λx hx y hy e=>disj (.str "f") (by simp [bP]) (.str "g") (by simp [bP]) (by simp) x hx (e▸hy)⟩
 have e1:bZ [] (dh.full ⟨bP,cA,ls,a,b⟩ (cT bP))=bP.flatMap λk=>(ls k).flatMap Ln.news:=by
  have es:cT bP=bP:=zU;rw [es];have e2:dh.full ⟨bP,cA,ls,a,b⟩ bP=bP.flatMap λk=>(ls k).flatMap Ln.news:=by
   delta dh.full;have:∀k∈bP,bZ [] (dh.news ⟨bP,cA,ls,a,b⟩ k)=(ls k).flatMap Ln.news:=λk hk=>by
    have:=iO (l:=[]) (ns:=(ls k).flatMap Ln.news) (by simpa using (h k hk).sites.1);rw [List.nil_append] at this;exact this
   rw [List.flatMap_def,List.flatMap_def];exact congrArg _ (List.map_congr_left this)
  rw [e2];have:=iO (l:=[]) (ns:=bP.flatMap λk=>(ls k).flatMap Ln.news) (by simpa using nd)
  simpa using this
 have s2:cO (bP.flatMap λk=>(ls k).flatMap Ln.news)=true:=by
  delta cO;simp only [Bool.and_eq_true,Bool.or_eq_true,decide_eq_true_eq];refine ⟨?_,.inr (List.all_eq_true.mpr λs hs=>?_)⟩
  ·have hf:=(h (.str "f") (by simp [bP])).sites.2.1;have hg:=(h (.str "g") (by simp [bP])).sites.2.1;simp only [bP,List.flatMap_cons,List.flatMap_nil,bn,aH];omega
  ·refine bO (List.mem_flatMap.mp hs) λk hk hs=>xe ((h k hk).sites.2.2 s hs) λj u=>?_;subst u;refine xe (kstr k hk) λt v=>?_;subst v;rfl
 refine ⟨ok,λk hk x hx=>?_,λk hk=>(h k hk).a,λk hk=>(h k hk).b,λk hk=>?_,by rw [e1];exact s2,s2,by rw [e1];rfl⟩
 ·exact cG ((h k hk).js) λjs h1 h2 d=>d.mok x hx
 ·refine cG ((h k hk).js) λjs h1 h2 d=>?_;rw [d.len];exact h2
theorem CZ{a b:Ob}(h:n<J.length):(J++[a]++[b])[n]?=J[n]?:=by
 rw [bi];exact au h
theorem xB(hs:vj J so)(hQ:∀fo σ' P,EU P->(∀σ'',SF so σ' σ''->gN σ''.length σ'' fo P)->vj σ' so->J.length<=fo->SF so J σ'->Q (.obj fo) σ'):aZ a0 (n+6) ("","_law_codes") [.obj so] J Q:=by
 refine bq (d:=m5) rfl ae ae ?_;have nd:([V.str "f",V.str "g"]:List V).Nodup:=by simp
 have lso:so<J.length:=let ⟨_,_,h⟩:=hs;a8 h
 refine ⟨λp hp=>eT hp,ae,aw (ch aF) ?_⟩;refine xz (n:=n) (so:=so) (fo:=J.length) (X:=λn=>n=so\/n=J.length) (done:=[]) (λz_=>Iff.rfl) (aW lso) (by rw [Id];omega) (cA:=λz_=>0) (ls:=λz_=>[]) (a:=λz_=>.none) (b:=λz_=>.none) nd (λk hk=>hk) rfl ⟨(hs.ext az).ext az,⟨0,aS aF⟩,λz_ h=>(aq h).elim⟩ (a8 aF) rfl (ay _) (λz_ z_ z_=>rfl) rfl rfl λloc' σ' cA ls a b ag cs h1 h2=>?_;have hfd:loc' "found"=some (.obj J.length):=ag.at (by decide) rfl;refine aw hfd ?_;rw [List.nil_append] at cs;rw [AP] at h1 h2;refine xe cs.fnd λfe hfe=>?_;have hne:=bg (aW lso);refine hQ J.length σ' ⟨bP,cA,ls,a,b⟩ (Fy λk hk=>(cs.fn k hk).2) (λσ'' sf=>⟨a8 (sf.keep hfe hne),⟨fe,sf.keep hfe hne⟩,λk hk=>((cs.fn k hk).1.same λn hn hX=>sf.fr n hn λe=>hX (.inl e)).at⟩) cs.src (ay _) ⟨am (aN _ _) h1,λn hn hne=>?_,cs.src⟩;exact (h2 n (ak hn (aN _ _)) λq=>q.elim hne (aW hn)).trans (CZ hn)
end
section
variable{so:Nat}{X:Nat->Prop}
set_option tactic.hygienic true in
theorem Bt{l:List Int}(hl:l.length<=63)(hQ:∀a b,Q (.obj J.length) (J++[.list [.int a,.int b]])):aZ a0 (n+1) ("","_law_pool") [.ints l,.int 0] J Q:=by
 have fin:∀(loc:Loc) (c:Int),loc "cell"=some (.int c)->loc "k"=some (.int 0)->ez (aZ a0 n) (ji.body.drop 2) loc J (uc Q):=λloc c hc hk=>by
  refine aw hc ?_
  (conv=>whnf)
  refine aw hc ?_
  (conv=>whnf)
  refine ⟨⟨by decide,by decide⟩,?_⟩
  (conv=>whnf)
  refine aw hk ⟨.inl (by decide),?_⟩
  (conv=>whnf)
  refine aw hk ⟨.inl (by decide),?_⟩
  (conv=>whnf)
  refine aw hk ⟨.inl (by decide),?_⟩
  (conv=>whnf)
  refine ⟨.inr (by decide),?_⟩
  (conv=>whnf)
  refine ⟨⟨by decide,by decide⟩,?_⟩
  (conv=>whnf)
  refine ⟨.inr ?_,?_⟩
  ·split<;>decide
  (conv=>whnf)
  exact hQ _ _
 refine bq (d:=ji) rfl ae ae ?_
 (conv=>whnf)
 refine ku (v:=.ints l) (j:=l.length) rfl (ax hl (by decide)) ?_
 (conv=>whnf)
 by_cases h:(0:Int)<l.length
 ·rw [bp h]
  (conv=>whnf)
  refine aw (show jT J (.ints l) (.int 0)=some (.int (l[0]'(Int.ofNat_lt.mp h))) from ?_) ?_
  ·exact (if_pos (e:=none) (show (0:Int)<=0/\(0:Int)<2^60 from ⟨Int.le_refl 0,by decide⟩)).trans (congrArg (Option.map V.int) (aA (Int.ofNat_lt.mp h)))
  ·exact fin (setL (setL (jV ji.params [.ints l,.int 0]) "cell" (.int 0)) "cell" (.int (l[0]'(Int.ofNat_lt.mp h)))) _ rfl rfl
 ·rw [decide_eq_false h]
  (conv=>whnf)
  refine ⟨⟨by decide,by decide⟩,?_⟩
  (conv=>whnf)
  refine ⟨.inl (by decide),?_⟩
  (conv=>whnf)
  refine ⟨.inl (by decide),?_⟩
  (conv=>whnf)
  refine ⟨.inl (by decide),?_⟩
  (conv=>whnf)
  refine ⟨.inr (by decide),?_⟩
  (conv=>whnf)
  refine ⟨⟨by decide,by decide⟩,?_⟩
  (conv=>whnf)
  refine ⟨.inr ?_,?_⟩
  ·decide
  (conv=>whnf)
  exact hQ _ _
noncomputable abbrev oI(i:Int):V:=oR (.int i)
noncomputable def wL:List Ln:=[.new (.int 2) (.int 1),.mslice (.int 5) (.int 2),.elem (.int 3) (oI 5) 1,.store (oI 3) (oI 2),.mmap vROW (.int 3),.mapset (oI 2) (oI 2)]
noncomputable def bL:List Ln:=[.new (.int 2) (.int 4),.send (oI 2),.new (.int 3) (.int 5),.face (oI 3),.mslice (.int 5) (.int 6),.new (.int 4) (.int 7),.elem (.int 8) (oI 5) 1,.store (oI 8) (oI 4),.append (.int 6) (oI 1) (oI 5) (.int 8)]
noncomputable def ey(cA:V->Nat):dh:=⟨bP,cA,λk=>match k with | .str "f"=>wL | .str "g"=>bL | _=>[],λz_=>oI 0,λz_=>oI 1⟩
theorem hU{p:V->Prop}(h1:p (.str "f"))(h2:p (.str "g")):∀k∈bP,p k:=qm h1 h2
theorem all_nil{p:Ln->Prop}:∀x∈([]:List Ln),p x:=λz_ h=>absurd h aq
theorem all_cons{p:Ln->Prop}{a:Ln}{l:List Ln}(h:p a)(t:∀x∈l,p x):∀x∈a::l,p x:=aP.mpr ⟨h,t⟩
noncomputable def Cf:Facts:=λtb v=>match tb with
 | .held r=>(r=.int 0->v=tO (.int 0))/\(r=.int 1->v=tO (.int 1))/\(r=.int 3\/r=.int 5->v=tS (.int 2))/\(r=.int 7->v=tS (.int 3))
 | .gone=>False
 | _=>True
theorem de{a b:Int}{p:Prop}(h:decide (a=b)=false):V.int a=.int b->p:=λe=>absurd (V.int.inj e) (of_decide_eq_false h)
theorem rF{i:Int}{t:V}(h:cg Cf (oI i) t):Cf (.held (.int i)) t:=h.elim (λq=>bO q λr e h=>by cases e;exact h) False.elim
theorem v7{i op:V}{o:V}(h:∀t,cg Cf op t->t=tO o)(l:oT i op Cf tb v):Cf tb v:=by
 rcases l with ⟨rfl,_⟩ | ⟨u,⟨t,⟨h1,s,h2⟩,_⟩,_⟩
 ·trivial
 ·exact absurd ((h t h1).symm.trans h2) ju
theorem DR{G T:V->Prop}{s:V}(h:∀t,G t->t=tS s)(l:eW G T Cf tb v):Cf tb v:=by
 refine bO l λg hg l=>?_;have e:=h g hg;rcases l with ⟨q,_⟩ | ⟨o,q,_⟩ | ⟨s',_,⟨rfl,_⟩ | ⟨q,_⟩⟩
 ·exact absurd (q.symm.trans e) il
 ·exact absurd (q.symm.trans e) ju
 ·trivial
 ·exact q.elim
noncomputable def N(v:V):Prop:=v≠tS (.int 6)/\v≠tS (.int 8)
noncomputable def low(v:V):Bool:=match v with | .int i=>decide (i<=4) | _=>false
noncomputable def Cg:Facts:=λtb v=>match tb with
 | .held r=>low r=true->N v
 | .inside _=>N v
 | .gone=>v≠.int 6/\v≠.int 8
 | _=>True
theorem KI:N tB:=⟨il,il⟩
theorem KJ{i:V}:N (tO i):=⟨ju,ju⟩
theorem J2{i:Int}(h:decide (i=6)=false)(h2:decide (i=8)=false):N (tS (.int i)):=⟨λe=>de h (yU e),λe=>de h2 (yU e)⟩
theorem rG{i:Int}(hi:decide (i<=4)=true){t:V}(h:cg Cg (oI i) t):N t:=h.elim (λq=>bO q λr e h=>by cases e;exact h hi) False.elim
theorem Hc{t u:V}(h:Ld Cg t u):N u:=by
 rcases h with ⟨s,rfl,h | ⟨_,rfl⟩⟩ | ⟨h,rfl | ⟨i,o,rfl,_,rfl⟩⟩
 ·exact h
 ·exact KI
 ·exact ⟨h _,h _⟩
 ·split
  ·exact KI
  ·exact KJ
theorem Hr{T:V->Prop}(h:∀t,T t->N t){u:V}(q:Rc Cg T u):N u:=by
 refine bO q λt ht st=>?_
 cases st with
 | refl=>exact h _ ht
 | tail _ l=>exact Hc l
theorem l9{T:V->Prop}(h:∀t,T t->N t)(l:fA T Cg tb v):Cg tb v:=by
 obtain ⟨u,q,⟨rfl,e⟩ | ⟨rfl,_⟩⟩:=l
 ·have n:=Hr h q;subst e;exact ⟨λe=>n.1 (congrArg tS e),λe=>n.2 (congrArg tS e)⟩
 ·trivial
theorem yD{G T:V->Prop}(h:∀t,T t->N t)(l:eW G T Cg tb v):Cg tb v:=by
 obtain ⟨g,_,⟨_,l⟩ | ⟨o,_,u,q,⟨_,l⟩ | ⟨rfl,_⟩⟩ | ⟨s,_,⟨rfl,q⟩ | ⟨_,l⟩⟩⟩:=l
 ·exact l9 h l
 ·exact l9 (T:=(·=u)) (λt e=>e▸Hr h q) l
 ·trivial
 ·exact h v q
 ·exact l9 h l
theorem qU{d s:V}(h:low d=true->N (tS s))(l:wm d s Cg tb v):Cg tb v:=by
 rcases l with ⟨rfl,_⟩ | ⟨rfl,rfl⟩
 ·trivial
 ·exact h
theorem yh{d s:V}(h:Cf (.held d) (tS s))(l:wm d s Cf tb v):Cf tb v:=by
 rcases l with ⟨rfl,_⟩ | ⟨rfl,rfl⟩
 ·trivial
 ·exact h
theorem v8{i op:V}(h:∀t,cg Cg op t->N t)(l:oT i op Cg tb v):Cg tb v:=by
 rcases l with ⟨rfl,_⟩ | l
 ·trivial
 ·exact l9 (λt q=>h t q.1) l
theorem Dj{t:V}(h:mN Cg a t):N t:=let ⟨_,_,l⟩:=h;Hc l
noncomputable def smallC(k:V):Facts:=if k=.str "g" then Cg else Cf
theorem zT:smallC (.str "g")=Cg:=if_pos rfl
theorem zS:smallC (.str "f")=Cf:=if_neg λe=>absurd (V.str.inj e) (by decide)
theorem KW{r:Int}(h0:decide (r=0)=false)(h1:decide (r=1)=false)(h3:decide (r=3)=false)(h5:decide (r=5)=false)(h7:decide (r=7)=false):Cf (.held (.int r)) v:=⟨de h0,de h1,λe=>e.elim (de h3) (de h5),de h7⟩
theorem HY:∀x∈wL,∀tb v,qQ smallC x Cf tb v->Cf tb v:=by
 refine all_cons (λtb v l=>yh (KW rfl rfl rfl rfl rfl) l) (all_cons (λtb v l=>yh ⟨de rfl,de rfl,λz_=>rfl,de rfl⟩ l) (all_cons (λtb v l=>?_) (all_cons (λtb v l=>DR (s:=.int 2) (λt h=>(rF h).2.2.1 (.inl rfl)) l) (all_cons (λtb v l=>yh ⟨de rfl,de rfl,λe=>e.elim (de rfl) (de rfl),λz_=>rfl⟩ l) (all_cons (λtb v l=>DR (s:=.int 3) (λt h=>(rF h).2.2.2 rfl) l) all_nil)))));refine xa l λq h=>?_;subst q;have e:=(rF h).2.2.1 (.inr rfl);exact ⟨de rfl,de rfl,λz_=>e,de rfl⟩
theorem H8:∀x∈bL,∀tb v,qQ smallC x Cg tb v->Cg tb v :=
 all_cons (λtb v l=>qU (λz_=>J2 rfl rfl) l) (all_cons (λtb v l=>l9 (λt=>rG rfl) l) (all_cons (λtb v l=>qU (λz_=>J2 rfl rfl) l) (all_cons (λtb v l=>l.elim (l9 λt=>rG rfl) λq=>xa q λe z_=>by subst e;exact λh=>by cases h)
  (all_cons (λtb v l=>qU (λh=>by cases h) l) (all_cons (λtb v l=>qU (λz_=>J2 rfl rfl) l) (all_cons (λtb v w=>xa w λe z_=>by subst e;exact λh=>by cases h) (all_cons (λtb v l=>yD (λt=>rG rfl) l)
  (all_cons (λtb v l=>l.elim (qU λh=>by cases h) λl=>l.elim (λy=>xa y λe z_=>by subst e;exact λh=>by cases h) λl=>l.elim (yD λt=>Dj) (yD λt=>Dj)) all_nil))))))))
theorem og{cA:V->Nat}:cC (ey cA) smallC:=by
 refine hU ?_ ?_
 ·rw [zS];refine ⟨λtb v h=>?_,λtb v h=>?_⟩
  ·rcases h with ⟨rfl,rfl⟩ | ⟨rfl,rfl⟩
   ·exact ⟨λz_=>rfl,de rfl,λe=>e.elim (de rfl) (de rfl),de rfl⟩
   ·exact ⟨de rfl,λz_=>rfl,λe=>e.elim (de rfl) (de rfl),de rfl⟩
  ·refine Or.elim h (λw=>bO w λx hx h=>?_) (λy=>Or.elim y (λh=>?_) (λh=>?_))
   ·exact HY x hx tb v h
   ·exact v7 (o:=.int 0) (λt q=>(rF q).1 rfl) h
   ·exact v7 (o:=.int 1) (λt q=>(rF q).2.1 rfl) h
 ·rw [zT];refine ⟨λtb v h=>?_,λtb v h=>?_⟩
  ·rcases h with ⟨rfl,rfl⟩ | ⟨rfl,rfl⟩<;>exact λz_=>KJ
  ·refine Or.elim h (λz=>bO z λx hx h=>?_) (λu=>Or.elim u (λh=>?_) (λh=>?_))
   ·exact H8 x hx tb v h
   ·exact v8 (λt=>rG rfl) h
   ·exact v8 (λt=>rG rfl) h
end
section
variable{so:Nat}{X:Nat->Prop}
theorem Ei{cA:V->Nat}:(ey cA).Ok:=by
 have m:∀i:Nat,i<10->V.int (i:Int)∈regs:=λi h=>n7 h;have o:∀i:Nat,i<10->iq (oI i):=λi h=>pY h;have e:∀{a b:Int},decide (a=b)=false->V.int a≠.int b:=λh=>de h;have ki:∀(i:Int),(V.int i).key=true/\(V.int i).dep<=3:=λi=>⟨rfl,aC _⟩
 have dj:∀s∈[V.int 1,.int 2,.int 3],s∉[V.int 4,.int 5,.int 6,.int 7,.int 8]:=by
  have f:∀i:Int,(i<=3)->V.int i∉[V.int 4,.int 5,.int 6,.int 7,.int 8]:=λi hi h =>
   have k:∀v∈[V.int 4,.int 5,.int 6,.int 7,.int 8],4<=v.toInt:=dW (by decide:(4:Int)<=4) (dW (by decide:(4:Int)<=5) (qn (by decide:(4:Int)<=6) (by decide:(4:Int)<=7) (by decide:(4:Int)<=8)))
   absurd (k _ h) (Int.not_le.mpr (Int.lt_of_le_of_lt hi (by decide)))
  exact qn (f 1 (by decide)) (f 2 (by decide)) (f 3 (by decide))
 refine ⟨.refl _,hU ae ae,hU (qn (ki _) (ki _) (ki _)) (dW (ki _) (dW (ki _) (qn (ki _) (ki _) (ki _)))),hU ?_ ?_,λz_ z_=>o 0 (by decide),λz_ z_=>o 1 (by decide),hU (hU (λh=>absurd rfl h) λz_=>dj) (hU (λz_ s h1 h2=>dj s h2 h1) λh=>absurd rfl h)⟩
 ·exact all_cons (p:=λx=>x.ok [V.int 1,.int 2,.int 3]) ⟨m 2 (by decide),.head _⟩ (all_cons (p:=λx=>x.ok [V.int 1,.int 2,.int 3]) ⟨m 5 (by decide),.tail _ (.head _)⟩ (all_cons (p:=λx=>x.ok [V.int 1,.int 2,.int 3]) ⟨m 3 (by decide),o 5 (by decide)⟩ (all_cons (p:=λx=>x.ok [V.int 1,.int 2,.int 3]) ⟨o 3 (by decide),o 2 (by decide)⟩ (all_cons (p:=λx=>x.ok [V.int 1,.int 2,.int 3]) (.tail _ (.tail _ (.head _))) (all_cons (p:=λx=>x.ok [V.int 1,.int 2,.int 3]) ⟨o 2 (by decide),o 2 (by decide)⟩ all_nil)))))
 ·exact all_cons (p:=λx=>x.ok [V.int 4,.int 5,.int 6,.int 7,.int 8]) ⟨m 2 (by decide),.head _⟩ (all_cons (p:=λx=>x.ok [V.int 4,.int 5,.int 6,.int 7,.int 8]) (o 2 (by decide)) (all_cons (p:=λx=>x.ok [V.int 4,.int 5,.int 6,.int 7,.int 8]) ⟨m 3 (by decide),.tail _ (.head _)⟩ (all_cons (p:=λx=>x.ok [V.int 4,.int 5,.int 6,.int 7,.int 8]) (o 3 (by decide)) (all_cons (p:=λx=>x.ok [V.int 4,.int 5,.int 6,.int 7,.int 8]) ⟨m 5 (by decide),.tail _ (.tail _ (.head _))⟩
   (all_cons (p:=λx=>x.ok [V.int 4,.int 5,.int 6,.int 7,.int 8]) ⟨m 4 (by decide),.tail _ (.tail _ (.tail _ (.head _)))⟩ (all_cons (p:=λx=>x.ok [V.int 4,.int 5,.int 6,.int 7,.int 8]) ⟨m 8 (by decide),o 5 (by decide)⟩ (all_cons (p:=λx=>x.ok [V.int 4,.int 5,.int 6,.int 7,.int 8]) ⟨o 8 (by decide),o 4 (by decide)⟩ (all_cons (p:=λx=>x.ok [V.int 4,.int 5,.int 6,.int 7,.int 8]) ⟨m 6 (by decide),o 1 (by decide),o 5 (by decide),.tail _ (.tail _ (.tail _ (.tail _ (.head _))))⟩ all_nil))))))))
theorem kf:V.str "f"∈bP:=.head _
theorem kg:V.str "g"∈bP:=.tail _ (.head _)
theorem FR{cA:V->Nat}{F:V->Facts}(hl:∀C,cC (ey cA) C->∀k∈bP,∀tb v,F k tb v->C k tb v){s:V}:¬F (.str "f") .gone s:=λh=>by
 have:=hl _ og _ kf _ _ h;rw [zS] at this;exact this
theorem FT{cA:V->Nat}{F:V->Facts}(hl:∀C,cC (ey cA) C->∀k∈bP,∀tb v,F k tb v->C k tb v){s:V}(hs:s=.int 6\/s=.int 8):¬F (.str "g") .gone s:=λh=>by
 have:=hl _ og _ kg _ _ h;rw [zT] at this;exact hs.elim this.1 this.2
theorem Ia{cA:V->Nat}{F:V->Facts}(hc:cC (ey cA) F):F (.str "g") .gone (.int 4)/\F (.str "g") .gone (.int 5)/\F (.str "g") .gone (.int 7):=by
 have pg:∀{x:Ln} {tb v},x∈bL->qQ F x (F (.str "g")) tb v->F (.str "g") tb v:=λhx l=>(hc _ kg).2 _ _ (.inl ⟨_,hx,l⟩);have h2:F (.str "g") (.held (.int 2)) (tS (.int 4)):=pg (.head _) (.inr ⟨rfl,rfl⟩);have h3:F (.str "g") (.held (.int 3)) (tS (.int 5)):=pg (.tail _ (.tail _ (.head _))) (.inr ⟨rfl,rfl⟩);have h5:F (.str "g") (.held (.int 5)) (tS (.int 6)):=pg (.tail _ (.tail _ (.tail _ (.tail _ (.head _))))) (.inr ⟨rfl,rfl⟩);have h4:F (.str "g") (.held (.int 4)) (tS (.int 7)):=pg (.tail _ (.tail _ (.tail _ (.tail _ (.tail _ (.head _)))))) (.inr ⟨rfl,rfl⟩);have h8:F (.str "g") (.held (.int 8)) (tS (.int 6)):=pg (.tail _ (.tail _ (.tail _ (.tail _ (.tail _ (.tail _ (.head _))))))) ⟨rfl,.inl ⟨_,rfl,h5⟩⟩;have i6:F (.str "g") (.inside (.int 6)) (tS (.int 7)):=pg (.tail _ (.tail _ (.tail _ (.tail _ (.tail _ (.tail _ (.tail _ (.head _)))))))) ⟨tS (.int 6),.inl ⟨_,rfl,h8⟩,.inr (.inr ⟨_,rfl,.inl ⟨rfl,.inl ⟨_,rfl,h4⟩⟩⟩)⟩;have h1:F (.str "g") (.held (.int 1)) (tO (.int 1)):=(hc _ kg).1 _ _ (.inr ⟨rfl,rfl⟩);exact ⟨pg (.tail _ (.head _)) ⟨tS (.int 4),⟨tS (.int 4),.inl ⟨_,rfl,h2⟩,.refl⟩,.inl ⟨rfl,rfl⟩⟩,pg (.tail _ (.tail _ (.tail _ (.head _)))) (.inl ⟨tS (.int 5),⟨tS (.int 5),.inl ⟨_,rfl,h3⟩,.refl⟩,.inl ⟨rfl,rfl⟩⟩),pg (.tail _ (.tail _ (.tail _ (.tail _ (.tail _ (.tail _ (.tail _ (.tail _ (.head _))))))))) (.inr (.inr (.inl ⟨tO (.int 1),.inl (.inl ⟨_,rfl,h1⟩),.inr (.inl ⟨_,rfl,tS (.int 7),⟨tS (.int 7),⟨tS (.int 6),.inl ⟨_,rfl,h5⟩,.inl ⟨_,rfl,.inl i6⟩⟩,.refl⟩,.inl ⟨⟨_,rfl⟩,tS (.int 7),⟨_,rfl,.refl⟩,.inl ⟨rfl,rfl⟩⟩⟩)⟩)))⟩
noncomputable def lM:List (V×V):=[(.int 1,.str "frame"),(.int 2,.str "frame"),(.int 3,.str "frame"),(.int 4,.str "heap"),(.int 5,.str "heap"),(.int 6,.str "frame"),(.int 7,.str "heap"),(.int 8,.str "frame")]
theorem sS{l:List (V×V)}{r:List V}(h:l.map (·.1)=a::r):∃x t,l=(a,x)::t/\t.map (·.1)=r:=by
 cases l with
 | nil=>cases h
 | cons p t=>exact ⟨p.2,t,congrArg (·::t) (Prod.ext (List.cons.inj h).1 rfl),(List.cons.inj h).2⟩
theorem Jo:∀{ks:List V} {fl m:List (V×V)},fl.map (·.1)=ks->m.map (·.1)=ks->ks.Nodup->(∀k∈ks,getD fl k=getD m k)->fl=m:=by
 intro ks
 induction ks with
 | nil=>intro fl m h1 h2 _ _;rw [List.map_eq_nil_iff.mp h1,List.map_eq_nil_iff.mp h2]
 | cons k ks ih =>
  intro fl m h1 h2 nd h;refine dE (sS h1) λx t e1 e2=>?_;subst e1;refine dE (sS h2) λy u e3 e4=>?_;subst e3;have q:=h k ai;rw [dX,dX,if_pos rfl,if_pos rfl] at q;cases a9 q;have nn:=List.nodup_cons.mp nd;refine congrArg _ (ih e2 e4 nn.2 λk' hk=>?_);have q:=h k' (aj _ hk);rw [dX,dX] at q;have ne:¬k=k':=λe=>nn.1 (e▸hk)
  rwa [if_neg ne,if_neg ne] at q
theorem pP{l:List Int}(h:l.Nodup):(l.map V.int).Nodup:=List.Pairwise.map _ (λa b h e=>h (V.int.inj e)) h
theorem xJ{cA:V->Nat}:bZ [] ((ey cA).full (cT bP))=lM.map (·.1):=by
 have e:cT bP=[.str "f",.str "g"]:=zU;rw [e];have a1:bZ [] ((ey cA).news (.str "f"))=[V.int 1,.int 2,.int 3]:=iO (l:=[]) (ns:=[V.int 1,.int 2,.int 3]) (pP (l:=[1,2,3]) (by decide));have a2:bZ [] ((ey cA).news (.str "g"))=[V.int 4,.int 5,.int 6,.int 7,.int 8]:=iO (l:=[]) (ns:=[V.int 4,.int 5,.int 6,.int 7,.int 8]) (pP (l:=[4,5,6,7,8]) (by decide));show bZ [] (bZ [] ((ey cA).news (.str "f"))++(bZ [] ((ey cA).news (.str "g"))++[]))=_;rw [a1,a2];exact iO (l:=[]) (ns:=[V.int 1,.int 2,.int 3,.int 4,.int 5,.int 6,.int 7,.int 8]) (pP (l:=[1,2,3,4,5,6,7,8]) (by decide))
theorem BI{cA:V->Nat}{F:V->Facts}(hc:cC (ey cA) F)(hl:∀C,cC (ey cA) C->∀k∈bP,∀tb v,F k tb v->C k tb v)
  (hk:fl.map (·.1)=bZ [] ((ey cA).full (cT (ey cA).ks))) (hm:∀k∈bP,∀s∈(ey cA).news k,getD fl s=some (mark (F k) s)):fl=lM:=by
 refine Jo (ks:=lM.map Prod.fst) (hk.trans xJ) rfl (pP (l:=[1,2,3,4,5,6,7,8]) (by decide)) ?_;have f:∀s,s∈(ey cA).news (.str "f")->getD lM s=some (.str "frame")->getD fl s=getD lM s:=λs h e=>by rw [hm _ kf s h,ul (FR hl),e]
 have g:∀s,s∈(ey cA).news (.str "g")->s=.int 6\/s=.int 8->getD lM s=some (.str "frame")->getD fl s=getD lM s:=λs h h2 e=>by rw [hm _ kg s h,ul (FT hl h2),e]
 have t:∀s,s∈(ey cA).news (.str "g")->F (.str "g") .gone s->getD lM s=some (.str "heap")->getD fl s=getD lM s:=λs h h2 e=>by rw [hm _ kg s h,yf h2,e]
 have gg:=Ia hc;exact dW (f _ (.head _) rfl) (dW (f _ (.tail _ (.head _)) rfl) (dW (f _ (.tail _ (.tail _ (.head _))) rfl) (dW (t _ (.head _) gg.1 rfl) (dW (t _ (.tail _ (.head _)) gg.2.1 rfl) (qn (g _ (.tail _ (.tail _ (.head _))) (.inl rfl) rfl) (t _ (.tail _ (.tail _ (.tail _ (.head _)))) gg.2.2 rfl) (g _ (.tail _ (.tail _ (.tail _ (.tail _ (.head _))))) (.inr rfl) rfl))))))
theorem Eh{a b:Nat}{e e':Nat}(h1:J[a]?=some (.dict lM e))(h2:J[b]?=some (.dict lM e')):Jl J (.obj a) (.obj b)=some true:=by
 refine (fz h1).trans ((fz h2).trans ?_);have f:nA lM=true:=rfl;have s:tc lM lM=true:=rfl;rw [f,s];rfl
theorem np{x:String}{r:List Mine.S}{Q:KS}(he:∀{Q:K1},Q v σa->ev C e loc J Q)(q:ez C r (setL loc x v) σa Q):ez C (.assign (.name x) e::r) loc J Q:=by
 refine tJ (he ?_);exact q
theorem nk{x:String}{r:List Mine.S}{Q:KS}{a:Nat}{L:List V}(hx:loc x=some (.obj a))(h:J[a]?=some (.list l))(he:∀{Q:K1},Q (.obj J.length) (J++[.list L])->ev C e loc J Q)(hl:l.length+L.length<1000)
  (q:∀w τ,J <+:τ->τ[w]?=some (.list (l++L))->J.length<=w->ez C r (setL loc x (.obj w)) τ Q):ez C (.assign (.name x) (.bin .add (.var x) e)::r) loc J Q:=by
 exact tJ (aw hx (he (lT (aS h) aF (aQ hl (by decide)) (q _ _ (az.trans az) aF (bS az)))))
theorem xG{x:String}{r:List Mine.S}{Q:KS}{li:Nat}(hx:loc x=some (.obj li))(he:∀{Q:K1},Q v J->ev C e loc J Q)(h:J[li]?=some (.list l))(hl:l.length<1000)(q:ez C r loc (J.set li (.list (l++[v]))) Q):ez C (.expr (.bm .append (.var x) [e])::r) loc J Q:=by
 exact aw hx ⟨A7 h rfl,he (lU h (aQ hl (by decide)) q)⟩
end
section
variable{so:Nat}{X:Nat->Prop}
theorem yO{wa ba dd:Nat}{e:Nat}(hw:J[wa]?=some (.list (wL.map Ln.vl)))(hb:J[ba]?=some (.list (bL.map Ln.vl)))(hd:J[dd]?=some (.dict lM e))(l1:loc "within"=some (.obj wa))(l2:loc "beyond"=some (.obj ba))(l3:loc "told"=some (.tup [oI 0,oI 1]))(l4:loc "due"=some (.obj dd))
  (hQ:∀σ',Q (.bool true) σ'):ez (aZ a0 (n+10)) (fL.body.drop 10) loc J (uc Q):=by
 refine aw l1 (aw l3 (oK (n:=n+8) ?_));have p1:J <+:J++kT J (.str "f") wa (.tup [.str "return",.tup [oI 0,oI 1]]):=az;have c1:=lE (X:=λz_=>False) (key:=.str "f") (a:=oI 0) (b:=oI 1) hw (λh=>h) λz_ z_ h=>h;generalize J++kT J (.str "f") wa (.tup [.str "return",.tup [oI 0,oI 1]])=σ1 at p1 c1 ⊢;generalize J.length+4=a1 at c1 ⊢;refine aw l2 (aw l3 (oK (n:=n+8) ?_));have p2:σ1 <+:σ1++kT σ1 (.str "g") ba (.tup [.str "return",.tup [oI 0,oI 1]]):=az;have c2:=lE (X:=λz_=>False) (key:=.str "g") (a:=oI 0) (b:=oI 1) (bR p1 hb) (λh=>h) λz_ z_ h=>h;generalize σ1++kT σ1 (.str "g") ba (.tup [.str "return",.tup [oI 0,oI 1]])=σ2 at p2 c2 ⊢;generalize σ1.length+4=a2 at c2 ⊢;have ks:∀s:String,(V.str s).key=true/\(V.str s).dep<=6:=λi=>⟨rfl,aC _⟩
 refine ⟨qm (ks _) (ks _),ae,?_⟩;have p3:σ2 <+:σ2++[Ob.dict [(.str "f",.obj a1),(.str "g",.obj a2)] 2]:=az;have sm:∀{τ τ':Hp},τ <+:τ'->∀n,n<τ.length->¬False->τ'[n]?=τ[n]?:=λp n hn z_=>by obtain ⟨r,rfl⟩:=p;exact au hn
 have cs:gN (σ2++[Ob.dict [(.str "f",.obj a1),(.str "g",.obj a2)] 2]).length (σ2++[Ob.dict [(.str "f",.obj a1),(.str "g",.obj a2)] 2]) σ2.length (ey λk=>match k with | .str "f"=>a1 | _=>a2) :=
  ⟨a8 aF,⟨2,aF⟩,hU (c1.same (sm (p2.trans p3))).at (c2.same (sm p3)).at⟩
 have hd3:=bR (p1.trans (p2.trans p3)) hd;have hdl:=a8 hd3;refine ny (n:=n) Ei cs λfo σ7 fl fe F hz k1 hfo hfd hkeys hcl hlst hmk=>?_;have e:=BI hcl hlst hkeys hmk;subst e;exact aw l4 (aw (show jL .eq _ _ _=_ from Eh hfd ((k1 _ hdl).trans hd3)) (hQ _))
theorem yP(hQ:∀σ',Q (.bool true) σ'):aZ a0 (n+11) ("","_law_small_right") [] J Q:=by
 refine bq (d:=fL) rfl ae ae (np (v:=.obj J.length) (σa:=J++[Ob.list ((wL.take 2).map Ln.vl)]) (λq=>q) (nk (l:=(wL.take 2).map Ln.vl) (L:=((wL.drop 2).take 2).map Ln.vl) rfl aF (λq=>q) ae λw1 σ1 p1 h1 z_=>nk (l:=(wL.take 2).map Ln.vl++((wL.drop 2).take 2).map Ln.vl) (L:=(wL.drop 4).map Ln.vl) rfl h1 (λq=>q) ae λw2 σ2 p2 h2 z_=>np (v:=.obj σ2.length) (σa:=σ2++[Ob.list ((bL.take 2).map Ln.vl)]) (λq=>q) (nk (l:=(bL.take 2).map Ln.vl) (L:=((bL.drop 2).take 2).map Ln.vl) rfl aF (λq=>q) ae λw3 σ3 p3 h3 z_=>nk (l:=(bL.take 4).map Ln.vl) (L:=((bL.drop 4).take 2).map Ln.vl) rfl h3 (λq=>q) ae λw4 σ4 p4 h4 z_=>nk (l:=(bL.take 6).map Ln.vl) (L:=((bL.drop 6).take 2).map Ln.vl) rfl h4 (λq=>q) ae λw5 σ5 p5 h5 l5=>?_)));have hw5:σ5[w2]?=some (.list (wL.map Ln.vl)):=bR (az.trans (p3.trans (p4.trans p5))) h2;have ne:w5≠w2:=λe=>bh _ (ak (a8 (bR (az.trans (p3.trans p4)) h2)) (e▸l5));refine xG (v:=(Ln.append (.int 6) (oI 1) (oI 5) (.int 8)).vl) (l:=(bL.take 8).map Ln.vl) rfl (λq=>q) h5 ae ?_;have hw6:(σ5.set w5 (.list ((bL.take 8).map Ln.vl++[(Ln.append (.int 6) (oI 1) (oI 5) (.int 8)).vl])))[w2]?=some (.list (wL.map Ln.vl)):=(aR ne).trans hw5;have hb6:(σ5.set w5 (.list ((bL.take 8).map Ln.vl++[(Ln.append (.int 6) (oI 1) (oI 5) (.int 8)).vl])))[w5]?=some (.list (bL.map Ln.vl)):=bG h5;generalize σ5.set w5 (.list ((bL.take 8).map Ln.vl++[(Ln.append (.int 6) (oI 1) (oI 5) (.int 8)).vl]))=σ6 at hw6 hb6 ⊢;refine np (v:=.tup [oI 0,oI 1]) (σa:=σ6) (λq=>q) ?_;have ki:∀i:Int,(V.int i).key=true/\(V.int i).dep<=6:=λi=>⟨rfl,aC _⟩
 have kd:∀p∈lM,p.1.key=true/\p.1.dep<=6:=aP.mpr ⟨ki _,aP.mpr ⟨ki _,aP.mpr ⟨ki _,aP.mpr ⟨ki _,aP.mpr ⟨ki _,qn (ki _) (ki _) (ki _)⟩⟩⟩⟩⟩;exact np (v:=.obj σ6.length) (σa:=σ6++[Ob.dict lM 8]) (λq=>⟨kd,ae,q⟩) (yO (aS hw6) (aS hb6) aF rfl rfl rfl rfl hQ)
theorem Dh{l:List Int}(hl:l.length<=63):aZ a0 30 ("","law") [.ints l] J λv z_=>v=.bool true:=by
 refine bq (d:=GU) rfl ae ae (yP (n:=18) λσ1=>Bt (n:=28) hl λa b=>xB (n:=23) ⟨a,b,aF⟩ λfo σ3 P good cd src le sf=>nL (N:=15) good (cd σ3 ⟨ay _,λz_ z_ z_=>rfl,src⟩) kf λσ5 le5 fr5=>?_);have sfB:SF σ1.length σ3 σ5:=⟨le5,λn hn z_=>fr5 n hn,let ⟨a,b,h⟩:=src;⟨a,b,(fr5 _ (a8 h)).trans h⟩⟩
 exact nL (N:=15) good (cd σ5 sfB) kg λσ6 z_ z_=>rfl
end
end Mine
namespace Mine
theorem vO{d:Data}{fd:FuncData}(h:CU d=some fd):d=.func fd:=by
 rcases d with _ | _<;>first | exact cr h | exact congrArg Data.func (a9 h)
theorem vq{b:FuncBody}{l:List Stmt}(h:Cv b=some l):b=.stmts l:=by
 rcases b with _ | _<;>first | exact cr h | exact congrArg FuncBody.stmts (a9 h)
set_option tactic.hygienic true in
theorem Fr{W:Wd}{K:Frag}{P:ia}{a:Addr}{d:fK}{dv:List Value}(hK:W.K=K)(c:CR K P a d=true)(hdv:∀p:Addr->Prop,bo (W.at p) W.h₀ [] d.dflts dv)
  (hb:∀vals:List Value,vals.length<=d.params.length->d.params.length<=vals.length+dv.length->∀S,xo K S a vals=some (gO d.params (vals++dv.drop (vals.length+dv.length-d.params.length)))):HG W P a d:=by
 subst hK;refine bO ((Option.any_eq_true ..).1 c) λfd hf c=>bO ((Option.any_eq_true ..).1 c) λbody hbody c=>bO (Option.bind_eq_some_iff.1 hf) λo ho hfd=>?_;have c9:=aG c;have c8:=aG c9.1;have c7:=aG c8.1;have c6:=aG c7.1;have c5:=aG c6.1;have c4:=aG c5.1;have c3:=aG c4.1;have c2:=aG c3.1;have c1:=aG c2.1;refine ⟨o,fd,body,dv,ho,vO hfd,vq hbody,eq_of_beq c1.1,eq_of_beq c1.2,List.isEmpty_iff.1 c2.2,aB c3.2,mP c4.2,mP c5.2,c6.2,λvals h1 h2 S=>?_,hdv,cK.1 c7.2,aB c8.2,c9.2⟩;have:=hb vals h1 h2 S;unfold xo at this;rw [hf] at this;exact this
theorem Bk{M:Value->Prop}{x:Value}{g:Int->Bool}(h:Hj x g=true)(k:∀i t,g i=true->M (.int i t)):M x:=by rcases x with _ | _<;>first | exact k _ _ h | exact absurd h ft
theorem Bm{M:Value->Prop}{x:Value}{g:Str->Bool}(h:Hm x g=true)(k:∀i t,g i=true->M (.str i t)):M x:=by rcases x with _ | _<;>first | exact k _ _ h | exact absurd h ft
theorem Bl{M:Value->Prop}{x:Value}{g:Addr->Bool}(h:Hk x g=true)(k:∀i,g i=true->M (.ref i)):M x:=by rcases x with _ | _<;>first | exact k _ h | exact absurd h ft
theorem Bi{P:Prop}{x:Data}{g:Array Value->Bool}(h:Hi x g=true)(k:∀i t,x=.seq i t->g i=true->P):P:=by rcases x with _ | _<;>first | exact k _ _ rfl h | exact absurd h ft
section
variable{W:Wd}{K:Frag}(hK:K.In W.h₀)(hp:∀a,¬W.priv a)
include hK hp
set_option tactic.hygienic true in
mutual
theorem rz:∀{v:V} {x:Value},yG K v x=true->aK W W.h₀ [] v x
 | .int i,_,h=>Bk (M:=λx=>aK W W.h₀ [] (.int i) x) h λz_ z_ h=>eq_of_beq h▸.int _ _
 | .str s,_,h=>Bm (M:=λx=>aK W W.h₀ [] (.str s) x) h λz_ z_ h=>.str _ (eq_of_beq h)
 | .tup l,_,h=>Bl (M:=λx=>aK W W.h₀ [] (.tup l) x) h λa h=>by
  refine bO ((Option.any_eq_true ..).1 h) λo ho h=>Bi h λitems ep hd h=>?_;have h4:=aG h;have h3:=aG h4.1;have h2:=aG h3.1;exact .tup (hK _ _ ho) (aB h2.1) hd ⟨Option.isNone_iff_eq_none.1 h2.2,Array.isEmpty_iff.1 h3.2,hp a⟩ (pp h4.2)
 | .none,_,h | .bool _,_,h | .obj _,_,h | .ints _,_,h=>absurd h ft
theorem pp:∀{l:List V} {xs:List Value},uN K l xs=true->bo W W.h₀ [] l xs
 | [],_,h=>bK (M:=λx=>bo W W.h₀ [] [] x) h ft λz_=>.nil
 | v::l,_,h=>bH (M:=λx=>bo W W.h₀ [] (v::l) x) h ft λx xs h=>have h:=aG h;.cons (rz h.1) (pp h.2)
end
end
theorem ky{β:Type}{x:String}{v:β}:∀{l:List (String×β)},l.lookup x=some v->(x,v)∈l
 | (y,w)::r,h=>by
  rw [List.lookup_cons] at h;by_cases e:(x==y)=true
  ·rw [e] at h;cases h;rw [eq_of_beq e];exact ai
  ·rw [Bool.eq_false_iff.2 e] at h;exact aj _ (ky h)
theorem E8{x:String}{v:Value}(h:oH x=some v):x∈qq:=List.mem_map.2 ⟨_,ky h,rfl⟩
theorem qv{K:Frag}{C:Addr}{attrs:List String}(h:tN K C attrs=true):ve K C attrs:=by
 have h3:=aG h;have h2:=aG h3.1;have h1:=aG h2.1;exact ⟨λa ha=>have q:=aG (cK.1 h1.1 a ha);⟨q.1,aB q.2⟩,h1.2,aB h2.2,h3.2⟩
set_option tactic.hygienic true in
theorem DM{W:Wd}{K:Frag}{P:ia}{fa:String×String->Option Addr}{mg mb:Str->Option Value}(hK:W.K=K)(hp:∀a,¬W.priv a)(wok:HL W P.attrs)(g:W.h₀.Ns mainGlobals mg)(b:W.h₀.Ns builtinsNs mb)(hb:∀x:Str,x≠"__name__"->mb x=bootBuiltins x)
  (h1:DL K P fa W.cls=true) (h2:Cs=true):qc W P fa mg mb:=by
 subst hK;have KX:=wok.frag;have a5:=aG h1;have a4:=aG a5.1;have a3:=aG a4.1;have a1:=aG a3.1;refine ⟨wok,g,b,λx v hx=>?_,λx v hx=>?_,λf hf=>?_,λc m hm=>?_,λc hc=>?_⟩
 ·have hm:=E8 hx;have q:=aG (List.all_eq_true.mp h2 x hm);exact ⟨mg_none_of KX g (aB (cK.1 a5.2 x hm)),(hb _ (aB q.2)).trans ((aB q.1).trans hx)⟩
 ·have ⟨o,ho,q⟩:=(Option.any_eq_true ..).1 (cK.1 a1.1 _ (ky hx));exact bO ((Option.any_eq_true ..).1 q) λu hu q=>⟨u,mg_of KX g (ho.trans (congrArg some hu)),rz KX hp q⟩
 ·have ⟨a,ha,q⟩:=(Option.any_eq_true ..).1 (cK.1 a1.2 f hf);have q:=aG q;exact ⟨a,mg_of KX g (aB q.1),q.2,ha⟩
 ·have ⟨C,hC,q⟩:=(Option.any_eq_true ..).1 (cK.1 a3.2 _ hm);refine bO ((Option.any_eq_true ..).1 q) λa ha q=>?_;have q3:=aG q;have q2:=aG q3.1;have q1:=aG q2.1;exact ⟨C,a,hC,ha,aB q1.1,q1.2,q2.2,q3.2⟩
 ·have ⟨C,hC,q⟩:=(Option.any_eq_true ..).1 (cK.1 a4.2 c hc);refine bO ((Option.any_eq_true ..).1 q) λa ha q=>?_;have q4:=aG q;have q3:=aG q4.1;have q2:=aG q3.1;have q1:=aG q2.1;exact ⟨C,a,hC,mg_of KX g (aB q1.1),q1.2,q2.2,ha,aB q3.2,aB q4.2⟩
theorem I8:Cs=true:=by kernel_rfl
noncomputable def KN(d:fK):Bool:=(V.deqs d.dflts [] ||V.deqs d.dflts [.int 0,.int 0,.none])&&Nat.ble d.params.length 8
theorem HU{d:fK}(h:KN d=true):(Ao d).length=d.dflts.length/\∀{W:Wd} (p:Addr->Prop),bo (W.at p) W.h₀ [] d.dflts (Ao d):=by
 delta Ao;refine Or.elim (cz.1 (aG h).1) (λh=>?_) (λh=>?_)
 ·rw [V.deqs_eq _ _ h];exact ⟨rfl,λp=>.nil⟩
 ·rw [V.deqs_eq _ _ h];exact ⟨rfl,λp=>.cons (.int _ _) (.cons (.int _ _) (.cons .none .nil))⟩
theorem Fd{xs:List Value}{l:List ((String×String)×Nat×fK)}:Kd xs l=l.map λr=>Fc xs r.2.2:=by
 induction l with
 | nil=>rfl
 | cons r t ih=>exact congrArg (Fc xs r.2.2::·) ih
theorem CA{d:fK}{j:Nat}(h1:j<=d.params.length)(h2:d.params.length<=j+d.dflts.length):j∈HT d :=
 aX.mpr ⟨j-(d.params.length-d.dflts.length),List.mem_range.mpr (Nat.lt_succ_of_le (Nat.sub_le_iff_le_add'.mpr (am h1 (Nat.sub_le_iff_le_add.mp (ay _))))),Nat.add_sub_cancel' (Nat.sub_le_of_le_add h2)⟩
theorem Gi:(kh.all λr=>KN r.2.2)=true:=by kernel_rfl
noncomputable def Ho:Nat->List Value->List Value
 | 0,_=>[]
 | n+1,l=>l.headD .none::Ho n l.tail
theorem w6:∀(n:Nat) (l:List Value),l.length<=n->(Ho n l).take l.length=l
 | 0,[],_=>rfl
 | n+1,[],_=>rfl
 | n+1,x::l,h=>congrArg (x::·) (w6 n l (Nat.le_of_succ_le_succ h))
 | 0,_::_,h=>nomatch h
theorem JP{l:List Value}(h:l.length<=8):∃x0 x1 x2 x3 x4 x5 x6 x7,[x0,x1,x2,x3,x4,x5,x6,x7].take l.length=l:=⟨_,_,_,_,_,_,_,_,w6 8 l h⟩
theorem I9{W:Wd}(hC:(kh.all λr=>CR W.K kQ r.2.1 r.2.2)=true)(hB:EZ W.K=HM):∀key d,a0 key=some d->∃a,Cd key=some a/\HG W kQ a d:=λkey d h=>by
 refine bO (Av h) λa ha hr=>⟨a,ha,?_⟩
 have ok:=List.all_eq_true.mp Gi _ hr;have p8:d.params.length<=8:=Nat.le_of_ble_eq_true (Bool.and_eq_true_iff.mp ok).2;have dv:=HU ok;refine Fr (dv:=Ao d) rfl (List.all_eq_true.mp hC _ hr) dv.2 λvals h1 h2 S=>B4 (JP (am h1 p8)) λx0 x1 x2 x3 x4 x5 x6 x7 e=>?_;have q:EZ W.K S x0 x1 x2 x3 x4 x5 x6 x7=kh.map λr=>Fc [x0,x1,x2,x3,x4,x5,x6,x7] r.2.2:=hB▸Fd;have q:=List.map_inj_left.mp (List.map_inj_left.mp q _ hr) vals.length (CA h1 (dv.1▸h2));rw [e] at q;exact q
theorem E0{p:Program}{w:World}{K:Frag}{s₁:Shared}{mg mb:Str->Option Value}{q:Program}{loose:List Str}{mean:ExcName->Option Value}(hC:Cb K=true)(KX:K.In s₁.heap)(T:Top q loose mean mg mb s₁.heap) :
  qc ⟨p,w,K,s₁.heap,Cc,λz_=>False⟩ kQ Cd mg mb:=by
 have c5:=aG hC;have c4:=aG c5.1;have c3:=aG c4.1;have c2:=aG c3.1;have c1:=aG c2.1;refine DM rfl (λa h=>h) ⟨?_,KX,T.nolimit,λc C h=>?_⟩ T.g T.b T.builtins c1.2 I8
 ·have ⟨o,ho⟩:=Option.isSome_iff_exists.mp c5.2;exact aQ (by decide) (bW (KX _ _ ho))
 ·have step:∀{c:String} {C:Addr} {l:List (String×Addr)},ve K C kQ.attrs->(∀p∈l,ve K p.2 kQ.attrs)->∀p∈(c,C)::l,ve K p.2 kQ.attrs:=λh1 h2 p hp=>(List.mem_cons.1 hp).elim (λe=>e▸h1) (h2 p);exact step (qv c2.2) (step (qv c3.2) (step (qv c4.2) λz_ h=>(aq h).elim)) _ (ky h)
theorem KK{p:Program}{w:World}{s₁:Shared}{K:Frag}{mg mb:Str->Option Value}{q:Program}{loose:List Str}{mean:ExcName->Option Value}{fa L:Addr}{vs:List Value}{l:List Int}(KX:K.In s₁.heap)(hC:Cb K=true)(hB:EZ K=HM)(T:Top q loose mean mg mb s₁.heap)
  (hmg:mg (Str.ofString "law")=some (.ref fa)) (hL:s₁.heap.IsList L vs.toArray) (hI:IntsAre vs l) (hl:l.length<=63) :
  codeAny (model p w) callerA (.call (.ref fa) ⟨[.ref L],[]⟩) (λr s'=>r=.ok (.ret (.bool true))/\(∀b o,s₁.heap.get? b=some o->s'.heap.get? b=some o)/\s'.os=s₁.os/\s'.gens=s₁.gens) s₁:=by
 have hp:=E0 (p:=p) (w:=w) hC KX T;refine cG (hp.fn "law" (by decide)) λa h1 h2 h3=>?_;rw [hmg] at h1;cases h1;have hC':=(aG (aG (aG (aG (aG hC).1).1).1).1).1;refine bO (Ff (W:=⟨p,w,K,s₁.heap,Cc,λz_=>False⟩) (P:=kQ) (fa:=Cd) (mg:=mg) (mb:=mb) (F:=a0) (I9 hC' hB) T.nolimit 30 (λz_=>False) hp ("","law") [.ints l] [] (λv z_=>v=.bool true) (Dh hl)) λa' ha f=>?_;rw [h3] at ha;cases ha;refine z4 hL λo g1 g2 ep g3=>codeAny_mono (f callerA s₁ [] [.ref L] rfl (by decide) (by decide) ?_ (.cons (.ints g1 g2 g3 (by simpa using hI)) .nil)) λr s' x=>bO x λv e y=>cR y λρ' σ' b st rp rv hb=>?_
 ·exact ⟨rfl,λn o p h=>by simp at h,λm n p q z_ h=>by simp at h,λn p h=>by simp at h,ay _,λa o h=>h,λa h=>h.elim⟩
 ·subst e hb;cases rv;exact ER st.same λh' t' e'=>⟨rfl,λb o q=>st.keep b o q (λh=>h) (λn p h=>by simp at h),by rw [e'],by rw [e']⟩
end Mine
set_option tactic.hygienic true
theorem PySem.Challenge.cw_on0033_02_holds : PySem.Challenge.rw_on0033_02.Holds := by
  refine holds_law Mine.J6 fun said => ?_
  refine holds_open (q := Mine.Ch) (loose := []) (Xt := fun s => xlAt Mine.Ch [] s && recOk (RowW.records Mine.a_row.toRowW) s) (XP := XL Mine.Ch []) (Yf := Hook.obs Mine.Ce) (Ya := Hook.val Mine.Ce) (YP := Hook.says Mine.Ce) (N := 4676) Mine.J5 (Hook.of Mine.Ce) (Hook.keeps Mine.Ce) (fun s e => xl_of s (Bool.and_eq_true_iff.mp e).1) XL.keeps (by rfl) (by rfl) (by rfl) (fun s e => recFacts_of (Bool.and_eq_true_iff.mp e).2) (by rfl) (by assumption) (by decide +kernel) ⟨rfl, rfl, rfl, rfl, rfl, by decide +kernel⟩ ?hw ?hc
  case hw => w_witness2
  case hc =>
    intro w s₀ s₁ mg mb G Y fa o pm cd doc dV kV ho hd hcd hD hmg hg args vals as hpre hlay hrd hwl hlo
    obtain ⟨K, KX, hC, hB⟩ := Y
    refine Ground.open G ?_
    intro T B D TE TW
    wrow_args hpre hlay hrd hwl hlo
    all_goals (
      first | refine callC_kw (enter_call ?_) | refine enter_call ?_ | refine callC_kw (enter_callW ?_) | refine enter_callW ?_ | w_how
      w_top on
      try refine codeAny_mono ?_ (fun _ _ g => GoodW.toG g)
      clear hcd hD
      rename_i l _ _ _ _ _ _ _ L vs _ hL _ _ _ hI _ hc _
      refine codeAny_mono (Mine.KK KX hC hB T hmg hL hI (by omega)) fun r s' ⟨h1, h2, h3, h4⟩ => ?_
      subst h1
      refine ⟨.inl ⟨.bool true, .bool true, [], rfl, fun _ => rfl, .bool _, ?_, fun _ => ⟨List.nodup_nil, fun _ h => nomatch h⟩⟩, h2, h3, by rw [h4, hg]⟩
      first | kernel_rfl | with_unfolding_all rfl)

