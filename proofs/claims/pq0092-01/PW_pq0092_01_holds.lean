import PyProof.Rows.All
import Wide.All
import OpenK.AllK
import Wide.FinOn
import PySem.Challenge.RW_pq0092_01
set_option Elab.async false
set_option linter.unusedVariables false
set_option maxRecDepth 100000
set_option maxHeartbeats 8000000
open PySem PySem.W PyProof.Rows
namespace Mine
def ah:=@Nat.le_trans
def ae:=@PySem.wpAny_bind
def aq:=@PySem.wpAny_pure
def ar:=@congrArg
def a0:=@List.length_append
def a3:=@List.mem_singleton
def aT:=@Option.some.inj
def aV:=@List.length_map
def bz:=@Nat.add_le_add_left
def bt:=@Nat.lt_of_lt_of_le
def bI:=@List.mem_of_getElem?
def aM:=@Nat.le_refl
def bZ:=@PySem.Heap.get?_push_of_some
def cc:=@List.getElem?_eq_getElem
def ba:=@List.mem_cons
def cN:=@List.getElem?_eq_some_iff
def b0:=@Nat.lt_of_le_of_lt
def a6:=@Nat.zero_le
def bk:=@Nat.ne_of_lt
def cE:=@Array.getElem?_toList
def bJ:=@decide_eq_true
def b9:=@List.getElem?_map
def cy:=@PySem.Heap.get?_push_size
def cf:=@of_decide_eq_true
def ay:=@if_neg
def az:=@if_pos
def bA:=@PySem.Heap.lt_size
def bF:=@Nat.le_of_eq
def cp:=@Nat.le_add_right
def cF:=@List.length_range
def cZ:=@Array.length_toList
def dI:=@Array.getElem?_eq_getElem
def bS:=@List.mem_map
def b5:=@List.cons.inj
def cD:=@List.mem_append
def cR:=@Nat.succ_le_succ
def cz:=@List.mem_range
def c6:=@Nat.le_of_lt_succ
def eQ:=@List.getD_eq_getElem?_getD
def dY:=@Option.map_eq_some_iff
def dS:=@List.mem_append_right
def dJ:=@List.mem_append_left
def bU:=@PySem.wpAny_mono
def da:=@PySem.wpAny_call_entry
def dd:=@decide_eq_false
def ef:=@Nat.add_le_add_right
def ez:=@List.getElem?_eq_none
def dZ:=@List.map_congr_left
def c7:=@Nat.add_le_add
def d0:=@Nat.add_right_comm
def eA:=@Nat.mul_le_mul_left
def fP:=@List.getElem?_append_left
def c2:=@Nat.le_of_lt
def c3:=@List.map_map
def eB:=@Bool.false_ne_true
def d1:=@beq_self_eq_true
def h4:=@Option.eq_none_iff_forall_ne_some
def dT:=@List.map_append
def cJ:=@Nat.not_lt
def eR:=@Int.natCast_nonneg
def fc:=@List.mem_cons_of_mem
def fe:=@Bool.and_eq_true_iff
def eg:=@Nat.lt_succ_self
def fy:=@List.mem_iff_getElem?
def gT:=@Array.getElem?_eq_some_iff
def d2:=@List.append_nil
def dD:=@Nat.add_assoc
def gk:=@PySem.wpAny_callSpecial?_slot
def du:=@Nat.ne_of_gt
def fg:=@Nat.lt_or_eq_of_le
def eS:=@Nat.le_of_not_lt
def eC:=@PySem.wpAny_ite_split
def fh:=@List.flatMap_cons
def fz:=@PySem.wpAny_setField_rec
def fB:=@of_decide_eq_false
def fC:=@List.mem_cons_self
def e3:=@List.all_eq_true
def gU:=@List.getElem?_set_self
def h5:=@List.getElem?_append_right
def eh:=@Nat.lt_irrefl
def gm:=@List.mem_map_of_mem
def eT:=@PySem.Heap.size_push
def d3:=@Nat.add_comm
def eD:=@PySem.wpAny_holding
def fD:=@List.mem_flatMap
def fQ:=@PySem.wpAny_dictEntries
def fi:=@Nat.le_antisymm
def fR:=@Int.toNat_natCast
def ei:=@Nat.lt_trans
def fS:=@List.length_cons
def eE:=@Nat.zero_add
def gn:=@Nat.lt_succ_of_lt
def gp:=@Nat.le_succ_of_le
def hB:=@List.getElem?_set_ne
def eF:=@Int.le_trans
def h6:=@PySem.Heap.get?_update_self
def hC:=@Nat.add_sub_cancel'
def gq:=@decide_eq_decide
def cO:=@Ne.symm
def gV:=@List.append_assoc
def gu:=@List.length_set
def gW:=@List.getElem_mem
def eU:=@PySem.wpAny_field
def h7:=@List.getElem?_range
def fj:=@Nat.succ_pos
def hD:=@Nat.lt_succ_of_le
def hE:=@Bool.not_eq_true'
def gv:=@PySem.wpAny_seqItems
def h8:=@decide_eq_true_iff
def iJ:=@PySem.Around.under_plainId
def gX:=@List.nodup_cons
def h9:=@PySem.wpAny_truthy_bool
def ia:=@PySem.wpAny_setState_of
def ib:=@PySem.wpAny_newObj_type
def fk:=@Nat.le_succ
def ic:=@List.ext_getElem?
def jq:=@PySem.wpAny_notOrdered_dict
def mF:=@PySem.F.slot_dict_itemiterator_next
def hF:=@PySem.codeAny_builtin
def fT:=@Int.ofNat_le
def mG:=@PySem.F.slot_dict_keyiterator_next
def kx:=@Nat.lt_add_of_pos_right
def gw:=@Nat.lt_or_ge
def ky:=@PySem.Heap.get?_update_other
def kz:=@Array.getElem?_eq_none
def ig:=@List.mem_filter
def lC:=@Classical.byContradiction
def kA:=@Nat.le_of_ble_eq_true
def iK:=@List.lookup_cons
def jr:=@Nat.le_of_succ_le
def jt:=@Array.toList_push
def iL:=@PySem.wpAny_specialOf
def iM:=@Bool.eq_iff_iff
def kB:=@PySem.Heap.SameBut.update
def ih:=@Int.ofNat.inj
def ju:=@PySem.wpAny_Call_NameR
def jv:=@Nat.zero_lt_succ
def kC:=@Nat.lt_of_le_of_ne
def kD:=@PySem.Calls.spliced_cons
def lD:=@List.length_filter_le
def mH:=@PySem.F.plain_extend_loop
def jw:=@PySem.wpAny_dictEpoch
def jx:=@Nat.not_lt_zero
def jy:=@List.forIn_cons
def nU:=@PySem.F.slot_tuple_iterator_next
def ij:=@Int.ofNat_lt
def kE:=@Bool.eq_false_iff
def iN:=@PySem.plainId_quiet
def gY:=@beq_iff_eq
def lE:=@beq_eq_false_iff_ne
def lF:=@List.filterMap_cons
def nV:=@PySem.wpAny_typeNameOfWhole_itemiter
def kF:=@PySem.wpAny_isInstance
def jz:=@List.forIn_nil
def kG:=@Bool.and_eq_true
def nW:=@PySem.wpAny_typeNameOfWhole_keyiter
def lG:=@PySem.wpAny_pyIter_tuple
def hG:=@bne_iff_ne
def iO:=@Nat.sub_self
def hH:=@Nat.not_le
def jB:=@PySem.wpAny_attempt
def jC:=@List.map_cons
def lH:=@PySem.Calls.spliced_nil
universe u v w
theorem af{p:Prop}[Decidable p](h:decide p=true:=by rfl):p:=cf h
section
variable{c:Sort u}{d:Sort v}{e:Sort w}{G:Prop}
theorem jE{p:c->Prop}(h:∃x,p x)(f:∀x,p x->G):G:=h.elim f
@[elab_as_elim] theorem Y{c:Sort u}{b:c}{p:c->Prop}{a:c}(h:a=b)(x:p b):p a:=h▸x
theorem jA{p q:Prop}(h:p/\q)(f:p->q->G):G:=f h.1 h.2
theorem cj{p:c->d->Prop}(h:∃x y,p x y)(f:∀x y,p x y->G):G:=h.elim λx h=>h.elim<|f x
theorem ak{p q:c->Prop}(h:∃x,p x/\q x)(f:∀x,p x->q x->G):G:=h.elim λx h=>f x h.1 h.2
theorem b1{p q r:Prop}(h:p/\q/\r)(f:p->q->r->G):G:=f h.1 h.2.1 h.2.2
theorem bE{p q r:c->Prop}(h:∃x,p x/\q x/\r x)(f:∀x,p x->q x->r x->G):G:=h.elim λx h=>f x h.1 h.2.1 h.2.2
theorem cq{p q:c->d->Prop}(h:∃x y,p x y/\q x y)(f:∀x y,p x y->q x y->G):G:=h.elim λx h=>ak h<|f x
theorem dK{p q r t:Prop}(h:p/\q/\r/\t)(f:p->q->r->t->G):G:=f h.1 h.2.1 h.2.2.1 h.2.2.2
theorem b6{p q r:c->d->Prop}(h:∃x y,p x y/\q x y/\r x y)(f:∀x y,p x y->q x y->r x y->G):G:=h.elim λx h=>bE h<|f x
theorem gx{p q r t:c->Prop}(h:∃x,p x/\q x/\r x/\t x)(f:∀x,p x->q x->r x->t x->G):G:=h.elim λx h=>dK h<|f x
theorem dE{p q r t:c->d->Prop}(h:∃x y,p x y/\q x y/\r x y/\t x y)(f:∀x y,p x y->q x y->r x y->t x y->G):G:=h.elim λx h=>gx h<|f x
theorem hI{p q r t:c->d->e->Prop}(h:∃x y z,p x y z/\q x y z/\r x y z/\t x y z)(f:∀x y z,p x y z->q x y z->r x y z->t x y z->G):G:=h.elim λx h=>dE h<|f x
end
section
variable{b:Type u}{a:b}{l:List b}{G:Prop}
theorem a4(h:none=some a):G:=nomatch h
theorem iP(h:some a=none):G:=nomatch h
theorem b3(h:false=true):G:=nomatch h
theorem e4(h:true=false):G:=nomatch h
theorem bw(h:a∈([]:List b)):G:=nomatch h
theorem ik(h:[]=a::l):G:=nomatch h
theorem eG(h:a::l=[]):G:=nomatch h
end
section
variable{b:Type}{M:Model}{A:Around}{Q:b->Shared->Prop}{E:Value->Shared->Prop}{s:Shared}{c:Prop}{t e:Sem b}
theorem ck[Decidable c](a:¬c)(h:wpAny M A e Q E s):wpAny M A (if c then t else e) Q E s:=ay (t:=t) a▸h
theorem gZ[Decidable c](a:c)(h:wpAny M A t Q E s):wpAny M A (if c then t else e) Q E s:=az (e:=e) a▸h
theorem bO{c:Type}{a:c}{f:c->Sem b}(h:wpAny M A (f a) Q E s):wpAny M A (pure a>>=f) Q E s:=ae<|aq h
theorem c0{c:Type}{vs:List Value}{m:Sem c}{f:c->Sem b}(h:wpAny M A m (λa d=>wpAny M A (f a) Q E d) E s):wpAny M A (holding vs m>>=f) Q E s:=ae<|eD h
theorem d4{p:Pos}{f:Unit->Sem b}(h:wpAny M A (f ()) Q E s):wpAny M A (standAt p>>=f) Q E s:=ae<|wpAny_standAt h
theorem e5{x:String}{f:Unit->Sem b}(h:wpAny M A (f ()) Q E s):wpAny M A (rule x>>=f) Q E s:=ae<|wpAny_rule h
theorem zc[Decidable c](h:wpAny M A e Q E s)(f:wpAny M A e Q E s->wpAny M A t Q E s):wpAny M A (if c then t else e) Q E s:=eC (λZ=>f h) λZ=>h
theorem zd(q:t=e)(h:wpAny M A e Q E s):wpAny M A t Q E s:=q▸h
end
inductive V where
 |none
 |bool (b:Bool)
 |int (i:Int)
 |str (s:Str)
 |tup (l:List V)
 |ref (i:Nat)
 |cP (lo hi st:Int)
inductive KK where
 |s
 |i
 |t
inductive aQ where
 |list (l:List V)
 |dict (k:KK) (es:List (V×V))
 |inst (c:Addr) (fs:List (Str×V))
 |pair
 |const (vs:Array Value) (n:Nat)
noncomputable abbrev ai:=List aQ
noncomputable abbrev Lay:=List<|Addr×Addr
inductive foot(μ:Lay)(a:Addr):Prop
 |l (p:Addr×Addr):p∈μ->a=p.1->foot μ a
 |r (p:Addr×Addr):p∈μ->a=p.2->foot μ a
noncomputable abbrev fE(vs:Array Value)(n:Nat):Obj:={cls:= .type "tuple",data:= .seq vs n}
noncomputable abbrev nX(vs:Array Value):Obj:={cls:= .type "range",data:= .fields vs}
noncomputable abbrev dM(vs:Array Value)(n:Nat):Obj:={cls:= .type "list",data:= .seq vs n}
noncomputable def cW(ents:Array DictEntry)(ep:Nat):Obj:={cls:= .type "dict",data:= .dict ents ep}
mutual
inductive VR(μ:Lay)(h:Heap):V->Value->Prop
 |none:VR μ h .none .none
 |bool (b:Bool):VR μ h (.bool b) (.bool b)
 |int (i:Int) (t:Tok):VR μ h (.int i) (.int i t)
 |str (s:Str) (t:Tok):PyData.strOk s=true->VR μ h (.str s) (.str s t)
 |ref (i:Nat) (a b:Addr):μ[i]? =some (a,b)->VR μ h (.ref i) (.ref a)
 |tup (l:List V) (a:Addr) (vs:Array Value) (n:Nat):¬foot μ a->h.get? a=some (fE vs n)->aA μ h l vs.toList->VR μ h (.tup l) (.ref a)
 |cP (lo hi st:Int) (a:Addr) (x y z:Tok):¬foot μ a->h.get? a=some (nX #[.int lo x,.int hi y,.int st z])->VR μ h (.cP lo hi st) (.ref a)
inductive aA(μ:Lay)(h:Heap):List V->List Value->Prop
 |nil:aA μ h [] []
 |cons (v:V) (x:Value) (l:List V) (xs:List Value):VR μ h v x->aA μ h l xs->aA μ h (v::l) (x::xs)
end
section
variable{μ:Lay}{h:Heap}{v:V}{x:Value}{l:List V}{xs:List Value}{G:Value->Prop}{c:List Value->Prop}{K:List V->Prop}
@[elab_as_elim] theorem VR.fF(r:VR μ h (.tup l) x)(f:∀a vs n,¬foot μ a->h.get? a=some (fE vs n)->aA μ h l vs.toList->G (.ref a)):G x:=by cases r with|tup Z a vs n p q w=>exact f a vs n p q w
@[elab_as_elim] theorem VR.d5{s:Str}(r:VR μ h (.str s) x)(f:∀t,PyData.strOk s=true->G (.str s t)):G x:=by cases r with|str Z t p=>exact f t p
@[elab_as_elim] theorem VR.fm{i:Int}(r:VR μ h (.int i) x)(f:∀t,G (.int i t)):G x:=by cases r with|int Z t=>exact f t
theorem VR.nY{i:Nat}{a:Addr}(r:VR μ h (.ref i) (.ref a)):∃b,μ[i]? =some (a,b):=by cases r with|ref Z Z b e=>exact⟨b,e⟩
@[elab_as_elim] theorem VR.tv(r:VR μ h .none x)(f:G .none):G x:=by cases r;exact f
@[elab_as_elim] theorem aA.jD(r:aA μ h (v::l) xs)(f:∀x xs,VR μ h v x->aA μ h l xs->c (x::xs)):c xs:=by cases r with|cons Z x Z xs a b=>exact f x xs a b
@[elab_as_elim] theorem aA.tw(r:aA μ h l (x::xs))(f:∀v l,VR μ h v x->aA μ h l xs->K (v::l)):K l:=by cases r with|cons v Z l Z a b=>exact f v l a b
end
inductive cS:Obj->Prop
 |tup (vs:Array Value) (n:Nat):cS (fE vs n)
 |cP (vs:Array Value):cS (nX vs)
structure Move(μ:Lay)(h:Heap)(a:Lay)(c:Heap):Prop where
 lay:∀(i:Nat) p,μ[i]? =some p->a[i]? =some p
 keep:∀b o,h.get? b=some o->¬foot μ b->cS o->c.get? b=some o
 foot:∀b o,h.get? b=some o->¬foot μ b->cS o->¬foot a b
section
variable{μ c:Lay}{h d:Heap}
theorem VR.moves(m:Move μ h c d):(∀v x,VR μ h v x->VR c d v x)/\∀v x,aA μ h v x->aA c d v x:=by have k:=λp q=> @VR.rec μ h (λv x Z=>VR c d v x) (λv x Z=>aA c d v x) .none .bool .int .str (λi a b e=> .ref i a b<|m.lay _ _ e) p q .nil λv x l xs Z Z a b=> .cons v x l xs a b;have j:=λp q=> @aA.rec μ h (λv x Z=>VR c d v x) (λv x Z=>aA c d v x) .none .bool .int .str (λi a b e=> .ref i a b<|m.lay _ _ e) p q .nil λv x l xs Z Z a b=> .cons v x l xs a b;have a:=λl a vs n f(g:h.get? a=some (fE vs n))(Z:aA μ h l vs.toList) q=>VR.tup l a vs n (m.foot _ _ g f<|.tup _ _) (m.keep _ _ g f<|.tup _ _) q;have b:=λlo hi st a x y z f g=>VR.cP lo hi st a x y z (m.foot _ _ g f<|.cP _)<|m.keep _ _ g f<|.cP _;exact⟨λZ Z r=>k a b r,λZ Z r=>j a b r⟩
theorem VR.move(m:Move μ h c d){v:V}{x:Value}(r:VR μ h v x):VR c d v x:=(VR.moves m).1 _ _ r
theorem aA.move(m:Move μ h c d){v:List V}{x:List Value}(r:aA μ h v x):aA c d v x:=(VR.moves m).2 _ _ r
end
structure tx(K:Frag)(attrs:List Str)(c:Addr):Prop where
 ga:findIn K (.ref c) "__getattribute__"=some (some<|.builtin "object.__getattribute__")
 lI:findIn K (.ref c) "__getattr__"=some none
 sa:findIn K (.ref c) "__setattr__"=some (some<|.builtin "object.__setattr__")
 makes:makesIn K c=true
 po:plainOver K c=true
 hd:(clsIn K c).any (·.hasDict)=true
 no:∀n∈attrs,findIn K (.ref c) n=some none
structure aN where
 prog:Program
 w:World
 K:Frag
 B:Heap
 p:Program
 loose:List Str
 mg:Str->Option Value
 mb:Str->Option Value
 X:K.In B
 T:TopRead p loose mg mb B
 gy:sysModules<B.objs.size
 attrs:List Str
 aL:attrs.length<=1000
 cls:Addr->Bool
 mI:∀c,cls c=true->tx K attrs c
noncomputable def iQ(w:World)(v:V):Int×Nat:=V.rec (motive_1:=λZ=>Int×Nat) (motive_2:=λZ=>List Int×Nat) (0,0) (λZ=>(0,0)) (λi=>(hashInt i,1)) (λs=>(hashStr w s,1))
 (λZ q=>(reduceHash<|Builtin.Tuple.tupleHashOf q.1,q.2+1)) (λZ=>(0,0)) (λZ Z Z=>(0,0)) ([],0) (λZ Z a q=>(a.1::q.1,a.2+q.2)) v
noncomputable def g0(w:World)(l:List V):List Int×Nat:=V.rec_1 (motive_1:=λZ=>Int×Nat) (motive_2:=λZ=>List Int×Nat) (0,0) (λZ=>(0,0)) (λi=>(hashInt i,1)) (λs=>(hashStr w s,1))
 (λZ q=>(reduceHash<|Builtin.Tuple.tupleHashOf q.1,q.2+1)) (λZ=>(0,0)) (λZ Z Z=>(0,0)) ([],0) (λZ Z a q=>(a.1::q.1,a.2+q.2)) l
noncomputable def b7(w:World)(v:V):Int:=(iQ w v).1
inductive a8:Nat->V->Prop
 |int (n:Nat) (i:Int):a8 n (.int i)
 |str (n:Nat) (s:Str):a8 n (.str s)
 |tup (n:Nat) (l:List V):(∀v∈l,a8 n v)->a8 (n+1) (.tup l)
inductive bK:KK->V->Prop
 |i (n:Int):bK .i (.int n)
 |s (n:Str):bK .s (.str n)
 |t (l:List V):a8 7 (.tup l)->bK .t (.tup l)
inductive cb(w:World)(k:KK)(μ:Lay)(h:Heap):List (V×V)->List DictEntry->Prop
 |nil:cb w k μ h [] []
 |cons (a v:V) (x y:Value) (es:List (V×V)) (l:List DictEntry):VR μ h a x->VR μ h v y->bK k a->cb w k μ h es l->cb w k μ h ((a,v)::es) (⟨b7 w a,x,y⟩::l)
inductive iR(μ:Lay)(h:Heap):Option V->Option Value->Prop
 |none:iR μ h none none
 |some (v:V) (x:Value):VR μ h v x->iR μ h (some v) (some x)
noncomputable def tA(attrs:List Str)(μ:Lay)(h:Heap)(fs:List (Str×V))(m:Str->Option Value):Prop:=∀n,iR μ h (fs.lookup n) (m n)/\(n∉attrs->m n=none)
section
variable{w:World}{k:KK}{μ d:Lay}{h e:Heap}
theorem cb.move(f:Move μ h d e){es:List (V×V)}{l:List DictEntry}(r:cb w k μ h es l):cb w k d e es l:=cb.rec (motive:=λes l Z=>cb w k d e es l) .nil (λk v x y es l a b c Z q=> .cons k v x y es l (a.move f) (b.move f) c q) r
theorem iR.move(a:Move μ h d e){v:Option V}{x:Option Value}(r:iR μ h v x):iR d e v x:=iR.rec (motive:=λv x Z=>iR d e v x) .none (λv x q=> .some v x<|q.move a) r
end
section
variable(S:aN)
inductive d6(μ:Lay)(h:Heap)(a b:Addr):aQ->Prop
 |list (l:List V) (vs:Array Value) (n:Nat):h.get? a=some (dM vs n)->aA μ h l vs.toList->a=b->d6 μ h a b (.list l)
 |dict (k:KK) (es:List (V×V)) (ents:Array DictEntry) (ep:Nat):h.get? a=some (cW ents ep)->cb S.w k μ h es ents.toList->(es.map (·.1)).Nodup->a=b->d6 μ h a b (.dict k es)
 |inst (c:Addr) (fs:List (Str×V)) (od:Obj) (m:Str->Option Value):h.get? a=some (instObj c b)->h.get? b=some od->h.Ns1 b m->tA S.attrs μ h fs m->a≠b->S.cls c=true->d6 μ h a b (.inst c fs)
 |pair (x y:Value):h.get? a=some (fE #[x,y] 0)->a=b->d6 μ h a b .pair
 |const (vs:Array Value) (n:Nat):h.get? a=some (dM vs n)->a=b->d6 μ h a b (.const vs n)
structure St(μ:Lay)(c:ai)(h:Heap):Prop where
 len:μ.length=c.length
 base:∀b o,S.B.get? b=some o->h.get? b=some o
 size:S.B.objs.size<=h.objs.size
 fresh:∀p∈μ,S.B.objs.size<=p.1/\S.B.objs.size<=p.2
 sep:∀(i j:Nat)(p q:Addr×Addr),μ[i]? =some p->μ[j]? =some q->i≠j->p.1≠q.1/\p.1≠q.2/\p.2≠q.2
 obj:∀(i:Nat)(o:aQ)(a b:Addr),c[i]? =some o->μ[i]? =some (a,b)->d6 S μ h a b o
end
structure bQ(P:Addr->Prop)(μ:Lay)(s:Shared)(c:Lay)(a:Shared):Prop where
 lay:∀(i:Nat) p,μ[i]? =some p->c[i]? =some p
 new:∀b,foot c b->foot μ b\/s.heap.objs.size<=b
 keep:∀b o,s.heap.get? b=some o->¬foot μ b->¬P b->a.heap.get? b=some o
 jF:∀b o,s.heap.get? b=some o->¬foot μ b->cS o->a.heap.get? b=some o
 grow:s.heap.objs.size<=a.heap.objs.size
 gens:a.gens=s.gens
 os:a.os=s.os
noncomputable abbrev Step:=bQ λZ=>False
section
variable{S:aN}{μ A E:Lay}{C G:ai}{h u:Heap}{s D F:Shared}{P P':Addr->Prop}
theorem bQ.jG(x:bQ P μ s A D){b:Addr}(e:b<s.heap.objs.size)(n:¬foot μ b):¬foot A b:=λf=>(x.new b f).elim n λq=>hH.mpr e q
theorem bQ.move(x:bQ P μ s A D):Move μ s.heap A D.heap:=⟨x.lay,x.jF,λZ Z e f Z=>x.jG (bA e) f⟩
theorem bQ.vr(x:bQ P μ s A D){v:V}{y:Value}(r:VR μ s.heap v y):VR A D.heap v y:=r.move x.move
theorem bQ.bV(x:bQ P μ s A D){v:List V}{y:List Value}(r:aA μ s.heap v y):aA A D.heap v y:=r.move x.move
theorem bQ.mono(x:bQ P μ s A D)(h:∀b,P b->P' b):bQ P' μ s A D:=⟨x.lay,x.new,λb o e n w=>x.keep b o e n λq=>w<|h b q,x.jF,x.grow,x.gens,x.os⟩
theorem Step.o(x:Step μ s A D):bQ P μ s A D:=x.mono λZ=>False.elim
theorem bQ.refl(μ:Lay)(s:Shared):bQ P μ s μ s:=⟨λZ Z e=>e,λZ f=> .inl f,λZ Z e Z Z=>e,λZ Z e Z Z=>e,aM _,rfl,rfl⟩
theorem bQ.trans(x:bQ P μ s A D)(y:bQ P A D E F):bQ P μ s E F:=
 ⟨λi p e=>y.lay i p (x.lay i p e),λb f=>(y.new b f).elim (x.new b) λq=> .inr (ah x.grow q),λb o e n w=>y.keep b o (x.keep b o e n w) (x.jG (bA e) n) w,
  λb o e n i=>y.jF b o (x.jF b o e n i) (x.jG (bA e) n) i,ah x.grow y.grow,y.gens.trans x.gens,y.os.trans x.os⟩
theorem bQ.toks(t:Nat):bQ P μ s μ {s with toks:=t}:=⟨λZ Z e=>e,λZ f=> .inl f,λZ Z e Z Z=>e,λZ Z e Z Z=>e,aM _,rfl,rfl⟩
theorem bQ.keeps(a:∀b o,s.heap.get? b=some o->u.get? b=some o)(hz:s.heap.objs.size<=u.objs.size)(t:Nat):bQ P μ s μ {s with heap:=u,toks:=t}:=⟨λZ Z e=>e,λZ f=> .inl f,λb o e Z Z=>a b o e,λb o e Z Z=>a b o e,hz,rfl,rfl⟩
theorem jH{i:Nat}{a b:Addr}(e:μ[i]? =some (a,b)):foot μ a/\foot μ b:=⟨.l _ (bI e) rfl,.r _ (bI e) rfl⟩
theorem tB{a:Addr}(f:foot μ a):∃(i:Nat)(p:Addr×Addr),μ[i]? =some p/\(a=p.1\/a=p.2):=by
 cases f with
 |l p m e=>refine jE (fy.mp m) λi hi=>?_;exact⟨i,p,hi,.inl e⟩
 |r p m e=>refine jE (fy.mp m) λi hi=>?_;exact⟨i,p,hi,.inr e⟩
theorem nZ{a b:Type}{l:List a}{r:List b}(e:l.length=r.length){i:Nat}{x:a}(h:l[i]? =some x):∃y,r[i]? =some y:=by have hi:=(cN.mp h).1;rw[e] at hi;exact⟨r[i],cc hi⟩
theorem St.at(s:St S μ C h){i:Nat}{a b:Addr}(e:μ[i]? =some (a,b)):∃o,C[i]? =some o/\d6 S μ h a b o:=by refine jE (nZ s.len e) λo c=>?_;exact⟨o,c,s.obj i o a b c e⟩
theorem d6.lt{a b:Addr}{o:aQ}(r:d6 S μ h a b o):a<h.objs.size/\b<h.objs.size:=by
 cases r with
 |list _ _ _ g _ e=>exact⟨bA g,e▸bA g⟩
 |dict _ _ _ _ g _ _ e=>exact⟨bA g,e▸bA g⟩
 |inst _ _ _ _ g d _ _ _ _=>exact⟨bA g,bA d⟩
 |pair _ _ g e=>exact⟨bA g,e▸bA g⟩
 |const _ _ g e=>exact⟨bA g,e▸bA g⟩
theorem St.lt(s:St S μ C h){a:Addr}(f:foot μ a):a<h.objs.size:=by refine cq (tB f) λi p e q=>?_;refine ak (s.at (a:=p.1) (b:=p.2) e) λo Z r=>?_;exact q.elim (λq=>q▸r.lt.1) λq=>q▸r.lt.2
theorem St.qk(s:St S μ C h){b:Addr}(a:b<S.B.objs.size):¬foot μ b:=λf=>by
 cases f with
 |l p m e=>exact hH.mpr a<|e▸(s.fresh p m).1
 |r p m e=>exact hH.mpr a<|e▸(s.fresh p m).2
theorem d6.move(j:Move μ h A u){a b:Addr}{o:aQ}(i:∀o,h.get? a=some o->u.get? a=some o)(p:∀o,h.get? b=some o->u.get? b=some o)(r:d6 S μ h a b o):d6 S A u a b o:=by
 cases r with
 |list l vs n g q e=>exact .list l vs n (i _ g) (q.move j) e
 |dict k es ents ep g q nd e=>exact .dict k es ents ep (i _ g) (q.move j) nd e
 |inst c fs od m g d hn f e k=>exact .inst c fs od m (i _ g) (p _ d) (hn.at p) (λn=>⟨(f n).1.move j,(f n).2⟩) e k
 |pair x y g e=>exact .pair x y (i _ g) e
 |const vs n g e=>exact .const vs n (i _ g) e
theorem St.same(s:St S μ C h)(c:∀b o,h.get? b=some o->foot μ b\/cS o\/b<S.B.objs.size->u.get? b=some o)(hz:h.objs.size<=u.objs.size):St S μ C u:=
 ⟨s.len,λb o e=>c b o (s.base b o e) (.inr (.inr (bA e))),ah s.size hz,s.fresh,s.sep,λi o a b g d=>
  d6.move ⟨λZ Z e=>e,λb o e Z i=>c b o e (.inr (.inl i)),λZ Z Z f Z=>f⟩ (λo' e=>c _ _ e (.inl (jH d).1)) (λo' e=>c _ _ e (.inl (jH d).2)) (s.obj i o a b g d)⟩
theorem St.keeps(s:St S μ C h)(a:∀b o,h.get? b=some o->u.get? b=some o)(hz:h.objs.size<=u.objs.size):St S μ C u:=s.same (λb o e Z=>a b o e) hz
theorem St.others(s:St S μ C h){i j:Nat}{a b c d:Addr}(e:μ[i]? =some (a,b))(e':μ[j]? =some (c,d))(ne:i≠j):c≠a/\c≠b/\d≠a/\d≠b:=by have x:=s.sep i j _ _ e e' ne;have y:=s.sep j i _ _ e' e<|cO ne;exact⟨cO x.1,y.2.1,cO x.2.1,cO x.2.2⟩
theorem St.put(s:St S μ C h){i:Nat}{a b:Addr}{ao:aQ}(e:μ[i]? =some (a,b))
  (hs:∀c o,c≠a->c≠b->h.get? c=some o->u.get? c=some o) (hz:u.objs.size=h.objs.size) (r:d6 S μ u a b ao):St S μ (C.set i ao) u:=by
 have m:∀c o,h.get? c=some o->¬foot μ c->u.get? c=some o:=λc o e' n=>hs c o (λq=>n<|q▸(jH e).1) (λq=>n<|q▸(jH e).2) e';refine⟨s.len.trans gu.symm,λc o q=>m c o (s.base c o q)<|s.qk<|bA q,hz▸s.size,s.fresh,s.sep,λj o c d g k=>?_⟩;by_cases l:i=j
 .obtain rfl:=l;have p:=e.symm.trans k;refine jE (nZ s.len e) λx t=>?_;rw[gU (cN.mp t).1] at g;obtain rfl:=aT g;clear k;cases p;exact r
 .rw[hB l] at g;have x:=s.others e k l;exact d6.move ⟨λZ Z e=>e,λc o e' f Z=>m c o e' f,λZ Z Z f Z=>f⟩ (λo' e'=>hs _ _ x.1 x.2.1 e') (λo' e'=>hs _ _ x.2.2.1 x.2.2.2 e')<|s.obj j o c d g k
theorem bQ.put{i:Nat}{a b:Addr}(e:μ[i]? =some (a,b))(hs:∀c o,c≠a->c≠b->s.heap.get? c=some o->u.get? c=some o)(hz:u.objs.size=s.heap.objs.size)(t:Nat):bQ P μ s μ {s with heap:=u,toks:=t}:=
 have d:∀c o,s.heap.get? c=some o->¬foot μ c->u.get? c=some o:=λc o e' n=>hs c o (λq=>n<|q▸(jH e).1) (λq=>n<|q▸(jH e).2) e'
 ⟨λZ Z e=>e,λZ f=> .inl f,λc o e' n Z=>d c o e' n,λc o e' n Z=>d c o e' n,bF hz.symm,rfl,rfl⟩
theorem kH{a:Type}{l:List a}{x y:a}{i:Nat}(e:(l++[x])[i]? =some y):l[i]? =some y\/i=l.length/\x=y:=by
 by_cases q:i<l.length
 .rw[fP q] at e;exact .inl e
 .rw[h5<|eS q] at e;cases k:i-l.length with
  |zero=>rw[k] at e;exact .inr ⟨fi (Nat.sub_eq_zero_iff_le.mp k)<|eS q,aT e⟩
  |succ n=>rw[k] at e;exact a4 e
theorem fG{a:Type}{l:List a}{x y:a}{i:Nat}(e:l[i]? =some y):(l++[x])[i]? =some y:=by exact Y (fP (cN.mp e).1) e
theorem fq{a:Type}(l:List a)(x:a):(l++[x])[l.length]? =some x:=by refine Y (h5<|aM _)<|Y (iO ..) ?_;rfl
theorem g4{a b c:Addr}(f:foot (μ++[(a,b)]) c):foot μ c\/c=a\/c=b:=by
 cases f with
 |l p m e=>exact(cD.mp m).elim (λq=> .inl<|.l p q e) λq=> .inr<|.inl<|e.trans<|ar Prod.fst<|a3.mp q
 |r p m e=>exact(cD.mp m).elim (λq=> .inl<|.r p q e) λq=> .inr<|.inr<|e.trans<|ar Prod.snd<|a3.mp q
theorem St.new(s:St S μ C h){a b:Addr}{ao:aQ}(v:∀c o,h.get? c=some o->u.get? c=some o)(hz:h.objs.size<=u.objs.size)
  (w:¬foot μ a) (A:¬foot μ b) (fU:S.B.objs.size<=a) (K:S.B.objs.size<=b) (hi:∀o,h.get? a=some o\/h.get? b=some o->¬cS o) (r:d6 S (μ++[(a,b)]) u a b ao):
  St S (μ++[(a,b)]) (C++[ao]) u/\Move μ h (μ++[(a,b)]) u:=by
 have E:Move μ h (μ++[(a,b)]) u:=⟨λZ Z e=>fG e,λc o e Z Z=>v c o e,λc o e f im g=>(g4 g).elim f λq=>hi o (q.elim (λq=> .inl<|q▸e) λq=> .inr<|q▸e) im⟩;refine⟨⟨by refine Y a0<|Y a0<|Y s.len ?_;rfl,λc o e=>v c o<|s.base c o e,ah s.size hz,λp m=>(cD.mp m).elim (s.fresh p) λq=>a3.mp q▸⟨fU,K⟩,λi j p q n k ne=>?_,λi o c d n k=>?_⟩,E⟩
 .refine Or.elim (kH n) (λx=>?_) λF=>jA F λx D=>?_
  .refine Or.elim (kH k) (λy=>?_) λG=>jA G λy t=>?_
   .exact s.sep i j p q x y ne
   .clear k G;subst t;exact⟨λz=>w<|.l p (bI x) z.symm,λz=>A<|.l p (bI x) z.symm,λz=>A<|.r p (bI x) z.symm⟩
  .clear n F;subst D;refine Or.elim (kH k) (λy=>?_) λL=>jA L λy t=>?_
   .exact⟨λz=>w<|.l q (bI y) z,λz=>w<|.r q (bI y) z,λz=>A<|.r q (bI y) z⟩
   .exact absurd (x.trans y.symm) ne
 .refine Or.elim (kH n) (λx=>?_) λI=>jA I λx D=>?_
  .refine Or.elim (kH k) (λy=>?_) λM=>jA M λy t=>?_
   .exact(s.obj i o c d x y).move E (v c)<|v d
   .refine jE (nZ s.len.symm x) λp hp=>?_;exact absurd ((cN.mp hp).1)<|y▸eh _
  .clear n I;subst D;refine Or.elim (kH k) (λy=>?_) λJ=>jA J λy t=>?_
   .refine jE (nZ s.len y) λp hp=>?_;exact absurd ((cN.mp hp).1)<|x▸eh _
   .clear k J;cases t;exact r
end
noncomputable abbrev au:=List<|Option V
noncomputable abbrev M:=au->ai->(V->ai->Prop)->Prop
noncomputable abbrev Ms:=au->ai->(List V->ai->Prop)->Prop
noncomputable abbrev Mt:=V->au->ai->(au->ai->Prop)->Prop
inductive Fl where
 |next
 |ret (v:V)
noncomputable abbrev aE:=au->ai->(Fl->au->ai->Prop)->Prop
structure bl where
 names:List Str
 globals:List Str
 cells:List Str
structure cG(Γ:bl)(env:Env):Prop where
 kind:env.scope.kind= .function
 glob:env.globals=mainGlobals
 bi:env.builtins=builtinsNs
 nd:Γ.names.Nodup
 n0:∀n∈Γ.names,(n==("__debug__":Str))=false
 kinds:∀n∈Γ.names,env.kindOf n=some .local\/env.kindOf n=some .cell/\∃c,env.cells.lookup n=some c
 gl:∀n∈Γ.globals,env.kindOf n=some .globalImplicit
 tC:∀n∈Γ.globals,(n==("__debug__":Str))=false
 cl:∀n∈Γ.cells,n∈Γ.names/\env.kindOf n=some .cell
 inj:∀n a c,env.cells.lookup n=some c->env.cells.lookup a=some c->n=a
inductive Fa(Γ:bl)(env:Env):Addr->Prop
 |loc:Fa Γ env env.locals
 |cell (n:Str) (c:Addr):n∈Γ.names->env.kindOf n=some .cell->env.cells.lookup n=some c->Fa Γ env c
noncomputable def VO(μ:Lay)(h:Heap)(l:au)(i:Nat)(a:Option Value):Prop:=∀v,l[i]? =some (some v)->∃x,a=some x/\VR μ h v x
structure FR(S:aN)(Γ:bl)(env:Env)(μ:Lay)(h:Heap)(l:au):Prop where
 len:l.length=Γ.names.length
 own:∀b,Fa Γ env b->¬foot μ b/\S.B.objs.size<=b
 ns:∃m,h.Ns env.locals m/\∀(i:Nat) n,Γ.names[i]? =some n->env.kindOf n=some .local->VO μ h l i (m n)
 cell:∀(i:Nat) n c,Γ.names[i]? =some n->env.kindOf n=some .cell->env.cells.lookup n=some c->∃a,h.IsCell c a/\VO μ h l i a
structure In(S:aN)(Γ:bl)(env:Env)(μ:Lay)(s:Shared)(l:au)(a:ai):Prop where
 st:St S μ a s.heap
 fr:FR S Γ env μ s.heap l
section
variable{S:aN}{Γ:bl}{env:Env}{μ g:Lay}{h C:Heap}{l:au}{d D:ai}{s y:Shared}{P:Addr->Prop}{A:Around}
theorem VO.move(m:Move μ h g C){i:Nat}{a:Option Value}(q:VO μ h l i a):VO g C l i a:=λv e=>(q v e).imp λZ x=>⟨x.1,x.2.move m⟩
theorem VO.set(i:Nat){v:V}{x:Value}(r:VR μ h v x):VO μ h (l.set i (some v)) i (some x):=λw e=>by have k:=(cN.mp e).1;rw[gu] at k;rw[gU k] at e;cases e;exact⟨x,rfl,r⟩
theorem VO.ne{i j:Nat}{v:V}{a:Option Value}(b:i≠j)(q:VO μ h l j a):VO μ h (l.set i (some v)) j a:=λw e=>q w (by rw[hB b] at e;exact e)
theorem FR.step(x:bQ P μ s g y)(h:∀b,Fa Γ env b->¬P b)(f:FR S Γ env μ s.heap l):FR S Γ env g y.heap l:=by
 refine ak f.ns λm hn hm=>?_;refine⟨f.len,λb d=>⟨x.jG ?_ (f.own b d).1,(f.own b d).2⟩,⟨m,hn.at' λo e=>x.keep _ _ e (f.own _ .loc).1<|h _ .loc,λi n e k=>(hm i n e k).move x.move⟩,λi n c e k q=>?_⟩
 .cases d with
  |loc=>exact hn.lt
  |cell n c e k q=>refine jE (fy.mp e) λi hi=>?_;refine ak (f.cell i n b hi k q) λj a Z=>?_;exact a.lt
 .refine ak (f.cell i n c e k q) λj p r=>?_;refine ak p λo t hd=>?_;have a:=Fa.cell n c (bI e) k q;exact⟨j,⟨o,x.keep _ _ t (f.own c a).1<|h c a,hd⟩,r.move x.move⟩
theorem In.step(i:In S Γ env μ s l d)(st:St S g D y.heap)(x:Step μ s g y):In S Γ env g y l D:=⟨st,i.fr.step x λZ Z=>id⟩
theorem In.toks(i:In S Γ env μ s l d)(t:Nat):In S Γ env μ {s with toks:=t} l d:=⟨i.st,i.fr⟩
theorem In.keeps(i:In S Γ env μ s l d)(a:∀b o,s.heap.get? b=some o->C.get? b=some o)(hz:s.heap.objs.size<=C.objs.size)(t:Nat):In S Γ env μ {s with heap:=C,toks:=t} l d:=i.step (i.st.keeps a hz)<|.keeps a hz t
theorem jI{a:Addr}{m}(hn:h.Ns a m){o:Obj}(e:h.get? a=some o)(i:cS o):False:=by refine cj hn λo' es b=>?_;refine bE b λep e' hd Z=>?_;obtain rfl:=aT<|e.symm.trans e';clear e b e';cases i<;>cases hd
theorem tD{a:Addr}{v}(hn:h.IsCell a v){o:Obj}(e:h.get? a=some o)(i:cS o):False:=by refine ak hn λo' e' hd=>?_;obtain rfl:=aT<|e.symm.trans e';clear e e';cases i<;>cases hd
theorem tE{a:Addr}{m v}(hn:h.Ns a m)(c:h.IsCell a v):False:=by refine cj hn λo' es b=>?_;refine bE b λep e' hd Z=>?_;refine ak c λo e d=>?_;clear b;obtain rfl:=aT<|e.symm.trans e';exact nomatch hd.symm.trans d
theorem step_at{a:Addr}(hs:Heap.SameBut a s.heap C)(hi:∀o,s.heap.get? a=some o->cS o->False)(c:P a)(t:Nat):bQ P μ s μ {s with heap:=C,toks:=t}:=⟨λZ Z e=>e,λZ f=> .inl f,λb o e Z d=>(hs.2 b λq=>d<|q▸c).trans e,λb o e Z im=>(hs.2 b λq=>hi o (q▸e) im).trans e,bF hs.1.symm,rfl,rfl⟩
theorem St.mJ{a:Addr}(t:St S μ d h)(hs:Heap.SameBut a h C)(hi:∀o,h.get? a=some o->cS o->False)(hf:¬foot μ a/\S.B.objs.size<=a):St S μ d C:=by refine t.same (λb o e c=>(hs.2 b ?_).trans e)<|bF hs.1.symm;clear hs;rintro rfl;exact c.elim hf.1 λc=>c.elim (hi o e) λc=>hH.mpr c hf.2
theorem ql(F:cG Γ env){i j:Nat}{n:Str}(e:Γ.names[i]? =some n)(e':Γ.names[j]? =some n):i=j:=(List.getElem?_inj (cN.mp e).1 F.nd).mp (e.trans e'.symm)
inductive gz(Γ:bl)(env:Env):Addr->Prop
 |loc:gz Γ env env.locals
 |cell (n:Str) (c:Addr):n∈Γ.cells->env.cells.lookup n=some c->gz Γ env c
noncomputable abbrev jJ(Γ:bl)(env:Env):=bQ<|gz Γ env
noncomputable def lJ(Γ:bl)(env:Env)(n:Str):Prop:=env.kindOf n=some .local\/n∈Γ.cells
theorem n1(F:cG Γ env){n:Str}{i:Nat}(hn:Γ.names[i]? =some n)(hs:lJ Γ env n){v:V}{x:Value}(I:In S Γ env μ s l d)(B:VR μ s.heap v x){Q:Unit->Shared->Prop}{E:Value->Shared->Prop}
  (D:∀y,In S Γ env μ y (l.set i<|some v) d->jJ Γ env μ s μ y->Q () y):wpAny (model S.prog S.w) A (storeName env n x) Q E s:=by
 refine ak I.fr.ns λm hm G=>?_;have len:(l.set i<|some v).length=_:=gu.trans I.fr.len;rcases F.kinds n (bI hn) with k|⟨k,c,b⟩
 .refine wpAny_storeName_local k hm (λC u h=>?_) (by refine Y F.kind ?_;rfl);have f:=λt=>step_at (μ:=μ) (P:=gz Γ env) h (λZ=>jI hm) .loc t;refine D _ ⟨I.st.mJ h (λZ=>jI hm)<|I.fr.own _ .loc,len,I.fr.own,⟨_,u,λj g e a=>?_⟩,λj g c e a q=>?_⟩<|f _
  .by_cases o:i=j
   .subst o;clear a;obtain rfl:=aT<|hn.symm.trans e;exact Y (az rfl)<|.set i<|(f 0).vr B
   .exact Y (ay λz:g=n=>o<|ql F hn<|z▸e)<|.ne o<|(G j g e a).move (f 0).move
  .refine ak (I.fr.cell j g c e a q) λJ b p=>?_;refine⟨J,b.sameBut h (λz:c=_=>tE hm<|z▸b),.ne (λz=>?_)<|p.move (f 0).move⟩;clear p;subst z;clear q;obtain rfl:=aT<|hn.symm.trans e;exact nomatch k.symm.trans a
 .refine ak (I.fr.cell i n c hn k b) λJ r Z=>?_;have K:n∈Γ.cells:=hs.elim (λq=>nomatch k.symm.trans q) id;refine wpAny_storeName_cell F.kind k b r λC u h=>?_;have f:=λt=>step_at (μ:=μ) (P:=gz Γ env) h (λZ=>tD r) (.cell n c K b) t;refine D _ ⟨I.st.mJ h (λZ=>tD r)<|I.fr.own _<|.cell n c (bI hn) k b,len,I.fr.own,⟨m,hm.sameBut h λz=>tE hm<|z▸r,λj g e a=>?_⟩,λj g c' e a q=>?_⟩<|f _
  .refine .ne (λz=>?_) ((G j g e a).move (f 0).move);subst z;obtain rfl:=aT<|hn.symm.trans e;exact nomatch a.symm.trans k
  .by_cases o:i=j
   .subst o;clear a;obtain rfl:=aT<|hn.symm.trans e;obtain rfl:=aT<|b.symm.trans q;exact⟨some x,u,.set i<|(f 0).vr B⟩
   .refine ak (I.fr.cell j g c' e a q) λL M p=>?_;exact⟨L,M.sameBut h λz=>o<|ql F hn<|F.inj n g c b (z▸q)▸e,.ne o<|p.move (f 0).move⟩
structure fV(A:Around)(n:Nat):Prop where
 handled:A.handled=none
 depth:A.depth+2*n<recursionLimit
 units:A.units+40*n+300<cLine
theorem fV.u{n k:Nat}(r:fV A n)(h:k<=300):A.units+k<cLine:=b0 (c7 (cp _ _) h) r.units
noncomputable abbrev bq:Value->Shared->Prop:=λZ Z=>False
inductive Rs(S:aN)(μ:Lay)(s:Shared)(P:V->ai->Prop)(x:Value)(y:Shared):Prop
 |mk (g:Lay) (v:V) (d:ai):St S g d y.heap->Step μ s g y->VR g y.heap v x->P v d->Rs S μ s P x y
inductive iS(S:aN)(μ:Lay)(s:Shared)(P:Bool->ai->Prop)(b:Bool)(y:Shared):Prop
 |mk (g:Lay) (d:ai):St S g d y.heap->Step μ s g y->P b d->iS S μ s P b y
theorem Rs.step{P:V->ai->Prop}{x:Value}{s₁:Shared}(t:Step μ s g s₁)(r:Rs S g s₁ P x y):Rs S μ s P x y:=by cases r with|mk a v d st b r p=>exact⟨a,v,d,st,t.trans b,r,p⟩
theorem iS.step{P:Bool->ai->Prop}{x:Bool}{s₁:Shared}(t:Step μ s g s₁)(r:iS S g s₁ P x y):iS S μ s P x y:=by cases r with|mk a d st b p=>exact⟨a,d,st,t.trans b,p⟩
noncomputable def lK(v:V)(k:Bool->Prop):Prop:=match v with| .bool b=>k b|_=>False
noncomputable def dv(v:V)(k:Int->Prop):Prop:=match v with| .int b=>k b|_=>False
noncomputable def ej(S:aN)(Γ:bl)(env:Env)(A:Around)(e:Expr)(m:M):Prop:=∀μ s l d P,In S Γ env μ s l d->m l d P->wpAny (model S.prog S.w) A (eval e env) (Rs S μ s P) bq s
noncomputable def iT(S:aN)(Γ:bl)(env:Env)(A:Around)(e:Expr)(m:M):Prop:=∀μ s l d P,In S Γ env μ s l d->m l d (λv D=>lK v λb=>P b D)->wpAny (model S.prog S.w) A (isTrue e env<|eval e env) (iS S μ s P) bq s
structure bh(S:aN)(Γ:bl)(env:Env)(A:Around)(e:Expr)(m:M):Prop where
 ev:ej S Γ env A e m
 tr:iT S Γ env A e m
theorem b4{x:Expr}{m:M}(c:ej S Γ env A x m){P:V->ai->Prop}(I:In S Γ env μ s l d)(e:m l d P){Q:Value->Shared->Prop}{E:Value->Shared->Prop}
  (k:∀g v a b s₁,In S Γ env g s₁ l a->Step μ s g s₁->VR g s₁.heap v b->P v a->Q b s₁):wpAny (model S.prog S.w) A (eval x env) Q E s:=
 bU (c μ s l d P I e) (λb s₁ r=>r.casesOn λg v a st t r p=>k g v a b s₁ (I.step st t) t r p) λZ Z x=>x.elim
theorem hJ{x:Expr}{m:M}(c:iT S Γ env A x m){P:Bool->ai->Prop}(I:In S Γ env μ s l d)(e:m l d (λv D=>lK v λb=>P b D)){Q:Bool->Shared->Prop}{E:Value->Shared->Prop}
  (k:∀g b a s₁,In S Γ env g s₁ l a->Step μ s g s₁->P b a->Q b s₁):wpAny (model S.prog S.w) A (isTrue x env<|eval x env) Q E s:=
 bU (c μ s l d P I e) (λf s₁ r=>r.casesOn λg a st t p=>k g f a s₁ (I.step st t) t p) λZ Z x=>x.elim
theorem g5{P:V->ai->Prop}{s₁:Shared}{t:Sem Value}(x:Step μ s g s₁)(h:wpAny (model S.prog S.w) A t (Rs S g s₁ P) bq s₁){E:Value->Shared->Prop}:wpAny (model S.prog S.w) A t (Rs S μ s P) E s₁:=bU h (λZ Z r=>r.step x) λZ Z x=>x.elim
theorem qm{P:Bool->ai->Prop}{s₁:Shared}{t:Sem Bool}(x:Step μ s g s₁)(h:wpAny (model S.prog S.w) A t (iS S g s₁ P) bq s₁){E:Value->Shared->Prop}:wpAny (model S.prog S.w) A t (iS S μ s P) E s₁:=bU h (λZ Z r=>r.step x) λZ Z x=>x.elim
theorem bh.value{e:Expr}{m:M}(h:ej S Γ env A e m)(a:isTrue e env (eval e env)=(do let v←eval e env;standAt e.pos;holding [v] (truthy v))):bh S Γ env A e m:=
 ⟨h,λμ s l d P I hm=>wpAny_isTrue_value (bU (h μ s l d _ I hm) (λv s₁ r=>by
  cases r with|mk g v d st t r p=>
  cases r with
  |bool b=>exact h9 ⟨g,d,st,t,p⟩
  |_=>exact p.elim) λZ Z x=>x) a⟩
theorem ze{k pos}:bh S Γ env A (.Constant .none k pos) (λZ d P=>P .none d):=.value (λμ Z Z d Z i p=>wpAny_Constant_none ⟨μ,_,d,i.st,.refl _ _,.none,p⟩) rfl
theorem zf{k pos b}:bh S Γ env A (.Constant (.bool b) k pos) (λZ d P=>P (.bool b) d):=.value (λμ Z Z d Z i p=>wpAny_Constant_bool ⟨μ,_,d,i.st,.refl _ _,.bool b,p⟩) rfl
theorem zg{k pos n}:bh S Γ env A (.Constant (.int n) k pos) (λZ d P=>P (.int n) d):=.value (λμ Z Z d Z i p=>wpAny_Constant_int ⟨μ,_,d,i.st,.toks _,.int n _,p⟩) rfl
theorem qn{k pos x}(a:PyData.strOk x=true):bh S Γ env A (.Constant (.str x) k pos) (λZ d P=>P (.str x) d):=.value (λμ Z Z d Z i p=>wpAny_Constant_str ⟨μ,_,d,i.st,.toks _,.str x _ a,p⟩) rfl
noncomputable def kI(l:au)(i:Nat)(k:V->Prop):Prop:=match l[i]? with|some (some v)=>k v|_=>False
theorem zh{i:Nat}{k:V->Prop}(h:kI l i k):∃v,l[i]? =some (some v)/\k v:=by
 unfold kI at h;cases e:l[i]? with
 |none=>rw[e] at h;exact h.elim
 |some o=>
  rw[e] at h;clear e;cases o with
  |none=>exact h.elim
  |some v=>exact⟨v,rfl,h⟩
theorem qo(F:cG Γ env){n:Str}{i:Nat}{pos:Pos}(hn:Γ.names[i]? =some n):bh S Γ env A (.Name n pos) (λl d P=>kI l i λv=>P v d):=by
 refine .value (λμ s l d P I e=>?_) rfl;refine ak (zh e) λv f p=>?_;have mem:n∈Γ.names:=bI hn;refine wpAny_Name ?_<|F.n0 n mem;rcases F.kinds n mem with k|⟨k,c,g⟩
 .refine ak I.fr.ns λm hm a=>?_;refine ak (a i n hn k v f) λx h b=>?_;exact wpAny_loadName_local F.kind k hm h ⟨μ,v,d,I.st,.refl _ _,b,p⟩
 .refine ak (I.fr.cell i n c hn k g) λq j a=>?_;refine ak (a v f) λx o b=>?_;clear a;obtain rfl:=o;exact wpAny_loadName_cell F.kind k g j ⟨μ,v,d,I.st,.refl _ _,b,p⟩
end
noncomputable def aF:Nat:=10000000
theorem eH{n:Nat}(h:n<=aF):n<=sizeLine:=ah h af
noncomputable def lL(v:V)(k:Nat->Prop):Prop:=match v with| .ref i=>k i|_=>False
noncomputable def kJ(v:V)(k:Str->Prop):Prop:=match v with| .str i=>k i|_=>False
noncomputable def gA(v:V)(k:List V->Prop):Prop:=match v with| .tup i=>k i|_=>False
noncomputable def dj(a:ai)(v:V)(k:Nat->List V->Prop):Prop:=lL v λi=>∃l,a[i]? =some (.list l)/\k i l
noncomputable def eV(a:ai)(v:V)(k:Nat->KK->List (V×V)->Prop):Prop:=lL v λi=>∃kk es,a[i]? =some (.dict kk es)/\k i kk es
noncomputable def mK(a:ai)(v:V)(k:Nat->Addr->List (Str×V)->Prop):Prop:=lL v λi=>∃c fs,a[i]? =some (.inst c fs)/\k i c fs
section
variable{S:aN}{Γ:bl}{env:Env}{μ y:Lay}{h u:Heap}{l:au}{j B:ai}{s C:Shared}{A:Around}{v:V}{x:Value}
theorem aA.length{l:List V}{xs:List Value}(r:aA μ h l xs):xs.length=l.length:=aA.rec (motive_1:=λZ Z Z=>True) (motive_2:=λl xs Z=>xs.length=l.length) trivial (λZ=>trivial) (λZ Z=>trivial) (λZ Z Z=>trivial) (λZ Z Z Z=>trivial) (λZ Z Z Z Z Z Z Z=>trivial) (λZ Z Z Z Z Z Z Z Z=>trivial) rfl (λZ Z Z Z Z Z Z e=>ar Nat.succ e) r
theorem aA.sz{l:List V}{xs:Array Value}(r:aA μ h l xs.toList):xs.size=l.length:=r.length
@[elab_as_elim] theorem de{k:Int->Prop}{G:Value->Prop}(r:VR μ h v x)(c:dv v k)(f:∀i t,k i->G (.int i t)):G x:=by cases r with|int i t=>exact f i t c|_=>exact c.elim
@[elab_as_elim] theorem mL{k:Str->Prop}{G:Value->Prop}(r:VR μ h v x)(c:kJ v k)(f:∀i t,PyData.strOk i=true->k i->G (.str i t)):G x:=by cases r with|str i t q=>exact f i t q c|_=>exact c.elim
@[elab_as_elim] theorem hL{k:List V->Prop}{G:Value->Prop}(r:VR μ h v x)(c:gA v k)(f:∀l a vs n,¬foot μ a->h.get? a=some (fE vs n)->aA μ h l vs.toList->k l->G (.ref a)):G x:=by cases r with|tup l a vs n b g q=>exact f l a vs n b g q c|_=>exact c.elim
@[elab_as_elim] theorem mM{k:Nat->Prop}{G:Value->Prop}(st:St S μ j h)(r:VR μ h v x)(c:lL v k)(f:∀i a b o,v= .ref i->μ[i]? =some (a,b)->j[i]? =some o->d6 S μ h a b o->k i->G (.ref a)):G x:=by cases r with|ref i a b e=>exact(st.at e).elim λo q=>f i a b o rfl e q.1 q.2 c|_=>exact c.elim
@[elab_as_elim] theorem dU{k:Nat->List V->Prop}{G:Value->Prop}(st:St S μ j h)(r:VR μ h v x)(c:dj j v k)
  (f:∀i a l vs n,v= .ref i->μ[i]? =some (a,a)->j[i]? =some (.list l)->h.get? a=some (dM vs n)->aA μ h l vs.toList->k i l->G (.ref a)):G x:=
 mM st r c λi a b o m p d s t=>t.elim λl e=>by obtain rfl:=aT<|d.symm.trans e.1;cases s with|list Z vs n g q e'=>exact f i a l vs n m (e'▸p) d g q e.2
@[elab_as_elim] theorem fW{k:Nat->KK->List (V×V)->Prop}{G:Value->Prop}(st:St S μ j h)(r:VR μ h v x)(c:eV j v k)
  (f:∀i a kk es ents ep,v= .ref i->μ[i]? =some (a,a)->j[i]? =some (.dict kk es)->h.get? a=some (cW ents ep)->cb S.w kk μ h es ents.toList->(es.map (·.1)).Nodup->k i kk es->G (.ref a)):G x:=
 mM st r c λi a b o p s m t d=>d.elim λkk d=>d.elim λl e=>by obtain rfl:=aT<|m.symm.trans e.1;cases t with|dict Z Z vs n g q nd e'=>exact f i a kk l vs n p (e'▸s) m g q nd e.2
@[elab_as_elim] theorem n2{k:Nat->Addr->List (Str×V)->Prop}{G:Value->Prop}(st:St S μ j h)(r:VR μ h v x)(c:mK j v k)
  (f:∀i a b c fs od m,v= .ref i->μ[i]? =some (a,b)->j[i]? =some (.inst c fs)->h.get? a=some (instObj c b)->h.get? b=some od->h.Ns1 b m->tA S.attrs μ h fs m->a≠b->S.cls c=true->k i c fs->G (.ref a)):G x:=
 mM st r c λi a b o p q n s l=>l.elim λc l=>l.elim λfs e=>by obtain rfl:=aT<|n.symm.trans e.1;cases s with|inst Z Z od m g d hn hf ne t=>exact f i a b c fs od m p q n g d hn hf ne t e.2
theorem aA.append{l r:List V}{xs c:List Value}(a:aA μ h l xs)(b:aA μ h r c):aA μ h (l++r) (xs++c):=by
 induction l generalizing xs with
 |nil=>cases a;exact b
 |cons v l d=>refine aA.jD a λx Z p q=>?_;exact .cons _ _ _ _ p<|d q
theorem aA.one(r:VR μ h v x):aA μ h [v] [x]:= .cons _ _ _ _ r .nil
theorem aA.get{l:List V}{xs:List Value}(r:aA μ h l xs){i:Nat}(e:l[i]? =some v):∃x,xs[i]? =some x/\VR μ h v x:=by
 induction l generalizing xs i with
 |nil=>exact a4 e
 |cons w l b=>
  cases r with
  |cons _ x _ xs a r=>cases i with
   |zero=>cases e;exact⟨x,rfl,a⟩
   |succ i=>exact b r e
theorem aA.drop{l:List V}{xs:List Value}(r:aA μ h l xs)(n:Nat):aA μ h (l.drop n) (xs.drop n):=by
 induction l generalizing xs n with
 |nil=>cases r;cases n<;>exact .nil
 |cons v l b=>refine aA.jD r λx xs a r=>?_;cases n with|zero=>exact .cons _ _ _ _ a r|succ n=>exact b r n
theorem aA.take{l:List V}{xs:List Value}(r:aA μ h l xs)(n:Nat):aA μ h (l.take n) (xs.take n):=by
 induction l generalizing xs n with
 |nil=>cases r;cases n<;>exact .nil
 |cons v l b=>refine aA.jD r λx xs a r=>?_;cases n with|zero=>exact .nil|succ n=>exact .cons _ _ _ _ a<|b r n
theorem aA.cons_inv{v:V}{l:List V}{xs:List Value}(r:aA μ h (v::l) xs):∃x b,xs=x::b/\VR μ h v x/\aA μ h l b:=by refine aA.jD r λx b a r=>?_;exact⟨x,b,rfl,a,r⟩
theorem aA.nil_inv{xs:List Value}(r:aA μ h [] xs):xs=[]:=by cases r;rfl
theorem St.kK(st:St S μ j h):¬foot μ h.objs.size:=λf=>eh _<|st.lt f
theorem n4(h:Heap){o:Obj}{c:Addr}(e:h.get? c=some o)(q:c=h.objs.size):False:=eh _<|q▸bA e
theorem St.push(st:St S μ j h)(o:Obj):St S μ j (h.push o):=st.keeps (λZ Z=>bZ o)<|Y (eT ..)<|fk _
theorem bQ.push{P:Addr->Prop}(o:Obj)(t:Nat):bQ P μ s μ {s with heap:=s.heap.push o,toks:=t}:= .keeps (λZ Z=>bZ o) (Y (eT ..)<|fk _) t
theorem tF(st:St S μ j s.heap){o:Obj}{ao:aQ}(t:Nat){P:V->ai->Prop}(r:∀y,Move μ s.heap y (s.heap.push o)->d6 S y (s.heap.push o) s.heap.objs.size s.heap.objs.size ao)
  (p:P (.ref j.length) (j++[ao])):Rs S μ s P (.ref s.heap.objs.size) {s with heap:=s.heap.push o,toks:=t}:=by
 have k:∀c o',s.heap.get? c=some o'->(s.heap.push o).get? c=some o':=λZ Z=>bZ o;have z:s.heap.objs.size<=(s.heap.push o).objs.size:=Y (eT ..)<|fk _;have a:=st.kK;have hi:∀o',s.heap.get? s.heap.objs.size=some o'\/s.heap.get? s.heap.objs.size=some o'->¬cS o':=λZ q Z=>q.elim (λe=>n4 _ e rfl) λe=>n4 _ e rfl;have d:Move μ s.heap (μ++[(s.heap.objs.size,s.heap.objs.size)]) (s.heap.push o):=⟨λZ Z e=>fG e,λc o e Z Z=>k c o e,λc o' e f Z g=>(g4 g).elim f λq=>n4 _ e<|q.elim id id⟩;refine jA (st.new k z a a st.size st.size hi<|r _ d) λh Z=>?_;exact⟨_,_,_,h,⟨λZ Z=>fG,λb f=>(g4 f).imp id λq=>bF<|q.elim Eq.symm Eq.symm,λb o e Z Z=>k b o e,λb o e Z Z=>k b o e,z,rfl,rfl⟩,.ref _ _ _<|st.len▸fq _ _,p⟩
theorem mN(st:St S μ j s.heap){l:List V}{vs:Array Value}(t:Nat){P:V->ai->Prop}(r:aA μ s.heap l vs.toList)(p:P (.ref j.length) (j++[.list l])):
  Rs S μ s P (.ref s.heap.objs.size) {s with heap:=s.heap.push<|dM vs 0,toks:=t}:=tF st t (λZ a=> .list l vs 0 (cy _ rfl) (r.move a) rfl) p
theorem n5(st:St S μ j s.heap){k:KK}{es:List (V×V)}{ents:Array DictEntry}{ep:Nat}(t:Nat){P:V->ai->Prop}(r:cb S.w k μ s.heap es ents.toList)(nd:(es.map (·.1)).Nodup)(p:P (.ref j.length) (j++[.dict k es])):
  Rs S μ s P (.ref s.heap.objs.size) {s with heap:=s.heap.push<|cW ents ep,toks:=t}:=tF st t (λZ a=> .dict k es ents ep (cy _ rfl) (r.move a) nd rfl) p
theorem qp(st:St S μ j s.heap){l:List V}{vs:Array Value}(t:Nat){P:V->ai->Prop}(r:aA μ s.heap l vs.toList)(p:P (.tup l) j):
  Rs S μ s P (.ref s.heap.objs.size) {s with heap:=s.heap.push<|fE vs 0,toks:=t}:=
 ⟨μ,_,j,st.push _,.push _ _,.tup l _ vs 0 st.kK (cy _ rfl)<|(bQ.push (P:=λZ=>False) (fE vs 0) t).bV r,p⟩
theorem qq(st:St S μ j s.heap){i:Nat}{a b:Addr}{ao:aQ}(e:μ[i]? =some (a,b))(hs:∀c o,c≠a->c≠b->s.heap.get? c=some o->u.get? c=some o)(hz:u.objs.size=s.heap.objs.size)(t:Nat)
  (r:Move μ s.heap μ u->d6 S μ u a b ao):St S μ (j.set i ao) u/\Step μ s μ {s with heap:=u,toks:=t}:=
 have x:Step μ s μ {s with heap:=u,toks:=t}:= .put e hs hz t
 ⟨st.put e hs hz<|r x.move,x⟩
end
noncomputable def tG(c:ai)(a b:V)(P:V->ai->Prop):Prop:=(dv a λx=>dv b λy=>P (.int<|x+y) c)\/(kJ a λx=>kJ b λy=>x.length+y.length<=aF/\P (.str<|x++y) c)\/
 (gA a λx=>gA b λy=>x.length+y.length<=aF/\P (.tup<|x++y) c)\/dj c a λZ x=>dj c b λZ y=>x.length+y.length<=aF/\P (.ref c.length) (c++[.list<|x++y])
noncomputable def tH(c:ai)(a b:V)(P:V->ai->Prop):Prop:=(dv a λx=>dv b λy=>(-(10:Int)^15<=x/\x<=(10:Int)^15)/\P (.int<|x*y) c)\/
 dj c a λZ l=>∃x,l=[x]/\dv b λn=>(0<=n/\n<=100000)/\P (.ref c.length) (c++[.list<|List.replicate n.toNat x])
noncomputable def qr(op:Operator)(c:ai)(a b:V)(P:V->ai->Prop):Prop:=match op with
 | .Add=>tG c a b P
 | .Mult=>tH c a b P
 | .Sub=>dv a λx=>dv b λy=>P (.int<|x-y) c
 | .Mod=>dv a λx=>dv b λy=>0<y/\P (.int<|x%y) c
 |_=>False
section
variable{S:aN}{μ f:Lay}{h g:Heap}{c o:ai}{s d:Shared}{A:Around}{a b v:V}{x y:Value}{P:V->ai->Prop}
theorem zi{x y:Str}(a:PyData.strOk x=true)(b:PyData.strOk y=true):PyData.strOk (x++y)=true:=by unfold PyData.strOk at*;refine Y (show(x++y).cps=x.cps++y.cps from rfl)<|Y Array.all_append<|Y a<|Y b ?_;rfl
theorem tI{n m i j:Nat}(h:i+j<=aF)(hn:n=i)(hm:m=j):n+m<=sizeLine:=hn▸hm▸eH h
theorem tJ{vs:Array Value}(h:vs.isEmpty=true):vs= #[]:=Array.isEmpty_iff.mp h
theorem kL(st:St S μ c s.heap)(n:Int)(t:Tok)(k:Nat)(p:P (.int n) c):Rs S μ s P (.int n t) {s with toks:=k}:=⟨μ,_,c,st,.toks _,.int _ _,p⟩
theorem aA.app{l r:List V}{vs ws:Array Value}(a:aA μ h l vs.toList)(b:aA μ h r ws.toList):aA μ h (l++r) (vs++ws).toList:=by exact Y (@Array.toList_append _ vs ws)<|a.append b
theorem zj(st:St S μ c s.heap){l r:List V}{a b:Addr}{vs ws:Array Value}{n m:Nat}(fU:¬foot μ a)(i:¬foot μ b)(ga:s.heap.get? a=some (fE vs n))(d:s.heap.get? b=some (fE ws m))
  (va:aA μ s.heap l vs.toList) (g:aA μ s.heap r ws.toList) (hz:l.length+r.length<=aF) (p:P (.tup<|l++r) c):wpAny (model S.prog S.w) A (binaryOp .Add (.ref a)<|.ref b) (Rs S μ s P) bq s:=by
 have hz:=tI hz va.sz g.sz;have e:=va.app g;by_cases f:vs.isEmpty=true
 .clear va hz;obtain rfl:=tJ f;rw[Array.empty_append] at e;exact concat_meets ⟨_,ga,rfl⟩ ⟨_,d,rfl⟩ noFill_tuple_add seq_tuple_add F.slot_tuple_add F.entry_tuple_add (F.args_tuple_add_2 _ _) (tuple_addW0 a b #[] ws n m none none #[] #[] f) ⟨ga,d,μ,_,c,st,.refl _ _,.tup _ _ _ _ i d e,p⟩
 .by_cases h:ws.isEmpty=true
  .clear g;obtain rfl:=tJ h;rw[Array.append_empty] at e;exact concat_meets ⟨_,ga,rfl⟩ ⟨_,d,rfl⟩ noFill_tuple_add seq_tuple_add F.slot_tuple_add F.entry_tuple_add (F.args_tuple_add_2 _ _) (tuple_addW1 a b vs #[] n m none none #[] #[] f h) ⟨ga,d,μ,_,c,st,.refl _ _,.tup _ _ _ _ fU ga e,p⟩
  .exact concat_meets ⟨_,ga,rfl⟩ ⟨_,d,rfl⟩ noFill_tuple_add seq_tuple_add F.slot_tuple_add F.entry_tuple_add (F.args_tuple_add_2 _ _) (tuple_addW2 a b vs ws n m none none #[] #[] f h hz) ⟨ga,d,qp st _ e p⟩
theorem zk(st:St S μ c s.heap)(f:VR μ s.heap a x)(g:VR μ s.heap b y)(e:tG c a b P):wpAny (model S.prog S.w) A (binaryOp .Add x y) (Rs S μ s P) bq s:=by
 rcases e with e|e|e|e
 .exact de f e λi t d=>de g d λj u d=>PyProof.Rows.add_int<|kL st _ _ _ d
 .exact mL f e λi t hs d=>mL g d λj u o d=>PyProof.Rows.add_str (λq tk=>⟨μ,_,c,st,.toks _,.str _ _<|zi hs o,d.2⟩)<|eH d.1
 .exact hL f e λl a vs n fU ga va d=>hL g d λr b ws m p k h d=>zj st fU p ga k va h d.1 d.2
 .exact dU st f e λZ a l vs n Z Z Z ga va d=>dU st g d λZ b r ws m Z Z Z k h d=>PySem.P.add_list ga k (mN st _ (va.app h) d.2)<|tI d.1 va.sz h.sz
theorem zl{a b:Int}(h: -(10:Int)^15<=a/\a<=(10:Int)^15):IntMulOk a b:= .of_left<|intBits_le_64 (eF af h.1)<|Int.lt_of_le_of_lt h.2 af
theorem tK(y:Value):∀(m:Nat)(acc:Array Value),(List.foldl (λa b=>a++b) acc (List.replicate m (#[y]:Array Value))).toList=acc.toList++List.replicate m y
 |0,acc=>by refine Y List.replicate_zero<|Y List.replicate_zero<|Y (d2 ..) ?_;rfl
 |m+1,acc=>by rw[List.replicate_succ,List.foldl_cons,tK y m,List.replicate_succ,Array.toList_append,gV];rfl
theorem aA.rep(r:VR μ h v x):∀m:Nat,aA μ h (List.replicate m v) (List.replicate m x)
 |0=> .nil
 |m+1=> .cons _ _ _ _ r<|aA.rep r m
theorem zm{n:Int}(h:0<=n/\n<=100000):Builtin.List.listFitsIndex n=true:=by exact fe.mpr ⟨bJ<|eF af h.1,bJ<|Int.lt_of_le_of_lt h.2 af⟩
theorem tL{n:Int}{z:Value}(h:0<=n/\n<=100000):¬(#[z]:Array Value).size*n.toNat>(2^63-1)/8/\¬Builtin.List.listTooLong ((#[z]:Array Value).size*n.toNat)=true:=by have k:n.toNat<=100000:=Int.toNat_le.mpr h.2;have e:(#[z]:Array Value).size*n.toNat=n.toNat:=Nat.one_mul _;exact Y e ⟨cJ.mpr<|ah k af,λz=>cJ.mpr (ah k (sizeLine_eq▸by decide))<|cf z⟩
theorem zo(st:St S μ c s.heap)(g:VR μ s.heap a x)(h:VR μ s.heap b y)(e:tH c a b P):wpAny (model S.prog S.w) A (binaryOp .Mult x y) (Rs S μ s P) bq s:=by
 rcases e with e|e
 .exact de g e λi t f=>de h f λj u f=>PyProof.Rows.mul_int (kL st _ _ _ f.2)<|zl f.1
 .refine dU st g e λZ a l vs k Z Z Z ga va f=>?_;clear Z;obtain⟨w,rfl,f⟩:=f;refine de h f λn u k2=>?_;obtain⟨z,p,m,r,o⟩:=va.cons_inv;obtain rfl:=o.nil_inv;clear va;obtain rfl:vs= #[z]:=Array.toList_inj.mp m
  refine wpAny_binaryOp_repeat_ref (T:="list") (U:="int") af ⟨_,ga,rfl⟩ (λd=>typeIs_int d n u) noFill_list_mul F.fills_int_mul F.slot_int_rmul repeat_list F.slot_int_index.lookup
   (call_meets F.slot_int_rmul (typeIs_int s n u) F.entry_int_rmul (F.args_int_rmul_2 _ _) (int___rmul___int_list n u a #[z] k)
    ⟨ga,rfl,⟨_,ga,rfl⟩,call_meets F.slot_list_mul ⟨_,ga,rfl⟩ F.entry_list_mul (F.args_list_mul_2 _ _)
     (AutoListH.list___mul___list_int_3 a #[z] k n u (by refine Y (zm k2.1) ?_;decide) (tL k2.1).1 (tL k2.1).2)
     ⟨ga,mN st _ ?_ k2.2⟩⟩)
  exact Y (tK ..)<|aA.rep r _
theorem zp{op:Operator}(st:St S μ c s.heap)(d:VR μ s.heap a x)(f:VR μ s.heap b y)(e:qr op c a b P):wpAny (model S.prog S.w) A (binaryOp op x y) (Rs S μ s P) bq s:=by
 cases op with
 |Add=>exact zk st d f e
 |Mult=>exact zo st d f e
 |Sub=>exact de d e λi t g=>de f g λj u k2=>sub_int'<|kL st _ _ _ k2
 |Mod=>refine de d e λi t g=>de f g λj u k2=>mod_int' (cO<|Int.ne_of_lt k2.1) ?_;exact Y (Int.fmod_eq_emod_of_nonneg _<|Int.le_of_lt k2.1)<|kL st _ _ _ k2.2
 |_=>exact e.elim
end
noncomputable def gB(v:V):PyData:=V.rec (motive_1:=λZ=>PyData) (motive_2:=λZ=>List PyData) .none .bool .int .str (λZ q=> .tuple q) (λZ=> .none) (λZ Z Z=> .none) [] (λZ Z a q=>a::q) v
noncomputable def hM(l:List V):List PyData:=V.rec_1 (motive_1:=λZ=>PyData) (motive_2:=λZ=>List PyData) .none .bool .int .str (λZ q=> .tuple q) (λZ=> .none) (λZ Z Z=> .none) [] (λZ Z a q=>a::q) l
section
variable{S:aN}{μ:Lay}{h B:Heap}{C:ai}{s:Shared}{A:Around}{E:Value->Shared->Prop}{prog:Program}{w:World}{n m:Nat}{a b v:V}{x y:Value}
theorem a8.mono(k:a8 n v)(h:n<=m):a8 m v:=by
 induction k generalizing m with
 |int=>exact .int _ _
 |str=>exact .str _ _
 |tup n l _ a=>cases m with|zero=>exact nomatch h|succ m=>exact .tup m l λv b=>a v b<|Nat.le_of_succ_le_succ h
theorem bK.key{k:KK}(h:bK k v):a8 7 v:=by cases h with|i=>exact .int _ _|s=>exact .str _ _|t _ q=>exact q
noncomputable def qs(μ:Lay)(h:Heap)(v:V):Prop:=∀w m x,a8 m w->VR μ h v x->VR μ h w x->v=w
theorem zq{l:List V}(d:∀v∈l,qs μ h v):∀{r xs m},(∀v∈r,a8 m v)->aA μ h l xs->aA μ h r xs->l=r:=by
 induction l with
 |nil=>intro r xs m _ a b;cases a;cases b;rfl
 |cons v l e=>
  intro r xs m k a b;cases a with|cons Z x Z xs p a=>
  cases b with|cons w Z r Z q b=>
  exact Y (d v fC w m x (k w fC) p q)<|Y (e (λv c=>d v<|fc _ c) (λv c=>k v<|fc _ c) a b) rfl
theorem zr{l r:List V}(c:∀v∈l,qs μ h v)(d:∀v∈r,a8 m v)(a:VR μ h (.tup l) x)(b:VR μ h (.tup r) x):l=r:=by
 cases a with|tup Z a vs n Z ga va=>
 cases b with|tup Z Z ws Z Z e f=>
 obtain rfl:vs=ws:=(Data.seq.inj (Obj.mk.inj<|aT<|ga.symm.trans e).2.2.1).1;exact zq c d va f
theorem VR.n6{i:Int}{x:Value}(r:VR μ h (.int i) x):∃t,x= .int i t:=VR.fm r λt=>⟨t,rfl⟩
theorem VR.lM{i:Str}{x:Value}(r:VR μ h (.str i) x):∃t,x= .str i t:=VR.d5 r λt Z=>⟨t,rfl⟩
theorem VR.tupI{l:List V}{x:Value}(r:VR μ h (.tup l) x):∃t,x= .ref t:=VR.fF r λt Z Z Z Z Z=>⟨t,rfl⟩
theorem VR.inj(k:a8 n v):qs μ h v:=by
 induction k with
 |int n i=>
  intro w m x k a b;refine jE a.n6 λt e=>?_;cases k with
  |int m j=>exact jE b.n6 λc e'=>ar V.int (Value.int.inj<|e.symm.trans e').1
  |str m j=>exact jE b.lM λc e'=>nomatch e.symm.trans e'
  |tup m r d=>exact jE b.tupI λc e'=>nomatch e.symm.trans e'
 |str n i=>
  intro w m x k a b;refine jE a.lM λt e=>?_;cases k with
  |int m j=>exact jE b.n6 λc e'=>nomatch e.symm.trans e'
  |str m j=>exact jE b.lM λc e'=>ar V.str (Value.str.inj<|e.symm.trans e').1
  |tup m r d=>exact jE b.tupI λc e'=>nomatch e.symm.trans e'
 |tup n l _ f=>
  intro w m x k a b;cases k with
  |int m j=>exact jE a.tupI λt e=>jE b.n6 λc e'=>nomatch e.symm.trans e'
  |str m j=>exact jE a.tupI λt e=>jE b.lM λc e'=>nomatch e.symm.trans e'
  |tup m r d=>exact ar V.tup<|zr f d a b
noncomputable def n7(μ:Lay)(n:Nat)(v:V):Prop:=∀(prog:Program)(w:World)(E:Value->Shared->Prop)(x:Value)(A:Around)(s:Shared)(Q:Int->Shared->Prop),VR μ s.heap v x->A.units+n<cLine->
  Q (b7 w v) {s with toks:=s.toks+(iQ w v).2}->wpAny (model prog w) A (pyHash x) Q E s
theorem zt{l:List V}(c:∀v∈l,n7 μ n v){xs:List Value}(r:aA μ s.heap l xs)(d:A.units+n<cLine){f:Value->Array Int->Sem (ForInStep (Array Int))}
  (hf:∀x b,f x b=(do let i←pyHash x;pure (ForInStep.yield<|b.push i))) {Q:Array Int->Shared->Prop} (acc:Array Int)
  (h:∀b:Array Int,b.toList=acc.toList++(g0 w l).1->Q b {s with toks:=s.toks+(g0 w l).2}):wpAny (model prog w) A (forIn xs acc f) Q E s:=by
 induction l generalizing xs s acc with
 |nil=>
  cases r
  exact Y jz<|aq<|h acc (d2 _).symm
 |cons v l g=>refine aA.jD r λx xs a r=>?_;refine Y (jy ..)<|Y (hf ..)<|ae<|ae<|c v fC prog w E x A s _ a d<|aq ?_;refine g (λv j=>c v<|fc _ j) (s:={s with toks:=s.toks+(iQ w v).2}) r (acc.push<|b7 w v) λb k=>?_;have e:s.toks+(iQ w v).2+(g0 w l).2=s.toks+(g0 w<|v::l).2:=dD _ _ _;exact e▸h b (k.trans (by refine Y jt<|Y (gV ..) ?_;rfl))
theorem zu{l:List V}(g:∀v∈l,n7 μ n v):n7 μ (n+1) (.tup l):=by
 intro prog w E x A s Q r e c;refine VR.fF r λa vs m Z ga va=>?_;have d:s.TypeIs (.ref a) "tuple":=⟨_,ga,rfl⟩;refine ae<|wpAny_cRoomFor_or (.inr<|b0 (cp _ _) e) ?_;refine ae<|iL d F.slot_tuple_hash.lookup ?_;refine ck (Y (beq_builtin_none ..) eB) ?_;refine ae<|iL d F.slot_tuple_hash.lookup ?_;refine ae<|wpAny_callSpecialIfBoundUnlessNone?_slot d F.slot_tuple_hash<|da F.slot_tuple_hash d F.entry_tuple_hash ?_<|F.args_tuple_hash_1 _;show wpAny _ _ (Builtin.Tuple.tupleItemsOf (.ref a)>>=_) _ _ s;refine ae<|wpAny_tupleItemsOf ga rfl<|ae ?_;refine Y Array.forIn_toList.symm<|zt g va (n:=n) (w:=w) ?_ (λZ Z=>rfl) #[] λb h=>?_
 .show A.units+1+n<cLine;rw[dD,d3 1];exact e
 .show wpAny _ _ (retInt<|Builtin.Tuple.tupleHashOf b.toList) _ _ _;refine Y h<|Y (show(#[]:Array Int).toList++(g0 w l).1=(g0 w l).1 from rfl)<|wpAny_ret_mkInt ?_;show wpAny _ _ (if(decide (-(2:Int)^63<=Builtin.Tuple.tupleHashOf (g0 w l).1)&&decide (Builtin.Tuple.tupleHashOf (g0 w l).1<2^63))=true then _ else _) Q E _;have c:Q (reduceHash<|Builtin.Tuple.tupleHashOf (g0 w l).1) {s with toks:=s.toks+(g0 w l).2+1}:=c;unfold reduceHash at c;by_cases f:(decide (-(2:Int)^63<=Builtin.Tuple.tupleHashOf (g0 w l).1)&&decide (Builtin.Tuple.tupleHashOf (g0 w l).1<2^63))=true
  .rw[az f] at c⊢;exact aq c
  .rw[ay f] at c⊢;exact e5<|aq c
theorem qt(k:a8 n v):n7 μ n v:=by
 induction k with
 |int n i=>exactλprog w E x A s Q r Z h=>VR.fm r λZ=>wpAny_pyHash_int h
 |str n i=>exactλprog w E x A s Q r Z h=>VR.d5 r λZ Z=>wpAny_pyHash_str h
 |tup n l _ a=>exact zu a
noncomputable def n8(μ:Lay)(n:Nat)(v:V):Prop:=∀(prog:Program)(w:World)(E:Value->Shared->Prop)(x:Value)(A:Around)(s:Shared)(Q:Bool->Shared->Prop),VR μ s.heap v x->Q true s->wpAny (model prog w) A (eqIsQuiet n x) Q E s
theorem zv{l:List V}(g:∀v∈l,n8 μ n v):n8 μ (n+1) (.tup l):=by
 intro prog w E x A s Q r c;refine VR.fF r λa vs m Z ga va=>?_;have d:s.TypeIs (.ref a) "tuple":=⟨_,ga,rfl⟩;unfold eqIsQuiet;refine ae<|iL d F.slot_tuple_eq.lookup ?_;refine ae<|kF d isSubtype_tuple_tuple ?_;refine ck af ?_;refine ae<|gv ga rfl<|ae ?_;refine Y Array.forIn_toList.symm<|wpAny_forIn_list _ (λrest r e=>r.1=none/\e=s/\∃left:List V,aA μ s.heap left rest/\∀v∈left,n8 μ n v) _ ?_ ?_ _ _ ⟨rfl,rfl,l,va,g⟩
 .clear ga va d;rintro v rest r e ⟨f,rfl,left,h,c⟩;cases h with|cons Z Z Z Z a b=>refine ae<|c _ fC prog w E _ A _ _ a ?_;refine ck af ?_;exact aq ⟨rfl,rfl,_,b,λu i=>c u<|fc _ i⟩
 .rintro⟨j,k⟩ e ⟨f,rfl,_⟩;obtain rfl:j=none:=f;exact aq c
theorem qu(k:a8 n v):n8 μ n v:=by
 induction k with
 |int n i=>exactλprog w E x A s Q r h=>VR.fm r λZ=>Y (eqIsQuiet_byValue _ rfl)<|aq h
 |str n i=>exactλprog w E x A s Q r h=>VR.d5 r λZ Z=>Y (eqIsQuiet_byValue _ rfl)<|aq h
 |tup n l _ a=>exact zv a
noncomputable def Rd(h:Heap)(n:Nat)(x:Value)(d:PyData):Prop:=(∃as,Reads h x d as)/\d.canLay0=true/\d.depth<=n
noncomputable def zw(h:Heap)(n:Nat)(xs:List Value)(ds:List PyData):Prop:=(∃as,ReadsAll h xs ds as)/\PyData.canLayAll0 ds=true/\PyData.depthAll ds<=n
theorem mO{l:List V}(b:∀v∈l,∀x,VR μ h v x->Rd h n x (gB v)):∀{xs},aA μ h l xs->zw h n xs (hM l):=by
 induction l with
 |nil=>intro xs r;cases r;exact⟨⟨_,.nil⟩,rfl,a6 _⟩
 |cons v l g=>intro xs r;refine aA.jD r λx xs a r=>?_;refine b1 (b v fC x a) λi c d=>?_;refine jE i λas p=>?_;refine b1 (g (λv j=>b v<|fc _ j) r) λk e f=>?_;refine jE k λbs q=>?_;exact⟨⟨_,.cons p q⟩,fe.mpr ⟨c,e⟩,Nat.max_le.mpr ⟨d,f⟩⟩
theorem il(k:a8 n v):∀x,VR μ h v x->Rd h n x (gB v):=by
 induction k with
 |int n i=>exactλx r=>VR.fm r λt=>⟨⟨_,.int i _⟩,rfl,a6 _⟩
 |str n i=>intro x r;refine VR.d5 r λZ q=>?_;exact⟨⟨_,.str i _⟩,q,a6 _⟩
 |tup n l _ b=>intro x r;refine VR.fF r λa vs m Z g va=>?_;refine b1 (mO b va) λe c d=>?_;refine jE e λas p=>?_;exact⟨⟨_,.tuple g rfl rfl p⟩,c,cR d⟩
theorem tM{l:List V}(b:∀v∈l,∀{w m},a8 m w->(PyData.eqv (gB v) (gB w)=true↔v=w)):∀{r m},(∀v∈r,a8 m v)->(PyData.eqvAll (hM l) (hM r)=true↔l=r):=by
 induction l with
 |nil=>intro r m _;cases r with|nil=>exact⟨λZ=>rfl,λZ=>rfl⟩|cons v r=>exact⟨((b3 ·)),((ik ·))⟩
 |cons v l c=>
  intro r m k;cases r with
  |nil=>exact⟨((b3 ·)),((eG ·))⟩
  |cons w r=>have p:=b v fC<|k w fC;have q:=c (λv a=>b v<|fc _ a) λv a=>k v<|fc _ a;exact fe.trans<|(and_congr p q).trans ⟨λh=>h.1▸h.2▸rfl,λh=>b5 h⟩
theorem n9(k:a8 n v):∀{w m},a8 m w->(PyData.eqv (gB v) (gB w)=true↔v=w):=by
 induction k with
 |int n i=>intro w m k;cases k with
  |int _ j=>exact gY.trans ⟨ar _,V.int.inj⟩
  |_=>exact⟨((b3 ·)),(nomatch ·)⟩
 |str n i=>intro w m k;cases k with
  |str _ j=>exact gY.trans ⟨ar _,V.str.inj⟩
  |_=>exact⟨((b3 ·)),(nomatch ·)⟩
 |tup n l _ a=>intro w m k;cases k with
  |tup _ r b=>exact(tM a b).trans ⟨ar _,V.tup.inj⟩
  |_=>exact⟨((b3 ·)),(nomatch ·)⟩
open Classical in
theorem mP(g:a8 n a)(i:a8 m b)(j:VR μ s.heap a x)(k:VR μ s.heap b y)(l:A.units+n<cLine){Q:Bool->Shared->Prop}
  (h:Q (decide<|a=b) s):wpAny (model prog w) A (eqBool x y) Q E s:=by
 refine b1 (il g x j) λo c d=>?_;refine jE o λas p=>?_;refine b1 (il i y k) λr e f=>?_;refine jE r λbs q=>?_;have z:PyData.eqv (gB a) (gB b)=decide (a=b):=iM.mpr<|(n9 g i).trans h8.symm;rw[←z] at h;exact SeqAt.eqAt_reads _ _ A s x y as bs p q c e (b0 (bz (ah (Nat.min_le_left _ _) d) _) l) prog w E Q h
open Classical in
noncomputable def qv(prog:Program)(w:World)(μ:Lay):HeapKind prog w V where
 is:=λh v a=>a8 7 v/\VR μ h v (.ref a)
 hash:=b7 w
 draws:=λv=>(iQ w v).2
 room:=λA=>A.units+20<cLine
 inj:=λc g=>VR.inj c.1 _ _ _ g.1 c.2 g.2
 keeps:=λ{h B k a d o es ep} x m hd hs=>⟨x.1,x.2.move ⟨λZ Z e=>e,λb o' e Z i=>(hs.2 b λq=>by obtain rfl:=aT<|m.symm.trans<|q▸e;clear m e;cases i<;>cases hd).trans e,λZ Z Z f Z=>f⟩⟩
 pyHash:=λ{A E s k a Q} l j h=>qt j.1 prog w E _ A s Q j.2 (b0 (bz af _) l) h
 eqBool:=λl c g h=>mP c.1 g.1 c.2 g.2 (b0 (bz af _) l) h
 quiet:=λ{A E s k a Q} j h=>qu (j.1.mono af) prog w E _ A s Q j.2 h
end
open Classical in
noncomputable def aW:List (V×V)->V->Option V
 |[],_=>none
 |e::r,k=>if e.1=k then some e.2 else aW r k
open Classical in
noncomputable def bD:List (V×V)->V->V->List (V×V)
 |[],k,v=>[(k,v)]
 |e::r,k,v=>if e.1=k then(k,v)::r else e::bD r k v
open Classical in
noncomputable def iU:List (V×V)->V->List (V×V)
 |[],_=>[]
 |e::r,k=>if e.1=k then r else e::iU r k
inductive fH(es:List (V×V))(k:V):Option Nat->Prop
 |no:aW es k=none->k∉es.map (·.1)->(∀v,bD es k v=es++[(k,v)])->fH es k none
 |at(j:Nat) (v:V):es[j]? =some (k,v)->aW es k=some v->(∀w,bD es k w=es.set j (k,w))->iU es k=es.eraseIdx j->fH es k (some j)
theorem fH.qw{es:List (V×V)}{k:V}(h:k∉es.map (·.1)):fH es k none:=by
 induction es with
 |nil=>exact .no rfl h λZ=>rfl
 |cons e r d=>
  have ne:¬e.1=k:=λq=>h<|q▸fC;cases d λq=>h (fc _ q) with|no a b c=>
  exact .no ((ay ne).trans a) h λv=>(ay ne).trans<|ar _<|c v
theorem fH.here(e:V×V)(r:List (V×V)):fH (e::r) e.1 (some 0):= .at 0 e.2 rfl (az rfl) (λZ=>az rfl) (az rfl)
theorem fH.next{e:V×V}{r:List (V×V)}{k:V}{j:Nat}(ne:¬e.1=k)(h:fH r k (some j)):fH (e::r) k (some (j+1)):=by cases h with|«at» _ v a b c d=>exact .at (j+1) v a ((ay ne).trans b) (λw=>(ay ne).trans<|ar _<|c w) ((ay ne).trans<|ar _ d)
theorem fH.zx{es:List (V×V)}{k v:V}{j:Nat}(nd:(es.map (·.1)).Nodup)(h:es[j]? =some (k,v)):fH es k (some j):=by
 induction es generalizing j with
 |nil=>exact a4 h
 |cons e r a=>
  cases j with
  |zero=>clear nd;cases h;exact .here _ _
  |succ j=>have nd:=gX.mp nd;exact .next (λq=>nd.1<|bS.mpr ⟨_,bI h,q.symm⟩)<|a nd.2 h
section
variable{S:aN}{μ:Lay}{h B:Heap}{u:ai}{s:Shared}{A:Around}{E:Value->Shared->Prop}{prog:Program}{w:World}{kk:KK}{es:List (V×V)}{l:List DictEntry}{k v:V}{x y:Value}{j:Nat}
theorem cb.sz(r:cb w kk μ h es l):l.length=es.length:=cb.rec (motive:=λes l Z=>l.length=es.length) rfl (λZ Z Z Z Z Z Z Z Z Z e=>ar Nat.succ e) r
theorem cb.g6{ents:Array DictEntry}(r:cb w kk μ h es ents.toList):ents.size=es.length:=r.sz
theorem cb.mem(r:cb w kk μ h es l){e:DictEntry}(m:e∈l):∃a,bK kk a/\VR μ h a e.key/\e.hash=b7 w a:=by
 induction r with
 |nil=>exact bw m
 |cons a v x y es l p _ q _ b=>
  cases m with
  |head=>exact⟨a,q,p,rfl⟩
  |tail _ m=>exact b m
theorem cb.get(r:cb w kk μ h es l)(e:es[j]? =some (k,v)):∃x y,l[j]? =some ⟨b7 w k,x,y⟩/\VR μ h k x/\VR μ h v y:=by
 induction r generalizing j with
 |nil=>exact a4 e
 |cons a v' x y es l p q _ _ b=>cases j with
  |zero=>cases e;exact⟨x,y,rfl,p,q⟩
  |succ j=>exact b e
theorem cb.mQ(r:cb w kk μ h es l)(e:es[j]? =some (k,v)):bK kk k:=by
 induction r generalizing j with
 |nil=>exact a4 e
 |cons a v' x y es l _ _ c _ b=>cases j with
  |zero=>cases e;exact c
  |succ j=>exact b e
theorem cb.set(r:cb w kk μ h es l)(e:es[j]? =some (k,v)){v':V}(b:VR μ h v' y):cb w kk μ h (es.set j (k,v')) (l.modify j λe=>{e with val:=y}):=by
 induction r generalizing j with
 |nil=>exact a4 e
 |cons a f x g es l p q c _ d=>cases j with
  |zero=>clear q;cases e;exact .cons _ _ _ _ _ _ p b c ‹_›
  |succ j=>exact Y (List.modify_succ_cons ..)<|.cons _ _ _ _ _ _ p q c<|d e
theorem cb.push(r:cb w kk μ h es l)(b:VR μ h k x)(d:VR μ h v y)(c:bK kk k):cb w kk μ h (es++[(k,v)]) (l++[⟨b7 w k,x,y⟩]):=by
 induction r with
 |nil=>exact .cons _ _ _ _ _ _ b d c .nil
 |cons a f x g es l p q c' _ e=>exact .cons _ _ _ _ _ _ p q c' e
theorem cb.erase(r:cb w kk μ h es l)(j:Nat):cb w kk μ h (es.eraseIdx j) (l.eraseIdx j):=by
 induction r generalizing j with
 |nil=>exact .nil
 |cons a d x e es l p q c r b=>cases j with
  |zero=>exact r
  |succ j=>exact .cons _ _ _ _ _ _ p q c<|b j
theorem zy(nd:(es.map (·.1)).Nodup)(e:es[j]? =some (k,v)){w:V}:((es.set j (k,w)).map (·.1)).Nodup:=by
 have q:(es.set j (k,w)).map (·.1)=es.map (·.1):=by
  refine Y List.map_set<|ic λi=>?_;by_cases a:j=i
  .subst a;refine Y b9<|Y e<|Y (gU (by rw[aV];exact(cN.mp e).1)) ?_;rfl
  .exact Y (hB a) rfl
 exact Y q nd
theorem zz(nd:(es.map (·.1)).Nodup)(e:k∉es.map (·.1)){v:V}:((es++[(k,v)]).map (·.1)).Nodup:=by exact Y dT<|List.nodup_append.mpr ⟨nd,List.pairwise_singleton ..,λa c b d q=>e (by rw[←show a=k from q.trans<|a3.mp d];exact c)⟩
theorem zA(nd:(es.map (·.1)).Nodup)(j:Nat):((es.eraseIdx j).map (·.1)).Nodup:=nd.sublist<|(List.eraseIdx_sublist es j).map _
theorem tN{p:Value->Bool}(r:cb w kk μ h es l)(nd:(es.map (·.1)).Nodup)(hp:∀a x,bK kk a->VR μ h a x->(p x=true↔a=k)):fH es k (l.findIdx? λe=>p e.key):=by
 induction r with
 |nil=>exact .qw ((bw ·))
 |cons a v x y es l q _ c _ f=>
  have g:=gX.mp nd;refine Y List.findIdx?_cons ?_;by_cases e:p x=true
  .exact Y (az e)<|Y ((hp a x c q).mp e).symm<|.here _ _
  .have ne:¬a=k:=λz=>e ((hp a x c q).mpr z);refine Y (ay e) ?_;have z:=f g.2;cases d:l.findIdx? λe=>p e.key with
   |none=>rw[d] at z;cases z with|no a b c=>exact .qw λm=>(ba.mp m).elim (λq=>ne q.symm) b
   |some j=>rw[d] at z;exact z.next ne
open Classical in
theorem zB(r:cb w .t μ h es l):∃xs:List (V×Addr×Value),l=xs.map (entryOfKey (qv prog w μ))/\xs.map (·.1)=es.map (·.1)/\∀q∈xs,(qv prog w μ).is h q.1 q.2.1:=by
 induction r with
 |nil=>exact⟨[],rfl,rfl,(λZ=>bw)⟩
 |cons a v x y es l p _ c _ d=>
  refine bE d λxs e i j=>?_;cases c with|t l' k=>
  refine VR.fF p λb vs n f g va=>?_;exact⟨(.tup l',b,y)::xs,ar _ e,ar _ i,List.forall_mem_cons.mpr ⟨⟨k,.tup _ _ _ _ f g va⟩,j⟩⟩
theorem tO(p:DictEntry->Bool)(a:Array DictEntry):a.findIdx? p=a.toList.findIdx? p:=by obtain⟨l⟩:=a;exact List.findIdx?_toArray ..
open Classical in
theorem tP{d:Addr}{ents:Array DictEntry}{ep:Nat}{Q:Option Nat->Shared->Prop}(hd:s.heap.get? d=some (cW ents ep))
  (r:cb w kk μ s.heap es ents.toList) (nd:(es.map (·.1)).Nodup) (ko:bK kk k) (u:VR μ s.heap k x) (B:A.units+20<cLine) (l:∀r,fH es k r->Q r s):wpAny (model prog w) A (dictFind d x<|b7 w k) Q E s:=by
 have hm:∀e∈ents,∃a,bK kk a/\VR μ s.heap a e.key/\e.hash=b7 w a:=λe h=>r.mem<|Array.mem_toList_iff.mpr h;cases ko with
 |i n=>
  refine VR.fm u λt=>?_
  refine wpAny_dictFind_of (knd:=PySem.intKind prog w) (k:=n) (o:=cW ents ep) (d1 n) hd rfl (λe h=>?_) (l _ (by
   exact Y (tO ..) (tN (p:=Value.isInt n) r nd λa x c q=>by cases c with|i m=>refine VR.fm q λt=>?_;exact gY.trans ⟨ar _,V.int.inj⟩)))
  refine bE (hm e h) λa c q z=>?_;cases c with|i m=>
  refine⟨m,?_,z⟩;generalize e.key=C at q;cases q;exact d1 m
 |s n=>
  refine VR.d5 u λt Z=>?_
  refine wpAny_dictFind_of (knd:=PySem.strKind prog w) (k:=n) (o:=cW ents ep) (d1 n) hd rfl (λe h=>?_) (l _ (by
   exact Y (tO ..) (tN (p:=Value.isStrOf n) r nd λa x c q=>by cases c with|s m=>cases q with|str Z t=>exact gY.trans ⟨ar _,V.str.inj⟩)))
  refine bE (hm e h) λa c q z=>?_;cases c with|s m=>
  refine⟨m,?_,z⟩;generalize e.key=C at q;cases q;exact d1 m
 |t q D=>
  refine bE (zB (prog:=prog) r) λxs F y G=>?_;refine VR.fF u λb vs n f g va=>?_;refine wpAny_dictFind_heap (knd:=qv prog w μ) (k:= .tup q) (o:=cW ents ep) (xs:=xs) B ⟨D,.tup _ _ _ _ f g va⟩ hd rfl F G (y.symm▸nd) (λI=>l _<|.qw λm=>?_) λj p J=>l _ ?_
  .rw[←y] at m;refine ak (bS.mp m) λz hz e=>?_;refine jE (fy.mp hz) λi hi=>?_;exact I i z.2<|e▸hi
  .have e:(es.map (·.1))[j]? =some (.tup q):=by refine Y y.symm<|Y b9<|Y J ?_;rfl
   rw[b9] at e;refine ak (dY.mp e) λz hz e=>?_;exact .zx nd (v:=z.2)<|e▸hz
structure DF(S:aN)(μ:Lay)(s:Shared)(A:Around)(d:Addr)(kk:KK)(es:List (V×V))(ents:Array DictEntry)(ep:Nat)(k:V)(x:Value):Prop where
 g:s.heap.get? d=some (cW ents ep)
 va:cb S.w kk μ s.heap es ents.toList
 nd:(es.map (·.1)).Nodup
 ko:bK kk k
 rk:VR μ s.heap k x
 un:A.units+40<cLine
variable{d:Addr}{ents:Array DictEntry}{ep:Nat}
theorem DF.hash(D:DF S μ s A d kk es ents ep k x){Q:Int->Shared->Prop}(a:∀t,Q (b7 S.w k) {s with toks:=t}):wpAny (model S.prog S.w) A (pyHash x) Q E s:=qt D.ko.key S.prog S.w E x A s _ D.rk (b0 (bz af _) D.un) (a _)
theorem DF.find(D:DF S μ s A d kk es ents ep k x){Q:Option Nat->Shared->Prop}{t:Nat}(a:∀r,fH es k r->Q r {s with toks:=t}):wpAny (model S.prog S.w) A (dictFind d x (b7 S.w k)) Q E {s with toks:=t}:=tP (s:={s with toks:=t}) D.g D.va D.nd D.ko D.rk (b0 (bz af _) D.un) a
theorem DF.get(D:DF S μ s A d kk es ents ep k x){Q:Option Value->Shared->Prop}(a:∀t,aW es k=none->Q none {s with toks:=t})(b:∀t v y,aW es k=some v->VR μ s.heap v y->Q (some y) {s with toks:=t}):
  wpAny (model S.prog S.w) A (dictGet d x) Q E s:=by
 unfold dictGet
 try with_reducible refine eD ?_
 refine ae<|D.hash λt=>ae<|D.find λr f=>?_;cases f with
 |no e=>exact aq<|a _ e
 |«at» j v e c=>refine b6 (D.va.get e) λi y h Z g2=>?_;refine ae<|fQ (s:={s with toks:=t}) D.g rfl ?_;exact Y cE.symm<|Y h<|aq<|b _ v y c g2
theorem DF.put(D:DF S μ s A d kk es ents ep k x)(st:St S μ u s.heap){i:Nat}(e:μ[i]? =some (d,d)){f:Obj->Obj}{es':List (V×V)}{ents':Array DictEntry}{ep':Nat}(hf:(s.heap.update d f).get? d=some (cW ents' ep'))
  (r:Move μ s.heap μ (s.heap.update d f)->cb S.w kk μ (s.heap.update d f) es' ents'.toList) (nd:(es'.map (·.1)).Nodup) (t:Nat):St S μ (u.set i<|.dict kk es') (s.heap.update d f)/\Step μ s μ {s with heap:=s.heap.update d f,toks:=t}:=by
 have hs:Heap.SameBut d s.heap (s.heap.update d f):=kB ..;exact qq st e (λc o n Z q=>(hs.2 c n).trans q) hs.1 t λa=> .dict kk es' ents' ep' hf (r a) nd rfl
theorem DF.push(D:DF S μ s A d kk es ents ep k x)(st:St S μ u s.heap){i:Nat}(e:μ[i]? =some (d,d))(b:VR μ s.heap v y)(f:fH es k none)(t:Nat):
  St S μ (u.set i<|.dict kk<|bD es k v) (s.heap.update d (Obj.mapDictKeys (·.push ⟨b7 S.w k,x,y⟩)))/\Step μ s μ {s with heap:=s.heap.update d (Obj.mapDictKeys (·.push ⟨b7 S.w k,x,y⟩)),toks:=t}:=by
 cases f with|no Z c h=>
 exact Y (h ..)<|D.put st e (ents':=ents.push ⟨b7 S.w k,x,y⟩) (ep':=ep+1) (h6 _ D.g rfl) (λa=>by rw[jt];exact(D.va.move a).push (D.rk.move a) (b.move a) D.ko) (zz D.nd c) t
theorem DF.set(D:DF S μ s A d kk es ents ep k x)(st:St S μ u s.heap){i:Nat}(e:μ[i]? =some (d,d))(l:VR μ s.heap v y)(hz:es.length<=aF){Q:Unit->Shared->Prop}
  (m:∀a,St S μ (u.set i<|.dict kk<|bD es k v) a.heap->Step μ s μ a->(∀b o,b≠d->s.heap.get? b=some o->a.heap.get? b=some o)->Q () a):wpAny (model S.prog S.w) A (dictSet d x y) Q E s:=by
 have B:ents.size<=sizeLine:=ah (bF D.va.g6)<|eH hz;unfold dictSet
 try with_reducible refine eD ?_
 refine ae<|D.hash λt=>?_;unfold dictSetHashed
 try with_reducible refine eD ?_
 refine ae<|D.find λr f=>?_;cases f with
 |no c p h=>have z:=D.push st e l (.no c p h) t;exact e5<|wpAny_updateDictKeys (s:={s with toks:=t}) (o:=cW ents ep) D.g rfl (m _ z.1 z.2 λb o n e=>(ky _ _<|cO n).trans e) (hz:=B)
 |«at» j v' c p h C=>refine e5<|ae<|wpAny_updateDict (s:={s with toks:=t}) (o:=cW ents ep) D.g rfl<|wpAny_point ?_;have z:=D.put st e (ents':=ents.modify j λe=>{e with val:=y}) (ep':=ep) (es':=bD es k v) (f:=Obj.mapDict (·.modify j λe=>{e with val:=y})) (h6 _ D.g rfl) (λq=>Y (h ..)<|Y Array.toList_modify<|(D.va.move q).set c<|l.move q) (h v▸zy D.nd c) t;exact m _ z.1 z.2 λb o n e=>(ky _ _<|cO n).trans e
theorem DF.zC(D:DF S μ s A d kk es ents ep k x)(st:St S μ u s.heap){i:Nat}(e:μ[i]? =some (d,d))(m:VR μ s.heap v y)(hz:es.length<=aF){Q:Value->Shared->Prop}
  (n:∀t v' b,aW es k=some v'->VR μ s.heap v' b->Q b {s with toks:=t})
  (p:aW es k=none->∀c,St S μ (u.set i<|.dict kk<|bD es k v) c.heap->Step μ s μ c->Q y c):wpAny (model S.prog S.w) A (dictSetDefault d x y) Q E s:=by
 have q:ents.size<=sizeLine:=ah (bF D.va.g6)<|eH hz;unfold dictSetDefault
 try with_reducible refine eD ?_
 refine ae<|D.hash λt=>ae<|D.find λr f=>?_;cases f with
 |no a h l=>have z:=D.push st e m (.no a h l) t;exact e5<|ae<|wpAny_updateDictKeys (s:={s with toks:=t}) (o:=cW ents ep) D.g rfl (aq<|p a _ z.1 z.2) (hz:=q)
 |«at» j v' a h l C=>refine b6 (D.va.get a) λF b B Z g2=>?_;refine ae<|fQ (s:={s with toks:=t}) D.g rfl ?_;exact Y cE.symm<|Y B<|e5<|aq<|n _ _ _ h g2
theorem DF.take(D:DF S μ s A d kk es ents ep k x)(st:St S μ u s.heap){i:Nat}(e:μ[i]? =some (d,d))(c:aW es k=some v)(hz:es.length<=aF){Q:Option DictEntry->Shared->Prop}
  (m:∀e a,St S μ (u.set i<|.dict kk<|iU es k) a.heap->Step μ s μ a->VR μ a.heap v e.val->Q (some e) a):wpAny (model S.prog S.w) A (Builtin.Dict.takeOut d x) Q E s:=by
 have n:ents.size<=sizeLine:=ah (bF D.va.g6)<|eH hz;unfold Builtin.Dict.takeOut
 try with_reducible refine eD ?_
 refine ae<|D.hash λt=>ae<|D.find λr f=>?_;cases f with
 |no b=>exact(iP<|c.symm.trans b)
 |«at» j v' b p C h=>
  obtain rfl:=aT<|c.symm.trans p;refine b6 (D.va.get b) λF G q Z g2=>?_;refine ae<|fQ (s:={s with toks:=t}) D.g rfl ?_
  refine Y cE.symm<|Y q ?_;have l:(ents.eraseIdxIfInBounds j).toList=ents.toList.eraseIdx j:=Array.toList_eraseIdxIfInBounds
  have y:(ents.eraseIdxIfInBounds j).size<=ents.size+1:=by exact Y cZ.symm<|Y l<|gp (List.eraseIdx_sublist ents.toList j).length_le
  have z:=D.put st e (ents':=ents.eraseIdxIfInBounds j) (ep':=ep+1) (es':=iU es k) (f:=Obj.mapDictKeys (·.eraseIdxIfInBounds j)) (h6 _ D.g rfl) (λB=>Y h<|Y l<|(D.va.move B).erase j) (h▸zA D.nd j) t;exact ae<|wpAny_updateDictKeys (s:={s with toks:=t}) (o:=cW ents ep) D.g rfl (aq<|m _ _ z.1 z.2<|z.2.vr g2) (hz:=n) (hf:=y)
end
noncomputable def kM(i:V)(n:Nat)(k:Nat->Prop):Prop:=dv i λj=>0<=j/\j.toNat<n/\n<=1000000/\k j.toNat
noncomputable def qx(a:ai)(o i:V)(P:V->Prop):Prop:=(gA o λl=>kM i l.length λj=>∃v,l[j]? =some v/\P v)\/(kJ o λx=>kM i x.cps.size λj=>∃c,x.cps[j]? =some c/\P (.str ⟨#[c]⟩))\/
 (dj a o λZ l=>kM i l.length λj=>∃v,l[j]? =some v/\P v)\/eV a o λZ kk es=>bK kk i/\∃v,aW es i=some v/\P v
noncomputable def tQ(a:ai)(o i v:V)(P:ai->Prop):Prop:=(dj a o λr l=>kM i l.length λj=>P<|a.set r<|.list<|l.set j v)\/eV a o λr kk es=>bK kk i/\es.length<=aF/\P (a.set r<|.dict kk<|bD es i v)
section
variable{S:aN}{μ:Lay}{h D:Heap}{B C:ai}{s:Shared}{A:Around}{E:Value->Shared->Prop}{o i v:V}{x y z:Value}
theorem K3{j:Int}(h:0<=j):j=(j.toNat:Int):=(Int.toNat_of_nonneg h).symm
theorem tR{k:Int}{n:Nat}(a:0<=k)(hn:k.toNat<n):seqIndex? k n=some k.toNat:=by have b:(if k<0 then k+(n:Int) else k)=k:=ay<|Int.not_lt.mpr a;refine(?_:(if(decide (0<=(if k<0 then k+(n:Int) else k))&&decide ((if k<0 then k+(n:Int) else k)<(n:Int)))=true then some (if k<0 then k+(n:Int) else k).toNat else none)=_);exact Y b<|Y (az<|fe.mpr ⟨bJ a,bJ<|(Int.toNat_lt a).mp hn⟩) rfl
theorem oa{j:Int}{n m:Nat}(a:0<=j)(h:j.toNat<n)(hn:n<=1000000)(hm:1000000<=m):j<(m:Int):=(Int.toNat_lt a).mp<|bt h<|ah hn hm
theorem A1{k m:Nat}(h:A.units+k<cLine)(e:m+1<=k:=by decide):A.in1.units+m<cLine:=b0 (by show A.units+1+m<=_;rw[dD,d3 1];exact bz e _) h
theorem Au{k m:Nat}(h:A.units+k<cLine)(e:m<=k:=by decide):A.units+m<cLine:=b0 (bz e _) h
noncomputable def tS(s:Shared)(x:Value):Prop:=∃T id,s.TypeIs x T/\typeLookup (.type T) "__getitem__"=pure (some<|.builtin id)
noncomputable def mR(S:aN)(μ:Lay)(B:ai)(s:Shared)(A:Around)(P:V->Prop)(y x:Value):Prop:=tS s x/\wpAny (model S.prog S.w) A (getItem x y) (Rs S μ s λv C=>C=B/\P v) bq s
theorem zD{x:Str}(hs:PyData.strOk x=true){j c:Nat}(a:x.cps[j]? =some c):PyData.strOk ⟨#[c]⟩=true:=by
 refine jE (gT.mp a) λhi b=>?_;have q:=Array.all_eq_true.mp hs j hi;rw[b] at q
 exact Array.all_eq_true.mpr λi hi=>by have z:i=0:=Nat.lt_one_iff.mp hi;subst z;exact q
theorem zE{P:V->Prop}(st:St S μ B s.heap)(f:VR μ s.heap o x)(g:VR μ s.heap i y)(e:gA o λl=>kM i l.length λj=>∃v,l[j]? =some v/\P v):mR S μ B s A P y x:=
 hL f e λl a vs n Z ga va b=>de g b λj u b=>⟨⟨_,_,⟨_,ga,rfl⟩,F.slot_tuple_getitem.lookup⟩,by
  refine dK b λc d h q=>?_;refine ak q λv r p=>?_;refine ak (va.get r) λz hz t=>?_;exact PySem.P.getItem_tuple (k:=j.toNat) (y:=z) ga (eF af c) (oa (m:=2^63) c d h af) (tR c (va.sz.symm▸d)) (Y cE.symm hz) ⟨μ,v,B,st,.refl _ _,t,rfl,p⟩⟩
theorem zF{P:V->Prop}(st:St S μ B s.heap)(h:VR μ s.heap o x)(k:VR μ s.heap i y)(e:kJ o λx=>kM i x.cps.size λj=>∃c,x.cps[j]? =some c/\P (.str ⟨#[c]⟩)):mR S μ B s A P y x:=
 mL h e λd t hs a=>de k a λj u a=>⟨⟨_,_,typeIs_str s d t,F.slot_str_getitem.lookup⟩,by
  refine dK a λb f l n=>?_;refine ak n λc g p=>?_;refine PySem.P.getItem_str (c:=c) (Bool.or_eq_false_iff.mpr ⟨dd<|Int.not_lt.mpr<|eF af b,dd<|Int.not_le.mpr<|oa (m:=2^63) b f l af⟩) ?_ ⟨μ,_,B,st,.toks _,.str _ _<|zD hs g,rfl,p⟩;exact Y (tR b (show j.toNat<d.length from f)) g⟩
theorem zG{P:V->Prop}(st:St S μ B s.heap)(d:VR μ s.heap o x)(f:VR μ s.heap i y)(e:dj B o λZ l=>kM i l.length λj=>∃v,l[j]? =some v/\P v):mR S μ B s A P y x:=
 dU st d e λZ a l vs n Z Z Z ga va b=>de f b λj u b=>⟨⟨_,_,⟨_,ga,rfl⟩,F.slot_list_getitem.lookup⟩,by
  refine dK b λc g h k=>?_;refine ak k λv q p=>?_;refine ak (va.get q) λz hz r=>?_;exact wpAny_getItem_list ⟨_,ga,rfl,n,rfl⟩ c (oa (m:=2^63) c g h af) (Y cE.symm hz) ⟨μ,v,B,st,.refl _ _,r,rfl,p⟩⟩
theorem zH{P:V->Prop}(st:St S μ B s.heap)(f:VR μ s.heap o x)(g:VR μ s.heap i y)(h:A.units+50<cLine)(e:eV B o λZ kk es=>bK kk i/\∃v,aW es i=some v/\P v):mR S μ B s A P y x:=
 fW st f e λZ d kk es ents ep Z q Z b j nd k=>by
  refine jA k λko l=>?_;refine ak l λv c p=>?_;have a:s.TypeIs (.ref d) "dict":=⟨_,b,rfl⟩;refine⟨⟨_,_,a,slot_dict_getitem.lookup⟩,?_⟩;unfold getItem
  try with_reducible refine eD ?_
  refine ae<|wpAny_sequenceKey a af ?_
  refine ae (gk (name:=Str.ofString "__getitem__") a slot_dict_getitem
   (da slot_dict_getitem a entry_dict_getitem ?_ (args_dict_getitem _ _)))
  refine(?_:wpAny _ _ (dictGet d y>>=_) _ _ s);refine ae<|DF.get (A:=A.in1) ⟨b,j,nd,ko,g,A1 h⟩ (λt hn=>(iP<|c.symm.trans hn)) λt v' m n r=>?_;obtain rfl:=aT<|c.symm.trans n;exact aq ⟨m,rfl,aq ⟨μ,v,B,st,.toks _,r,rfl,p⟩⟩
theorem zI{P:V->Prop}(st:St S μ B s.heap)(a:VR μ s.heap o x)(b:VR μ s.heap i y)(c:A.units+50<cLine)(e:qx B o i P):mR S μ B s A P y x:=by
 rcases e with e|e|e|e
 .exact zE st a b e
 .exact zF st a b e
 .exact zG st a b e
 .exact zH st a b c e
theorem aA.set{l:List V}{xs:List Value}(r:aA μ h l xs)(i:Nat)(q:VR μ h v x):aA μ h (l.set i v) (xs.set i x):=by
 induction l generalizing xs i with
 |nil=>cases r;exact .nil
 |cons w l b=>refine aA.jD r λx xs a r=>?_;cases i with|zero=>exact .cons _ _ _ _ q r|succ i=>exact .cons _ _ _ _ a<|b r i
theorem aA.eraseIdx{l:List V}{xs:List Value}(r:aA μ h l xs)(i:Nat):aA μ h (l.eraseIdx i) (xs.eraseIdx i):=by
 induction l generalizing xs i with
 |nil=>cases r;exact .nil
 |cons w l b=>refine aA.jD r λx xs a r=>?_;cases i with|zero=>exact r|succ i=>exact .cons _ _ _ _ a<|b r i
theorem oc(st:St S μ B s.heap){i:Nat}{a:Addr}{l':List V}{vs:Array Value}{n:Nat}(b:μ[i]? =some (a,a))(g:s.heap.get? a=some (dM vs n))(f:Array Value->Array Value)
  (r:Move μ s.heap μ (s.heap.update a<|Obj.mapSeq f)->aA μ (s.heap.update a<|Obj.mapSeq f) l' (f vs).toList) (t:Nat:=s.toks):
  St S μ (B.set i<|.list l') (s.heap.update a<|Obj.mapSeq f)/\Step μ s μ {s with heap:=s.heap.update a<|Obj.mapSeq f,toks:=t}:=by
 have hs:Heap.SameBut a s.heap (s.heap.update a<|Obj.mapSeq f):=kB ..;exact qq st b (λc o n Z q=>(hs.2 c n).trans q) hs.1 t λd=> .list l' (f vs) _ (h6 _ g rfl) (r d) rfl
theorem zJ(st:St S μ B s.heap)(G:VR μ s.heap o x)(I:VR μ s.heap i y)(J:VR μ s.heap v z)(N:A.units+50<cLine){P:ai->Prop}(e:tQ B o i v P)
  {Q:Unit->Shared->Prop} (D:∀C h,St S μ C h.heap->Step μ s μ h->P C->Q () h):wpAny (model S.prog S.w) A (setItem x y z) Q E s:=by
 rcases e with e|e
 .refine dU st G e λr a l vs n Z F Z g va c=>de I c λj u c=>?_;refine dK c λk t O p=>?_;have f:s.TypeIs (.ref a) "list":=⟨_,g,rfl⟩;have K:=oa (m:=2^63) k t O af;unfold setItem
  try with_reducible refine eD ?_
  first|refine ae (aq ?_)|skip
  refine ae<|wpAny_sequenceKey f af ?_
  refine ae (gk (name:=Str.ofString "__setitem__") f slot_list_setitem
   (da slot_list_setitem f entry_list_setitem ?_ (args_list_setitem _ _ _)))
  refine(?_:wpAny _ _ (Builtin.List.listSubscript? (.int j u)>>=_) _ _ s);refine ae<|wpAny_listSubscript_int (fitsIndex_of k K) ?_;refine jE (Int.eq_ofNat_of_zero_le k) λj R=>?_;clear c k K;obtain rfl:=R;have t:j<l.length:=t;refine ae<|ae<|wpAny_seqItemAt g rfl<|aq ?_;refine Y (dI (show j<vs.size from va.sz▸t)) ?_
  have q:=oc st F g (·.setIfInBounds j z) (l':=l.set j v) λL=>by exact Y Array.toList_setIfInBounds<|(va.move L).set j<|J.move L
  refine ae<|wpAny_setSeqItemAt g rfl ?_
  first
   |exact bO<|aq ⟨.none,rfl,aq<|D _ _ q.1 q.2 p⟩
   |exact aq ⟨.none,rfl,aq<|D _ _ q.1 q.2 p⟩
 .refine fW st G e λr d kk es ents ep Z F Z M T nd c=>?_;have f:s.TypeIs (.ref d) "dict":=⟨_,M,rfl⟩;unfold setItem
  try with_reducible refine eD ?_
  refine ae<|wpAny_sequenceKey f af ?_
  refine ae (gk (name:=Str.ofString "__setitem__") f slot_dict_setitem
   (da slot_dict_setitem f entry_dict_setitem ?_ (args_dict_setitem _ _ _)))
  refine ae<|jq f ?_;refine(?_:wpAny _ _ (dictSet d y z>>=_) _ _ s);exact ae<|DF.set (A:=A.in1) ⟨M,T,nd,c.1,I,A1 N⟩ st F J c.2.1 λh a b Z=>aq ⟨.none,rfl,aq<|D _ h a b c.2.2⟩
end
open Classical in
noncomputable def oe(c:ai)(a b:V)(P:Bool->Prop):Prop:=(a8 40 a/\a8 40 b/\P (decide<|a=b))\/(lK a λx=>lK b λy=>P<|x==y)\/
 dj c a λZ l=>dj c b λZ r=>(∀v∈l,a8 40 v)/\(∀v∈r,a8 40 v)/\P (decide<|l=r)
noncomputable def jK(es fs:List (V×V)):Prop:=es.length=fs.length/\∀k v,(k,v)∈es->aW fs k=some v
open Classical in
noncomputable def tT(c:ai)(a b:V)(P:Bool->Prop):Prop:=oe c a b (λr=>P !r)\/(a= .none/\eV c b λZ Z Z=>P true)\/
 eV c a λZ kk es=>eV c b λZ k2 fs=>kk=k2/\(∀e∈es,a8 7 e.2)/\(∀e∈fs,a8 7 e.2)/\P !decide (jK es fs)
open Classical in
noncomputable def qy(b:ai)(a c:V)(P:Bool->Prop):Prop:=(a8 30 a/\gA c λl=>(∀v∈l,a8 30 v)/\P (decide<|a∈l))\/(a8 30 a/\dj b c λZ l=>(∀v∈l,a8 30 v)/\P (decide<|a∈l))\/
 eV b c λZ kk es=>bK kk a/\P (aW es a).isSome
open Classical in
noncomputable def qz(c:ai)(a b:V)(P:Bool->Prop):Prop:=(b= .none/\P (decide<|a= .none))\/mK c a λi Z Z=>lL b λj=>P<|decide<|i=j
noncomputable def qA(op:CmpOp)(c:ai)(a b:V)(P:Bool->Prop):Prop:=match op with
 | .Eq=>oe c a b P
 | .NotEq=>tT c a b P
 | .Lt=>dv a λx=>dv b λy=>P<|decide<|x<y
 | .Gt=>dv a λx=>dv b λy=>P<|decide<|x>y
 | .GtE=>dv a λx=>dv b λy=>P<|decide<|x>=y
 | .Is=>qz c a b P
 | .IsNot=>qz c a b λr=>P !r
 | .In=>qy c a b P
 | .NotIn=>qy c a b λr=>P !r
 |_=>False
section
variable{S:aN}{μ:Lay}{h B:Heap}{u C:ai}{s:Shared}{A:Around}{E:Value->Shared->Prop}{a b v:V}{x y z:Value}{n m:Nat}{P:Bool->Prop}{Q:Value->Shared->Prop}
inductive tU(h:Heap)(A:Around)(P:Bool->Prop)(x y:Value):Prop
 |mk (d e:PyData) (as bs:List Addr):Reads h x d as->Reads h y e bs->d.canLay0=true->e.canLay0=true->A.units+min d.depth e.depth<cLine->P (PyData.eqv d e)->tU h A P x y
theorem qB{k i j:Nat}(h:A.units+k<cLine)(e:i<=k):A.units+min i j<cLine:=b0 (bz (ah (Nat.min_le_left _ _) e) _) h
open Classical in
theorem eq_data(st:St S μ u s.heap)(h:VR μ s.heap a x)(k:VR μ s.heap b y)(o:A.units+50<cLine)(e:oe u a b P):tU s.heap A P x y:=by
 rcases e with⟨w,B,p⟩|e|e
 .refine b1 (il w x h) λE c d=>?_;refine jE E λas p1=>?_;refine b1 (il B y k) λF e f=>?_;refine jE F λbs q=>?_;exact⟨_,_,as,bs,p1,q,c,e,qB o<|ah d af,(iM.mpr<|(n9 w B).trans h8.symm).symm▸p⟩
 .cases h with
  |bool i=>cases k with
   |bool j=>exact⟨.bool i,.bool j,_,_,.bool _,.bool _,rfl,rfl,qB o<|a6 _,e⟩
   |_=>exact e.elim
  |_=>exact e.elim
 .refine dU st h e λZ a l vs n Z Z Z ga va t=>dU st k t λZ b r ws m Z Z Z G I t=>?_;refine b1 t λC D p=>?_;refine b1 (mO (λv g=>il<|C v g) va) λJ c d=>?_;refine jE J λas p1=>?_;refine b1 (mO (λv g=>il<|D v g) I) λK e f=>?_;refine jE K λbs q=>?_;have z:PyData.eqv (.list<|hM l) (.list<|hM r)=decide (l=r):=iM.mpr<|(tM (λv g=>n9<|C v g) D).trans h8.symm;exact⟨.list<|hM l,.list<|hM r,_,_,.list ga rfl rfl p1,.list G rfl rfl q,c,e,qB o<|ah (cR d) af,Y z p⟩
theorem tV{l:List V}(c:a8 n a)(b:∀v∈l,a8 m v):((hM l).any λy=>PyData.eqv y (gB a))=true↔a∈l:=by
 induction l with
 |nil=>exact⟨((b3 ·)),((bw ·))⟩
 |cons v l d=>show(PyData.eqv (gB v) (gB a)||(hM l).any _)=true↔_;exact Y (propext Bool.or_eq_true_iff)<|Y (propext<|d λv e=>b v<|fc _ e)<|Y (propext<|n9 (b v fC) c)<|Y (propext ba)<|or_congr ⟨Eq.symm,Eq.symm⟩ .rfl
theorem og{d:PyData}{k:Nat}(a:A.units+60<cLine)(e:d.depth<=30):A.units+1+min k d.depth<cLine:=by exact Y (dD ..)<|b0 (bz (ah (bz (ah (Nat.min_le_right _ _) e) 1) af) _) a
theorem St.gy(st:St S μ u h){i:Nat}{a b:Addr}(e:μ[i]? =some (a,b)):(a==sysModules)=false:=lE.mpr λq=>eh _<|bt (q▸S.gy) (st.fresh _<|bI e).1
open Classical in
theorem tW(st:St S μ u s.heap)(l:VR μ s.heap a x)(n:VR μ s.heap b y)(e:qz u a b P){Q:Bool->Shared->Prop}(f:∀r,P r->Q r s):wpAny (model S.prog S.w) A (isSame x y) Q E s:=by
 rcases e with⟨rfl,p⟩|e
 .refine VR.tv n ?_;refine Y (isSame_none ..)<|aq<|f _ ?_;have z:(x==Value.none)=decide (a= .none):=by clear p;cases l with|none=>exact(bJ rfl).symm|_=>exact(dd nofun).symm
  exact Y z p
 .refine n2 st l e λi a b c fs od m Z q G g d hn hf ne Z B=>mM st n B λj a' b' o Z h C t p=>?_;by_cases k:i=j
  .clear Z C;obtain rfl:=k;refine jA (Prod.mk.inj<|aT<|q.symm.trans h) λD Z=>?_;clear t h;obtain rfl:=D;exact wpAny_isSame_ref_self<|f _<|bJ (p:=i=i) rfl▸p
  .have sp:=st.sep i j _ _ q h k;obtain⟨v,F⟩:∃v,s.heap.get? a'=some v:=by cases t<;>exact⟨_,‹s.heap.get? a'=_›⟩
   exact wpAny_isSame_ref_other sp.1 g F (nomatch ·)<|f _<|dd k▸p
theorem tX{kk:KK}{es:List (V×V)}{ents:Array DictEntry}{ep:Nat}{d:Addr}{x:Value}(D:DF S μ s A.in1 d kk es ents ep a x)(e:(d==sysModules)=false){Q:Bool->Shared->Prop}(c:∀t,Q (aW es a).isSome {s with toks:=t}):
  wpAny (model S.prog S.w) A (contains (.ref d) x) Q E s:=by
 have b:s.TypeIs (.ref d) "dict":=⟨_,D.g,rfl⟩;unfold contains
 try with_reducible refine eD ?_
 refine ae<|iL b slot_dict_contains.lookup ?_;refine ck (Y (beq_builtin_none ..) eB) ?_
 refine ae (wpAny_callSpecialUnlessNone?_slot (name:=Str.ofString "__contains__") b slot_dict_contains
  (da slot_dict_contains b entry_dict_contains ?_ (args_dict_contains _ _)))
 show wpAny _ _ (dictGet d x>>=_) _ _ s;refine ae<|D.get (λt hn=>?_) λt v y f r=>?_
 .show wpAny _ _ (Builtin.Dict.pendingKey? d x>>=_) _ _ _;have:=c t;rw[hn] at this;exact ae<|wpAny_pendingKey_other e<|aq ⟨_,rfl,h9 this⟩
 .have:=c t;rw[f] at this;exact aq ⟨_,rfl,h9 this⟩
open Classical in
theorem tY(st:St S μ u s.heap)(o:VR μ s.heap a x)(p:VR μ s.heap b y)(j:A.units+60<cLine)(e:qy u a b P):
  (∀{Q},(∀r t,P r->Q (.bool r) {s with toks:=t})->wpAny (model S.prog S.w) A (compareOp .In x y) Q bq s)/\∀{Q},(∀r t,P r->Q (.bool !r) {s with toks:=t})->wpAny (model S.prog S.w) A (compareOp .NotIn x y) Q bq s:=by
 rcases e with⟨k,e⟩|⟨k,e⟩|e
 .refine hL p e λl b vs n Z m B h=>?_;refine b1 (il k x o) λF c d=>?_;refine jE F λas p1=>?_;refine b1 (mO (λv C=>il<|h.1 v C) B) λG e f=>?_;refine jE G λbs q=>?_;have z:((hM l).any λy=>PyData.eqv y<|gB a)=decide (a∈l):=iM.mpr<|(tV k h.1).trans h8.symm
  exact⟨λi=>SeqAt.in_tuple_reads (.tuple m rfl rfl q) p1 e c (og j d) (z▸i _ _ h.2),
   λi=>SeqAt.notIn_tuple_reads (.tuple m rfl rfl q) p1 e c (og j d) (z▸i _ _ h.2)⟩
 .refine dU st p e λZ b l vs n Z Z Z m B h=>?_;refine b1 (il k x o) λI c d=>?_;refine jE I λas p1=>?_;refine b1 (mO (λv C=>il<|h.1 v C) B) λJ e f=>?_;refine jE J λbs q=>?_;have z:((hM l).any λy=>PyData.eqv y<|gB a)=decide (a∈l):=iM.mpr<|(tV k h.1).trans h8.symm
  exact⟨λi=>SeqAt.in_list_reads (.list m rfl rfl q) p1 e c (og j d) (z▸i _ _ h.2),
   λi=>SeqAt.notIn_list_reads (.list m rfl rfl q) p1 e c (og j d) (z▸i _ _ h.2)⟩
 .refine fW st p e λZ d kk es ents ep Z E Z g va nd h=>?_;have D:DF S μ s A.in1 d kk es ents ep a x:=⟨g,va,nd,h.1,o,A1 j⟩;exact⟨λi=>ae<|tX D (st.gy E) λt=>aq<|i _ t h.2,λi=>ae<|tX D (st.gy E) λt=>aq<|i _ t h.2⟩
end
section
variable{S:aN}{μ:Lay}{h g:Heap}{c o:ai}{s:Shared}{A:Around}{E:Value->Shared->Prop}{a b v:V}{x y z:Value}{n m:Nat}{P:Bool->Prop}
theorem zK{i n x:Nat}{rest:List Nat}(h:x::rest=List.range' i (n-i)):i<n/\x=i/\rest=List.range' (i+1) (n-(i+1)):=by
 cases k:n-i with
 |zero=>rw[k] at h;exact eG h
 |succ m=>
  rw[k,List.range'_succ] at h;injection h with a b
  exact⟨Nat.lt_of_sub_ne_zero<|k▸Nat.succ_ne_zero m,a,Y (Nat.sub_succ ..)<|Y k b⟩
theorem zL{i n:Nat}(hi:i<=n)(h:[]=List.range' i (n-i)):i=n:=by
 cases k:n-i with
 |zero=>exact fi hi<|Nat.sub_eq_zero_iff_le.mp k
 |succ m=>rw[k,List.range'_succ] at h;exact ik h
open Classical in
theorem zM{nm:String}{kk:KK}{es fs:List (V×V)}{ents u:Array DictEntry}{ep fp:Nat}{p q:Addr}{Q:Bool->Shared->Prop}(O:(p==sysModules)=false)(pb:(q==sysModules)=false)
  (c:s.heap.get? p=some (cW ents ep)) (a:cb S.w kk μ s.heap es ents.toList) (g:s.heap.get? q=some (cW u fp)) (l:cb S.w kk μ s.heap fs u.toList) (P:(fs.map (·.1)).Nodup)
  (I:A.units+50<cLine) (R:∀e∈es,a8 7 e.2) (T:∀e∈fs,a8 7 e.2) (h:Q (decide<|jK es fs) s):wpAny (model S.prog S.w) A (Builtin.Dict.samePairs nm p q) Q E s:=by
 unfold Builtin.Dict.samePairs Builtin.Dict.showsAll;refine Y (ay (show¬(p==sysModules)=true by rw[O];exact eB))<|Y (ay (show¬(q==sysModules)=true by rw[pb];exact eB))<|bO<|bO<|ae<|fQ c rfl ?_;refine ae<|fQ g rfl ?_;by_cases m:ents.size=u.size
 case neg=>refine gZ (hG.mpr m) ?_;rw[dd λz=>m<|a.g6.trans<|z.1.trans l.g6.symm] at h;exact e5<|aq h
 refine ck (λz=>hG.mp z m) ?_;refine ae<|jw c rfl<|ae ?_;refine Y (Std.Legacy.Range.forIn_eq_forIn_range' ..) ?_;simp only[Std.Legacy.Range.size,Nat.sub_zero,Nat.add_sub_cancel,Nat.div_one];refine wpAny_forIn_list _ (λrest q n=>n=s/\q=(none,())/\∃i,rest=List.range' i (ents.size-i)/\i<=ents.size/\∀j k v,j<i->es[j]? =some (k,v)->aW fs k=some v) _ ?_ ?_ _ _ ⟨rfl,rfl,0,rfl,a6 _,λZ Z Z z=>nomatch z⟩
 .rintro x rest U n ⟨rfl,rfl,W,o,y,B⟩;refine b1 (zK o) λC X J=>?_;obtain rfl:=X;have aa:x<es.length:=a.g6▸C;have d:es[x]? =some (es[x].1,es[x].2):=cc aa;refine b6 (a.get d) λag ah D K L=>?_;rw[cE] at D;refine ae<|fQ c rfl ?_;refine Y D ?_;have M:=R _<|bI d
  have F:aW fs es[x].1≠some es[x].2->Q false n:=λz=>by rw[dd λw=>z<|w.2 _ _<|bI d] at h;exact h
  refine c0<|ae<|tP g l P (a.mQ d) K (Au I) λr f=>?_;cases f with
  |no f1=>refine aq ?_;show wpAny _ _ (if(!false)=true then _ else _) _ _ _;refine gZ af ?_;exact aq<|aq<|F λz=>(a4<|f1.symm.trans z)
  |«at» j w f1 N=>
   refine b6 (l.get f1) λai aj G Z ab=>?_;rw[cE] at G;refine ae<|fQ g rfl ?_;refine Y G<|eD<|mP M (T _<|bI f1) L ab (Au I) ?_;by_cases t:es[x].2=w
   .refine Y (bJ t) ?_;show wpAny _ _ (if(!true)=true then _ else _) _ _ _;refine ck af ?_;refine ae<|jw c rfl ?_;refine ck (λz=>hG.mp z rfl) ?_;refine aq ⟨rfl,rfl,x+1,J,C,λj k v b e=>?_⟩;clear o y C J D K L M F f1 G Z;rcases Nat.lt_succ_iff_lt_or_eq.mp b with b|rfl
    .exact B j k v b e
    .refine jA (Prod.mk.inj<|aT<|e.symm.trans d) λac ad=>?_;obtain rfl:=ac;clear e;obtain rfl:=ad;exact t▸N
   .refine Y (dd t) ?_;show wpAny _ _ (if(!false)=true then _ else _) _ _ _;refine gZ af ?_;exact aq<|aq<|F λz=>t<|aT<|z.symm.trans N
 .clear c g;rintro U n ⟨rfl,rfl,W,o,y,B⟩;obtain rfl:=zL y o
  have ok:jK es fs:=⟨a.g6.symm.trans (m.trans l.g6),λk v hm=>by refine jE (fy.mp hm) λj b=>?_;exact B j k v (a.g6.symm▸(cN.mp b).1) b⟩
  rw[bJ ok] at h;exact aq h
theorem zN{p q:Addr}{Q:Fin->Shared->Prop}(b:s.TypeIs (.ref p) "dict")(c:s.TypeIs (.ref q) "dict")(h:wpAny (model S.prog S.w) A (Builtin.Dict.samePairs "dict.__ne__" p q) (λr a=>Q (.done (.ret (.bool (r==false)))) a) E s):
  wpAny (model S.prog S.w) A (Builtin.«dict.__ne__» ⟨[.ref p,.ref q],[]⟩) Q E s:=by
 refine ae ?_;refine ae<|jq b ?_;refine aq<|ae<|kF (T:="dict") c PySem.F.sub_dict_dict ?_;refine ck af ?_;exact bO<|bO<|ae<|bU h (λr a z=>aq z) λZ Z x=>x
theorem zO(l:Addr):MeetsIn S.prog S.w (Builtin.«dict.__ne__» ⟨[.ref l,.none],[]⟩) (λZ R s=>s.TypeIs (.ref l) "dict"/\R (.ok (.ret .notImplemented)) s):=
 .of_wp λA R s ⟨a,h⟩=>by refine ae ?_;refine ae<|jq a ?_;refine aq<|ae<|kF (T:="NoneType") (v:= .none) (b:=false) rfl (by refine Y (isSubtype_type ..) ?_;kernel_rfl) ?_;refine gZ af ?_;exact e5<|aq ⟨_,rfl,h⟩
open Classical in
theorem zP(st:St S μ c s.heap)(l:VR μ s.heap a x)(n:VR μ s.heap b y)(h:A.units+60<cLine)(e:tT c a b P){Q:Value->Shared->Prop}(f:∀r t,P r->Q (.bool r) {s with toks:=t}):
  wpAny (model S.prog S.w) A (compareOp .NotEq x y) Q bq s:=by
 rcases e with e|⟨rfl,e⟩|e
 .cases eq_data st l n (Au h) e with|mk d e' as bs B C D E G p=>exact SeqAt.compareNe_reads B C D E G<|f _ s.toks p
 .refine VR.tv l ?_;refine fW st n e λZ d kk es ents ep Z o Z i Z Z p=>?_;have g:s.TypeIs (.ref d) "dict":=⟨_,i,rfl⟩
  exact SeqAt.rc_ne_decline_or (k:=false) rfl g af (by refine Y (isSubtype_type ..) ?_;kernel_rfl) F.slot_NoneType_ne PySem.F.slot_dict_ne_refl
   (λZ f=>call_gives F.slot_NoneType_ne rfl F.entry_NoneType_ne (F.args_NoneType_ne_2 _ _) (SeqAt.NoneType___ne___none_ref_0 d) f)
   (λZ f=>call_meetsIn PySem.F.slot_dict_ne_refl g PySem.F.entry_dict_ne (PySem.F.args_dict_ne_2 _ _) (zO d) ⟨g,f⟩)
   (λZ f=>wpAny_of_eq (rfl:isSame .none (.ref d)=pure false) f) (.inr<|Au (m:=0) h) (f true s.toks p)
 .refine fW st l e λZ p kk es ents ep Z o Z i I nd j=>fW st n j λZ q k2 fs T fp Z J Z u K L j=>?_;refine dK j λM N O R=>?_;clear j;obtain rfl:=M;have g:s.TypeIs (.ref p) "dict":=⟨_,i,rfl⟩;have v:s.TypeIs (.ref q) "dict":=⟨_,u,rfl⟩;refine wpAny_richCompare_same_room (op:= .NotEq) g v PySem.F.slot_dict_ne (da PySem.F.slot_dict_ne g PySem.F.entry_dict_ne (zN g v ?_)<|PySem.F.args_dict_ne_2 _ _)<|Au (m:=0) h;refine zM (A:=A.in1) (st.gy o) (st.gy J) i I u K L (A1 h) N O ⟨_,rfl,nofun,?_⟩;have z:(decide (jK es fs)==false)= !decide (jK es fs):=by cases decide (jK es fs)<;>rfl
  exact Y z<|f _ s.toks R
theorem tZ{op:CmpOp}(st:St S μ c s.heap)(f:VR μ s.heap a x)(g:VR μ s.heap b y)(l:A.units+60<cLine)(e:qA op c a b P){Q:Value->Shared->Prop}(h:∀r t,P r->Q (.bool r) {s with toks:=t}):
  wpAny (model S.prog S.w) A (compareOp op x y) Q bq s:=by
 cases op with
 |Eq=>cases eq_data st f g (Au l) e with|mk d e' as bs m n o q v p=>exact SeqAt.compareEq_reads m n o q v<|h _ s.toks p
 |NotEq=>exact zP st f g l e h
 |Lt=>exact de f e λi t k=>de g k λj u p=>wpAny_lt_int<|h _ s.toks p
 |Gt=>exact de f e λi t k=>de g k λj u p=>PySem.P.gt_int<|h _ s.toks p
 |GtE=>exact de f e λi t k=>de g k λj u p=>PySem.P.ge_int<|h _ s.toks p
 |Is=>exact ae<|tW st f g e λr p=>aq<|h r s.toks p
 |IsNot=>exact ae<|tW st f g (P:=λr=>P !r) e λr p=>aq<|h (!r) s.toks p
 |In=>exact(tY st f g l e).1 h
 |NotIn=>exact(tY (P:=λr=>P !r) st f g l e).2 λr t p=>h (!r) t p
 |_=>exact e.elim
end
noncomputable def gC:List (Str×V)->Str->V->List (Str×V)
 |[],n,v=>[(n,v)]
 |e::r,n,v=>if e.1==n then(n,v)::r else e::gC r n v
noncomputable def t2(a:ai)(o:V)(n:Str)(P:V->Prop):Prop:=mK a o λZ Z fs=>∃v,fs.lookup n=some v/\P v
noncomputable def t4(a:ai)(o:V)(n:Str)(v:V)(P:ai->Prop):Prop:=mK a o λi c fs=>P<|a.set i<|.inst c<|gC fs n v
section
variable{S:aN}{μ:Lay}{h l:Heap}{f j:ai}{s:Shared}{A:Around}{E:Value->Shared->Prop}{o v:V}{x y:Value}{n:Str}
theorem St.K(st:St S μ f h):S.K.In h:=S.X.keeps st.base
theorem t5{d:Addr}{od:Obj}{m:Str->Option Value}(hd:h.get? d=some od)(hn:h.Ns1 d m)(n:Str):lookIn n od=some (m n):=by
 refine hI hn λo es ep' a b c f=>?_;refine jA f λZ hm=>?_;obtain rfl:=aT<|hd.symm.trans a;have q:=hm n;unfold lookIn;refine Y b ?_
 show(match es.toList.find? (·.key.isStr n) with
   |some e=>some<|some e.val
   |none=>if es.toList.any (·.refKey) then none else some none)=_
 unfold nsFind findBy at q;rw[←Array.find?_toList] at q;cases hf:es.toList.find? (·.key.isStr n) with
 |some e=>rw[hf] at q;exact ar some q
 |none=>
  rw[hf] at q
  have g:es.toList.any (·.refKey)=false:=List.any_eq_false.mpr λe i=>by refine cj (c e<|Array.mem_toList_iff.mp i) λj t h=>?_;unfold DictEntry.refKey;exact Y h eB
  exact Y g<|ar some q
theorem zQ(r:VR μ h v x):handedIn x=true:=by cases r<;>rfl
theorem oh{a b C:Addr}{od:Obj}(c:h.get? a=some (instObj C b))(hd:h.get? b=some od):InstAt h a (instObj C b) C (some od):=⟨c,rfl,rfl,hd⟩
theorem zR{v:V}{ox:Option Value}(r:iR μ h (some v) ox):∃x,ox=some x/\VR μ h v x:=by cases r with|some Z x q=>exact⟨x,rfl,q⟩
theorem zS{P:V->Prop}{l:Bool}(r:n∈S.attrs)(st:St S μ f s.heap)(u:VR μ s.heap o x)(e:t2 f o n P){Q:Value->Shared->Prop}(z:∀v y t,VR μ s.heap v y->P v->Q y {s with toks:=t}):
  wpAny (model S.prog S.w) A (getAttr x n l) Q E s:=by
 refine n2 st u e λi a b c fs od m Z I J g d hn hf ne B C=>?_;refine ak C λv e p=>?_;have h:=S.mI c B;have q:=(hf n).1;rw[e] at q;refine ak (zR q) λy D j=>?_;have k:=t5 d hn n;rw[D] at k;refine ak (any_some h.hd) λcd F G=>?_;refine get_value (ox:=instObj c b) (od:=some od) (v:=y) st.K (oh g d) h.ga ?_ (zQ j)<|z v y _ j p;unfold findObj;refine Y F<|Y (h.no n r) ?_;show(W.ownOf _ _ _).bind _=_;unfold W.ownOf;refine Y G ?_;show(lookIn n od).bind _=_;refine Y k ?_;rfl
theorem zT(fs:List (Str×V))(a b:Str)(v:V):(gC fs a v).lookup b=if b=a then some v else fs.lookup b:=by
 induction fs with
 |nil=>
  by_cases q:b=a
  .subst q;exact Y (az rfl) List.lookup_cons_self
  .refine Y (ay q) ?_;show(match b==a with|true=>some v|false=>none)=none;exact Y (lE.mpr q) rfl
 |cons p r d=>
  have lc:∀w:V,((p.1,w)::r).lookup b=if b=p.1 then some w else r.lookup b:=λw=>by
   by_cases q:b=p.1
   .exact Y (az q)<|Y q List.lookup_cons_self
   .refine Y (ay q) ?_;show(match b==p.1 with|true=>some w|false=>_)=_;exact Y (lE.mpr q) rfl
  unfold gC;by_cases q:p.1=a
  .clear d;subst q;refine Y (az<|d1 _)<|Y (lc ..)<|Y (lc p.2) ?_;by_cases c:b=p.1
   .exact Y (az c)<|Y (az c) rfl
   .exact Y (ay c)<|Y (ay c)<|Y (ay c) rfl
  .refine Y (ay λz=>q<|eq_of_beq z) ?_;show((p.1,p.2)::gC r a v).lookup b=if b=a then _ else((p.1,p.2)::r).lookup b;refine Y (lc p.2) ?_;by_cases c:b=p.1
   .exact Y (az c)<|Y (ay λz=>q<|c▸z)<|Y c List.lookup_cons_self
   .refine Y (ay c) (Y d.symm ?_);show(match b==p.1 with|true=>some p.2|false=>_)=_;exact Y (lE.mpr c) rfl
theorem zU(B:n∈S.attrs)(st:St S μ f s.heap)(I:VR μ s.heap o x)(J:VR μ s.heap v y){P:ai->Prop}(e:t4 f o n v P)
  {Q:Unit->Shared->Prop} (L:∀j u,St S μ j u.heap->Step μ s μ u->P j->Q () u):wpAny (model S.prog S.w) A (setAttr x n y) Q E s:=by
 refine n2 st I e λi a b c fs od m Z M ab g d hn hf ne C p=>?_;have h:=S.mI c C;refine ak (any_some h.hd) λcd N O=>?_;refine set_plain (ox:=instObj c b) (od:=some od) st.K (oh g d) h.sa ?_;refine osa_open (s:={s with toks:=s.toks+1}) (r:=none) st.K (oh g d) h.po (by unfold takerIn;refine Y (h.no n B) ?_;rfl) λb'=>?_;refine bO<|ae<|ae<|wpAny_loadPart g<|ae<|looks_clsIn st.K N _ _ _ _ (λZ Z e=>e) ?_;refine Y O<|aq (a:=some b)<|bO<|ae ?_;refine wpAny_nsSet1 (s:={s with toks:=s.toks+1}) hn λl D hs=>?_;have R:Within m S.attrs:=λk T=>lC λz=>T<|(hf k).2 z;refine cj (D.count<|Within.cons n y R) λU ac V=>?_;refine bE V λad F W X=>?_;refine ae<|wpAny_lookBehind F (Y W<|pastItsLine_dict<|ah X<|ah (cR S.aL) af)<|aq ?_
 have z:=λt=>qq (ao:= .inst c (gC fs n v)) st M (λb o Z aa e=>(hs.2 b aa).trans e) hs.1 t λG=> .inst c _ U _ ((hs.2 _ ne).trans g) F D (λk=>by
  refine Y (zT ..) ?_;by_cases q:k=n
  .exact Y (az q)<|Y (az q) ⟨.some v y<|J.move G,λz=>absurd (q▸B) z⟩
  .exact Y (ay q) (Y (ay q) ⟨(hf k).1.move G,(hf k).2⟩)) ne C
 exact L _ _ (z 0).1 (z _).2 p
end
theorem t6(h:Heap)(a:Addr)(f:Obj->Obj):(h.update a f).objs.size=h.objs.size:=(kB h a f).1
theorem qC{M:Model}{Γ:Ctx}{p:Pos}{t:Sem Fin}{fs:List Frame}{s a:Shared}{e:End}(h:Runs M Γ p t fs s e a):s.heap.objs.size<=a.heap.objs.size:=by induction h<;>first|exact aM _|assumption|exact ah ‹_› ‹_› |exact ah (bF (t6 ..).symm) ‹_› |exact ah (ah (fk _)<|bF (eT ..).symm) ‹_› |exact ah (ah ‹_› ‹_›) ‹_› |(trace_state;lia)
theorem zV{M:Model}{Γ:Ctx}{p:Pos}{s a:Shared}{r:Result}(h:Returns M Γ p s r a):s.heap.objs.size<=a.heap.objs.size:=qC h
theorem zW{M:Model}{Γ:Ctx}{p:Pos}{g:Nat}{r:Resume}{s b:Shared}{c:GenResult}(h:Wakes M Γ p g r s c b):s.heap.objs.size<=b.heap.objs.size:=by
 unfold Wakes at h;split at h
 .exact h.elim
 .split at h
  .refine dE h λd s₁ a Z Z e=>?_;clear h;obtain rfl:=e;exact(qC a:(s.setGen g .running).heap.objs.size<=s₁.heap.objs.size)
  .exact Y h.2<|aM _
  .exact Y h.2<|aM _
 .refine dE h λd s₁ a Z Z f=>?_;clear h;obtain rfl:=f;exact(qC a:(s.setGen g .running).heap.objs.size<=s₁.heap.objs.size)
 .exact Y h.2<|aM _
 .exact Y h.2<|aM _
theorem zX{j:Type}(M:Model)(Γ:Ctx)(n:Nat)(t:Sem j):∀(Q:j->Pos->Shared->Prop)(E:Value->Pos->Shared->Prop)(p:Pos)(s:Shared),n<=s.heap.objs.size->Sem.wp M Γ t Q E p s->
  Sem.wp M Γ t (λa i d=>n<=d.heap.objs.size/\Q a i d) (λe i d=>n<=d.heap.objs.size/\E e i d) p s:=by
 induction t with
 |pure a=>intro Q E p s hn h;exact⟨hn,h⟩
 |raise e=>intro Q E p s hn h;exact⟨hn,h⟩
 |unsupported _=>intro Q E p s _ h;exact h
 |finish _=>intro Q E p s _ h;exact h
 |rule _ k b=>intro Q E p s hn h;exact b () Q E p s hn h
 |«at» i k b=>intro Q E p s hn h;exact b () Q E i s hn h
 |load a _ k b=>intro Q E p s hn h;refine ak h λo w h=>?_;exact⟨o,w,b o Q E p s hn h⟩
 |update a _ f k b=>intro Q E p s hn h;exact⟨h.1,b () Q E p _ (by rw[t6];exact hn) h.2⟩
 |loadIfAlive a k b=>intro Q E p s hn h;exact b _ Q E p s hn h
 |point _ k b=>intro Q E p s hn h;exact b () Q E p s hn h
 |register _ _=>intro Q E p s _ h;exact h
 |alloc o k b=>intro Q E p s hn h;exact b _ Q E p _ (by rw[eT];lia) h
 |fresh k b=>intro Q E p s hn h;exact b _ Q E p _ hn h
 |ask k b=>intro Q E p s hn h;exact b _ Q E p s hn h
 |choose src m k b=>intro Q E p s hn h;exact⟨h.1,b _ Q E p _ hn h.2⟩
 |os q _ k b=>intro Q E p s hn h;exact b _ Q E p _ hn h
 |call c hd _ _ k b=>intro Q E p s hn h;refine cq h λr d l h=>?_;exact⟨r,d,l,b r Q E p d (ah hn<|zV l) h⟩
 |handled own k b=>intro Q E p s hn h;exact b _ Q E p s hn h
 |genState g k b=>intro Q E p s hn h;refine ak h λst hs h=>?_;exact⟨st,hs,b _ Q E p s hn h⟩
 |newGen c k b=>intro Q E p s hn h;exact b _ Q E p _ hn h
 |resume g r _ k b=>intro Q E p s hn h;refine cq h λu d v h=>?_;exact⟨u,d,v,b u Q E p d (ah hn<|zW v) h⟩
 |yield _ _ _ _=>intro Q E p s _ h;exact h
 |stack k b=>intro Q E p s hn h;exact b _ Q E p s hn h
 |fork _ _=>intro Q E p s _ h;exact h
 |thread k b=>intro Q E p s hn h;exact b _ Q E p s hn h
 |await _ _ _ _ _=>intro Q E p s _ h;exact h
section
variable{b:Type}{M:Model}{A:Around}{s:Shared}
theorem d7{t:Sem b}{Q:b->Shared->Prop}{E:Value->Shared->Prop}
  (h:wpAny M A t (λa c=>s.heap.objs.size<=c.heap.objs.size->Q a c) (λe c=>s.heap.objs.size<=c.heap.objs.size->E e c) s):wpAny M A t Q E s:=
 bU (Q:=λa c=>s.heap.objs.size<=c.heap.objs.size/\(s.heap.objs.size<=c.heap.objs.size->Q a c)) (λΓ p d=>zX M Γ s.heap.objs.size t (λa Z c=>s.heap.objs.size<=c.heap.objs.size->Q a c) (λa Z c=>s.heap.objs.size<=c.heap.objs.size->E a c) p s (aM _)<|h Γ p d) (λZ Z x=>x.2 x.1) (λZ Z x=>x.2 x.1)
end
noncomputable def lN(a:ai)(v:V)(k:List V->Prop):Prop:=gA v k\/dj a v λZ=>k
noncomputable def iW(i:Int):Prop:= -(10:Int)^15<=i/\i<=(10:Int)^15
noncomputable def gD(lo hi st:Int):List V:=(List.range (if st=1 then(hi-lo).toNat else(lo-hi).toNat)).map λk:Nat=>V.int<|lo+(k:Int)*st
noncomputable def qD(v:V)(k:Int->Int->Int->Prop):Prop:=match v with| .cP lo hi st=>k lo hi st|_=>False
noncomputable def lO(lo hi st:Int):Prop:=iW lo/\iW hi/\(st=1\/st= -1)
noncomputable def zY(a:ai)(v:V)(k:List V->Prop):Prop:=lN a v k\/qD v λlo hi st=>lO lo hi st/\k (gD lo hi st)
noncomputable def t7(a:ai)(v:V)(P:V->ai->Prop):Prop:=lN a v λl=>l.length<=aF/\P (.int l.length) a
noncomputable def t8(a:ai)(v:V)(P:V->ai->Prop):Prop:=(gA v λl=>P (.tup l) a)\/dj a v λZ l=>l.length<=aF/\P (.tup l) a
noncomputable def t9(a:ai)(v:V)(P:V->ai->Prop):Prop:=zY a v λl=>l.length<=aF/\P (.ref a.length) (a++[.list l])
noncomputable def ua(a:ai)(v:V)(P:V->ai->Prop):Prop:=dj a v λZ l=>∃is:List Int,l=is.map V.int/\l.length<=aF/\P (.int is.sum) a
noncomputable def ub(a:ai)(v:V)(P:V->ai->Prop):Prop:=dj a v λZ l=>∃is:List Int,l=is.map V.int/\is≠[]/\∀m,P (.int m) a
noncomputable def uc(a:ai)(v:V)(P:V->ai->Prop):Prop:=dv v λi=>P (.int i.natAbs) a
noncomputable def kN(n:Nat):Str:=⟨#[48+n]⟩
noncomputable def ud(a:ai)(v:V)(P:V->ai->Prop):Prop:=dv v λi=>(0<=i/\i.toNat<10)/\P (.str<|kN i.toNat) a
noncomputable def ue(a:ai)(v:V)(P:V->ai->Prop):Prop:=dv v λi=>P (.cP 0 i 1) a
noncomputable def uf(d:ai)(a b c:V)(P:V->ai->Prop):Prop:=dv a λi=>dv b λj=>dv c λk=>(iW i/\iW j/\k= -1)/\P (.cP i j k) d
section
variable{S:aN}{μ:Lay}{h B:Heap}{m C:ai}{s:Shared}{A:Around}{E:Value->Shared->Prop}{v w z:V}{x y:Value}{P:V->ai->Prop}
theorem ug{i:Int}(h:iW i): -1000000000000000<=i/\i<=1000000000000000:=h
@[elab_as_elim] theorem oi{k:List V->Prop}{G:Value->Prop}(st:St S μ m h)(r:VR μ h v x)(c:lN m v k)
  (f:∀T a l vs n,T="list"\/T="tuple"->h.get? a=some {cls:= .type T,data:= .seq vs n}->aA μ h l vs.toList->k l->G (.ref a)):G x:=by
 rcases c with c|c
 .exact hL r c λl a vs n Z g va b=>f "tuple" a l vs n (.inr rfl) g va b
 .exact dU st r c λZ a l vs n Z Z Z g va b=>f "list" a l vs n (.inl rfl) g va b
@[elab_as_elim] theorem uh{k:Int->Int->Int->Prop}{G:Value->Prop}(r:VR μ h v x)(c:qD v k)(f:∀lo hi st a x y z,h.get? a=some (nX #[.int lo x,.int hi y,.int st z])->k lo hi st->G (.ref a)):G x:=by cases r with|cP lo hi st a x y z Z g=>exact f lo hi st a x y z g c|_=>exact c.elim
theorem qE{n:Nat}(h:n<=10000000):(n:Int)<2^63:=Int.lt_of_le_of_lt (fT.mpr h) af
theorem zZ(st:St S μ m s.heap)(r:VR μ s.heap v x)(e:t7 m v P):wpAny (model S.prog S.w) A (call (.builtin "len") [x]) (Rs S μ s P) bq s:=by
 refine oi st r e λT a l vs n c g va b=>?_;have hz:vs.size<=10000000:=va.sz▸b.1;have q:∀t k,Rs S μ s P (.int vs.size t) {s with toks:=k}:=λt k=>va.sz▸kL st _ _ _ b.2;rcases c with rfl|rfl
 .exact Calls.call_len_list ⟨_,g,rfl,n,rfl⟩ (qE hz)<|q _ _
 .exact PyProof.Rows.len_tuple ⟨_,g,rfl,n,rfl⟩ (qE hz)<|q _ _
theorem St.live(st:St S μ m h){b:Addr}(f:foot μ b):∃o,h.get? b=some o:=by
 refine cq (tB f) λi p e q=>?_;refine ak (st.at (a:=p.1) (b:=p.2) e) λo Z r=>?_;clear Z;cases r with
 |list _ _ _ g _ e=>exact⟨_,q.elim (λq=>q▸g) λq=>(q.trans e.symm)▸g⟩
 |dict _ _ _ _ g _ _ e=>exact⟨_,q.elim (λq=>q▸g) λq=>(q.trans e.symm)▸g⟩
 |inst _ _ _ _ g d _ _ _ _=>exact q.elim (λq=>⟨_,q▸g⟩) λq=>⟨_,q▸d⟩
 |pair _ _ g e=>exact⟨_,q.elim (λq=>q▸g) λq=>(q.trans e.symm)▸g⟩
 |const _ _ g e=>exact⟨_,q.elim (λq=>q▸g) λq=>(q.trans e.symm)▸g⟩
theorem qF{t:Nat}(st:St S μ m s.heap)(a:∀b o,s.heap.get? b=some o->B.get? b=some o)(hz:s.heap.objs.size<=B.objs.size)(r:VR μ B v y)(p:P v m):Rs S μ s P y {s with heap:=B,toks:=t}:=⟨μ,v,m,st.keeps a hz,.keeps a hz t,r,p⟩
theorem z0(st:St S μ m s.heap)(r:VR μ s.heap v x)(e:t8 m v P):wpAny (model S.prog S.w) A (call (.type "tuple") [x]) (Rs S μ s P) bq s:=by
 rcases e with e|e
 .refine hL r e λl a vs n h g va c=>call_tuple_same ⟨_,g,rfl,n,rfl⟩ ⟨μ,_,m,st,.refl _ _,.tup l a vs n h g va,c⟩
 .refine dU st r e λZ a l vs n Z Z Z g va c=>d7 (call_tuple_list ⟨_,g,rfl,n,rfl⟩ (λB d hs=>?_)<|va.sz▸eH c.1);have k2:∀b o,s.heap.get? b=some o->(B.push<|fE vs 0).get? b=some o:=λb o e=>bZ _<|d b o e;refine qF st k2 hs (.tup l _ vs 0 (λf=>?_) (cy _ rfl)<|(bQ.keeps (P:=λZ=>False) k2 hs 0).bV va) c.2;refine jE (st.live f) λo i=>?_;exact n4 _ (d _ _ i) rfl
theorem mS(st:St S μ m s.heap){a:Addr}{ao:aQ}(t:Nat){dr}(hs:s.heap.objs.size<=a)(d:∀b o,s.heap.get? b=some o->B.get? b=some o)(hz:s.heap.objs.size<=B.objs.size)
  (r:∀h,Move μ s.heap h B->(∀b,foot h b->foot μ b\/b=a)->d6 S h B a a ao) (p:P (.ref m.length) (m++[ao])):Rs S μ s P (.ref a) {s with heap:=B,toks:=t,drawn:=dr}:=by
 have i:¬foot μ a:=λf=>hH.mpr (st.lt f) hs;have j:∀{o},s.heap.get? a=some o->False:=λe=>hH.mpr (bA e) hs;have k:Move μ s.heap (μ++[(a,a)]) B:=⟨λZ Z e=>fG e,λc o e Z Z=>d c o e,λc o' e f Z g=>(g4 g).elim f λq=>j<|(q.elim id id:c=a)▸e⟩;refine jA (st.new d hz i i (ah st.size hs) (ah st.size hs) (λo' q Z=>j<|Or.elim q id id)<|r _ k λb f=>(g4 f).imp id λq=>Or.elim q id id) λl Z=>?_;exact⟨_,_,_,l,⟨λZ Z=>fG,λb f=>(g4 f).imp id λq:b=a\/b=a=>(q.elim id id:b=a)▸hs,λb o e Z Z=>d b o e,λb o e Z Z=>d b o e,hz,rfl,rfl⟩,.ref _ _ _<|st.len▸fq _ _,p⟩
theorem uk{i:Int}(h: -1000000000000000000<=i/\i<=1000000000000000000):Builtin.Range.rangeFitsLong i=true:=fe.mpr ⟨bJ<|eF af h.1,bJ<|Int.lt_of_le_of_lt h.2 af⟩
theorem oj{i:Int}(h: -1000000000000000<=i/\i<=1000000000000000):Builtin.Range.rangeFitsLong i=true:=uk ⟨eF af h.1,eF h.2 af⟩
theorem qG{lo hi st:Int}(r:lO lo hi st):Builtin.Range.rangeSize lo hi st=((gD lo hi st).length:Int):=by
 unfold gD;refine Y (aV ..)<|Y cF ?_;rcases r.2.2 with rfl|rfl
 .exact rangeSize_nat lo hi
 .exact((ay af).trans (az (by decide:(1:Int)>0)).symm).trans<|rangeSize_nat hi lo
theorem um{a b:Int}(c:a<=1000000000000000)(d: -1000000000000000<=b):((a-b).toNat:Int)<=2000000000000000:=fT.mpr<|Int.toNat_le.mpr<|Int.sub_le_sub c d
theorem uo{lo hi st:Int}(r:lO lo hi st):Builtin.Range.small lo hi st=true:=by
 have b:=ug r.1;have a:=ug r.2.1
 have c:((gD lo hi st).length:Int)<=2000000000000000:=by
  unfold gD;refine Y (aV ..)<|Y cF ?_;by_cases q:st=1
  .exact Y (az q)<|um a.2 b.1
  .exact Y (ay q)<|um b.2 a.1
 have k:Builtin.Range.rangeFitsLong st=true/\(if st>0 then Builtin.Range.rangeFitsLong (hi+(st-1)) else Builtin.Range.rangeFitsLong (hi+(st+1)))=true:=by
  clear c;rcases r.2.2 with rfl|rfl
  .exact⟨by decide,(az af).trans<|Y (Int.add_zero hi)<|oj a⟩
  .exact⟨by decide,(ay af).trans<|Y (Int.add_zero hi)<|oj a⟩
 unfold Builtin.Range.small;rw[qG r,oj b,oj a,uk (i:=((gD lo hi st).length:Int)) ⟨eF af<|eR _,eF c af⟩,k.1,k.2];exact Bool.or_true _
theorem aA.of_get{l:List V}{xs:List Value}(a:l.length=xs.length)(b:∀(i:Nat) v x,l[i]? =some v->xs[i]? =some x->VR μ h v x):aA μ h l xs:=by
 induction l generalizing xs with
 |nil=>clear b;cases xs with|nil=>exact .nil|cons=>cases a
 |cons v l c=>
  cases xs with
  |nil=>cases a
  |cons x xs=>exact .cons _ _ _ _ (b 0 _ _ rfl rfl)<|c (Nat.succ.inj a) λi=>b<|i+1
theorem z1(hh:A.handled=none)(st:St S μ m s.heap)(r:VR μ s.heap v x)(e:t9 m v P):wpAny (model S.prog S.w) A (call (.type "list") [x]) (Rs S μ s P) bq s:=by
 rcases e with e|e
 .exact oi st r e λT a l vs n p g va b=>d7 (call_list_seq a p g rfl rfl (λB c' c g' hs=>
   mS st _ (aM _) c hs (λZ f Z=> .list l vs c' g' (va.move f) rfl) b.2) (va.sz▸eH b.1))
 .refine uh r e λlo hi D a E y z g b=>d7 (call_list_range hh g (uo b.1) (qG b.1) (ah b.2.1 af) λB tk q c' c g' h hs=>?_);refine mS st tk (aM _) c hs (λZ f Z=> .list _ q c' g' (.of_get h.1.symm λi v x d j=>?_) rfl) b.2.2;refine jE (h.2 i x<|Y cE.symm j) λt u=>?_;clear j;obtain rfl:=u;unfold gD at d;rw[b9] at d;refine ak (dY.mp d) λk c C=>?_;obtain rfl:=C;have o:=(cN.mp c).2;rw[List.getElem_range] at o;clear c d;subst o;exact .int _ _
theorem z2{is:List Int}:∀{vs:List Value},aA μ h (is.map V.int) vs->∃xs:List (Int×Tok),vs=xs.map (λp=>Value.int p.1 p.2)/\is=xs.map (·.1):=by
 induction is with
 |nil=>intro vs r;cases r;exact⟨[],rfl,rfl⟩
 |cons i l b=>intro vs r;obtain⟨x,c,rfl,a,r⟩:=r.cons_inv;obtain⟨xs,rfl,rfl⟩:=b r;refine VR.fm a λt=>?_;exact⟨(i,t)::xs,rfl,rfl⟩
theorem uq{is:List Int}{vs:Array Value}(r:aA μ h (is.map V.int) vs.toList):∃xs:Array (Int×Tok),vs=intItems xs/\is=xs.toList.map (·.1):=by refine ak (z2 r) λxs a b=>?_;exact⟨xs.toArray,Array.toList_inj.mp (by refine Y a ?_;unfold intItems;exact Y Array.toList_map rfl),b⟩
theorem preSum_eq(xs:List Int):∀n,n<=xs.length->preSum (λi=>(xs[i]?).getD 0) n=(xs.take n).sum
 |0,_=>rfl
 |n+1,hn=>by rw[preSum,preSum_eq xs n<|jr hn,List.take_add_one,List.sum_append,cc hn];exact ar _ (Int.add_zero _).symm
theorem z3(hh:A.handled=none)(st:St S μ m s.heap)(r:VR μ s.heap v x)(e:ua m v P):wpAny (model S.prog S.w) A (call (.builtin "sum") [x]) (Rs S μ s P) bq s:=by
 refine dU st r e λZ a l vs n Z Z Z g va b=>?_;refine bE b λis d hz p=>?_;obtain rfl:=d;refine ak (uq va) λxs f h=>?_;obtain rfl:=f;clear Z b hz va;obtain rfl:=h;have j:(intItems xs).size=xs.size:=Array.size_map ..
 have k:preSum (numAt xs) xs.size=(xs.toList.map (·.1)).sum:=by
  have c:=preSum_eq (xs.toList.map (·.1)) xs.size<|Y (aV ..)<|aM _
  have o:(λi=>((xs.toList.map (·.1))[i]?).getD 0)=numAt xs:=by funext i;exact Y b9<|Y cE rfl
  rw[o] at c;exact Y c<|Y (List.take_of_length_le (by rw[aV];exact aM _)) rfl
 have q:s.heap.IsList a (intItems xs):=⟨_,g,rfl,n,rfl⟩;refine d7<|call_sum_walkAnyS<|iter_intList q λG e u y z=>?_;subst e;refine⟨_,_,_,_,_,_,_,numAt xs,rfl,(Walks.list (A:=A.in1) hh _ a z<|intItems xs).toS,u,y,(λZ Z=>intItems_at),λC I hm hs=>?_⟩;obtain⟨B,g',D,E,F⟩:=C;obtain rfl:g'=s.gens:=hm.gens;obtain rfl:D=s.drawn:=hm.drawn;obtain rfl:F=s.os:=hm.os;exact Y j<|Y k<|qF (t:=E) st (old_kept (l:=a) hm.heap) hs (.int _ _) p
theorem z4(hh:A.handled=none)(st:St S μ m s.heap)(r:VR μ s.heap v x)(e:ub m v P):wpAny (model S.prog S.w) A (call (.builtin "max") [x]) (Rs S μ s P) bq s:=by refine dU st r e λZ a l vs n Z Z Z g va b=>?_;refine bE b λis f c p=>?_;obtain rfl:=f;refine ak (uq va) λxs h i=>?_;obtain rfl:=h;clear Z b va;obtain rfl:=i;have c:0<xs.size:=Nat.pos_of_ne_zero λz=>c (by refine Y (Array.size_eq_zero_iff.mp z) ?_;rfl);refine d7<|max_intList hh ⟨_,g,rfl,n,rfl⟩ c λv B tk d b hs=>?_;refine jE (intItems_at d) λt j=>?_;clear d;obtain rfl:=j;exact qF st b hs (.int _ _)<|p _
theorem z5(st:St S μ m s.heap)(r:VR μ s.heap v x)(e:uc m v P):wpAny (model S.prog S.w) A (call (.builtin "abs") [x]) (Rs S μ s P) bq s:=
 de r e λi t p=>PyProof.Rows.call_abs_int λu tk=>by
  have q:(if i<0 then-i else i)=(i.natAbs:Int):=by
   by_cases z:i<0
   .exact(az z).trans (Int.ofNat_natAbs_of_nonpos<|Int.le_of_lt z).symm
   .exact(ay z).trans (Int.natAbs_of_nonneg<|Int.not_lt.mp z).symm
  exact Y q<|kL st _ _ _ p
theorem z6:∀k:Nat,k<10->Str.ofString (toString (k:Int))=kN k/\((k:Int)).natAbs.log2<1920/\PyData.strOk (kN k)=true:=by decide+kernel
theorem z7(st:St S μ m s.heap)(r:VR μ s.heap v x)(e:ud m v P):wpAny (model S.prog S.w) A (call (.type "str") [x]) (Rs S μ s P) bq s:=
 de r e λi t p=>by
  refine jA p λa p=>?_;refine jA a λb c=>?_;refine jE (Int.eq_ofNat_of_zero_le b) λk d=>?_;clear a b;obtain rfl:=d;have q:=z6 k c;refine PySem.P.str_of_int q.2.1 ⟨μ,_,m,st,.toks _,.str _ _ ?_,?_⟩
  .exact Y q.1 q.2.2
  .exact Y q.1 p
theorem ur(st:St S μ m s.heap){lo hi c:Int}{x y z:Tok}(t:Nat)(p:P (.cP lo hi c) m):Rs S μ s P (.ref s.heap.objs.size) {s with heap:=s.heap.push (nX #[.int lo x,.int hi y,.int c z]),toks:=t}:=⟨μ,_,m,st.push _,.push _ _,.cP _ _ _ _ x y z st.kK<|cy _ rfl,p⟩
theorem z8(st:St S μ m s.heap)(r:VR μ s.heap v x)(e:ue m v P):wpAny (model S.prog S.w) A (call (.type "range") [x]) (Rs S μ s P) bq s:=de r e λZ Z p=>call_range_1<|ur st _ p
theorem z9{a:Value}(st:St S μ m s.heap)(c:VR μ s.heap v x)(d:VR μ s.heap w y)(f:VR μ s.heap z a)(e:uf m v w z P):wpAny (model S.prog S.w) A (call (.type "range") [x,y,a]) (Rs S μ s P) bq s:=
 de c e λi Z e=>de d e λj Z e=>de f e λk Z e=>by refine jA e λb p=>?_;refine b1 b λh l g=>?_;clear e b;obtain rfl:=g;exact call_range_3 af (ur st _ p)<|.inl<|PyProof.noPylong_small af
end
noncomputable def uu(a:ai)(o v:V)(P:V->ai->Prop):Prop:=dj a o λi l=>l.length<=aF/\P .none (a.set i<|.list<|l++[v])
noncomputable def uv(a:ai)(o v:V)(P:V->ai->Prop):Prop:=dj a o λi l=>dj a v λZ r=>l.length+r.length<=aF/\P .none (a.set i<|.list<|l++r)
noncomputable def uw(a:ai)(o:V)(P:V->ai->Prop):Prop:=dj a o λi l=>l.length<=aF/\∃v r,l=r++[v]/\P v (a.set i<|.list r)
noncomputable def ux(a:ai)(o k d:V)(P:V->ai->Prop):Prop:=eV a o λZ kk es=>bK kk k/\P ((aW es k).getD d) a
noncomputable def uy(a:ai)(o k d:V)(P:V->ai->Prop):Prop:=eV a o λi kk es=>bK kk k/\es.length<=aF/\(∀v,aW es k=some v->P v a)/\(aW es k=none->P d (a.set i<|.dict kk<|bD es k d))
noncomputable def uz(a:ai)(o k:V)(P:V->ai->Prop):Prop:=eV a o λi kk es=>bK kk k/\es.length<=aF/\∃v,aW es k=some v/\P v (a.set i<|.dict kk<|iU es k)
section
variable{S:aN}{μ:Lay}{h f:Heap}{c j:ai}{s:Shared}{A:Around}{E:Value->Shared->Prop}{o v w:V}{x y z:Value}{P:V->ai->Prop}
theorem qH{n m:Nat}(h:n<=aF)(e:m=n):m<=sizeLine:=e▸eH h
theorem Aa(st:St S μ c s.heap)(r:VR μ s.heap o x)(q:VR μ s.heap v y)(e:uu c o v P):wpAny (model S.prog S.w) A (call (.builtin "list.append") [x,y]) (Rs S μ s P) bq s:=
 dU st r e λi a l vs n Z f Z g va b=>by have t:=oc st f g (·.push y) (l':=l++[v]) λd=>Y jt<|(va.move d).append<|.one<|q.move d;refine da slot_list_append ⟨_,g,rfl⟩ entry_list_append (show wpAny _ _ (updateSeq a (·.push y)>>=λZ=>ret .none) _ _ s from ae<|wpAny_updateSeq g rfl (hz:=qH b.1 va.sz) (_hz':=?_)<|aq ⟨.none,rfl,μ,_,_,t.1,t.2,.none,b.2⟩)<|args_list_append _ _;exact Y (Array.size_push ..)<|cR<|qH b.1 va.sz
theorem Ab(st:St S μ c s.heap)(r:VR μ s.heap o x)(q:VR μ s.heap v y)(e:uv c o v P):wpAny (model S.prog S.w) A (call (.builtin "list.extend") [x,y]) (Rs S μ s P) bq s:=
 dU st r e λi a l vs n Z k Z g va d=>dU st q d λZ b r ws m Z Z Z g2 h d=>by
  have f:vs.size+ws.size<=sizeLine:=va.sz.symm▸h.sz.symm▸eH d.1
  have p:¬(!vs.isEmpty&&Builtin.List.listTooLong (vs.size+ws.size))=true:=by exact Y (show Builtin.List.listTooLong (vs.size+ws.size)=false from dd<|cJ.mpr f)<|Y (Bool.and_false ..) eB
  have t:=oc st k g (· ++ws) (l':=l++r) λj=>(va.move j).app<|h.move j;exact call_meets PySem.F.slot_list_extend ⟨_,g,rfl⟩ PySem.F.entry_list_extend (PySem.F.args_list_extend_2 _ _) (PySem.AutoSeq1.list_extend_list_list_0 a vs n b ws m p (ah (cp _ _) f)<|gp f) ⟨g,g2,μ,_,_,t.1,t.2,.none,d.2⟩
theorem Ac(st:St S μ c s.heap)(r:VR μ s.heap o x)(e:uw c o P):wpAny (model S.prog S.w) A (call (.builtin "list.pop") [x]) (Rs S μ s P) bq s:=
 dU st r e λi a l vs n Z h Z g va b=>by
  refine jA b λhz d=>?_;refine cq d λw r j p=>?_;clear Z b d;obtain rfl:=j;have k:vs.size=r.length+1:=va.sz.trans<|a0 ..;have hn:vs.size-1=r.length:=k▸rfl;refine ak (va.get (i:=r.length) (v:=w) (by refine Y (h5<|aM _)<|Y (iO ..) ?_;rfl)) λy m q=>?_
  have t:=oc st h g (λxs=>xs.eraseIdxIfInBounds<|vs.size-1) (l':=r) λu=>by have f:=(va.move u).eraseIdx r.length;rw[List.eraseIdx_append_of_length_le<|aM _,iO,show[w].eraseIdx 0=[] from rfl,d2] at f;exact Y Array.toList_eraseIdxIfInBounds<|Y hn<|hn▸f
  exact call_meets PySem.F.slot_list_pop ⟨_,g,rfl⟩ PySem.F.entry_list_pop (PySem.F.args_list_pop_1 _) (PySem.MeetsSeq.list_pop_last a vs n y (Y hn<|Y cE.symm m)<|qH hz va.sz) ⟨g,μ,w,_,t.1,t.2,t.2.vr q,p⟩
theorem Ad(st:St S μ c s.heap)(b:A.units+60<cLine)(r:VR μ s.heap o x)(q:VR μ s.heap v y)(f:VR μ s.heap w z)(e:ux c o v w P):wpAny (model S.prog S.w) A (call (.builtin "dict.get") [x,y,z]) (Rs S μ s P) bq s:=
 fW st r e λi d kk es ents ep Z h Z g va nd a=>by
  refine da PySem.F.slot_dict_get ⟨_,g,rfl⟩ PySem.F.entry_dict_get ?_<|PySem.F.args_dict_get_3 _ _ _;show wpAny _ _ (dictGet d y>>=_) _ _ s;refine ae<|DF.get (A:=A.in1) ⟨g,va,nd,a.1,q,A1 b⟩ (λt hn=>?_) λt v' j k l=>?_
  .show wpAny _ _ (Builtin.Dict.missed d y>>=_) _ _ _;exact ae<|wpAny_missed_other (st.gy h)<|aq ⟨z,rfl,μ,w,c,st,.toks _,f,by have p:=a.2;rw[hn] at p;exact p⟩
  .exact aq ⟨j,rfl,μ,v',c,st,.toks _,l,by have p:=a.2;rw[k] at p;exact p⟩
theorem Ae(st:St S μ c s.heap)(j:A.units+60<cLine)(r:VR μ s.heap o x)(q:VR μ s.heap v y)(b:VR μ s.heap w z)(e:uy c o v w P):wpAny (model S.prog S.w) A (call (.builtin "dict.setdefault") [x,y,z]) (Rs S μ s P) bq s:=
 fW st r e λi d kk es ents ep Z f Z g va nd a=>by have h:s.TypeIs (.ref d) "dict":=⟨_,g,rfl⟩;refine da PySem.F.slot_dict_setdefault h PySem.F.entry_dict_setdefault ?_<|PySem.F.args_dict_setdefault_3 _ _ _;refine ae<|ae<|jq h ?_;refine aq ?_;refine ck (Y (st.gy f) eB) ?_;exact ae<|DF.zC (A:=A.in1) ⟨g,va,nd,a.1,q,A1 j⟩ st f b a.2.1 (λt v' k l m=>aq ⟨k,rfl,μ,v',c,st,.toks _,m,a.2.2.1 v' l⟩) λhn p n bL=>aq ⟨z,rfl,μ,w,_,n,bL,bL.vr b,a.2.2.2 hn⟩
theorem Af(st:St S μ c s.heap)(k:A.units+60<cLine)(r:VR μ s.heap o x)(q:VR μ s.heap v y)(e:uz c o v P):wpAny (model S.prog S.w) A (call (.builtin "dict.pop") [x,y]) (Rs S μ s P) bq s:=
 fW st r e λi d kk es ents ep Z l Z g va nd a=>by
  refine b1 a λko hz b=>?_;refine ak b λw f p=>?_;have h:s.TypeIs (.ref d) "dict":=⟨_,g,rfl⟩
  have m:ents.isEmpty=false:=by refine Y (propext kE) ?_;intro z;have:=Array.isEmpty_iff.mp z;clear g z;subst this;clear Z nd a hz b p;cases va;exact(a4 f)
  refine da PySem.F.slot_dict_pop h PySem.F.entry_dict_pop ?_<|PySem.F.args_dict_pop_2 _ _;generalize n:(λ(a7:Fin) j=>∃v,a7= .done (.ret v)/\Rs S μ s P v j)=Q;refine ae<|ae<|jq h ?_;refine aq ?_
  have rest:wpAny (model S.prog S.w) A.in1 (do
    let old←Builtin.Dict.takeOut d y
    if old.isNone then Builtin.Dict.missedRemoval d y
    match old,(none:Option Value) with
    |some e,_=>letGo [e.key] [e.val];ret e.val
    |none,some x=>rule "dict.pop.default";ret x
    |none,none=>rule "dict.pop.keyerror";raiseNew (←newExc (.type "KeyError") [y])) Q bq s:=
   ae (DF.take (A:=A.in1) ⟨g,va,nd,ko,q,A1 k⟩ st l f hz λe j t bL u=>ae<|wpAny_letGo<|aq<|n▸⟨_,rfl,μ,w,_,t,bL,u,p⟩)
  dsimp only;cases B:(keyPart y).isSome with
  |true=>exact bO rest
  |false=>refine ae<|fQ g rfl ?_;exact Y m<|bO rest
structure BM(s:Shared)(x:Value)(name:Str)(T id:String):Prop where
 typ:s.TypeIs x T
 slot:Slot T name id
 plain:PlainAttrs T
 descr:typeOf (.builtin id)=pure (.type "method_descriptor")
 noDict:∀a,x= .ref a->∃ob,s.heap.get? a=some ob/\ob.dict=none
theorem qI(st:St S μ c s.heap)(r:VR μ s.heap o x){name:Str}{id:String}(slot:Slot "list" name id)(hd:typeOf (.builtin id)=pure (.type "method_descriptor")){k}(e:dj c o k):BM s x name "list" id:=dU st r e λZ a l vs n Z Z Z g Z Z=>⟨⟨_,g,rfl⟩,slot,PySem.F.plainAttrs_list,hd,λZ e=>Value.ref.inj e▸⟨_,g,rfl⟩⟩
theorem om(st:St S μ c s.heap)(r:VR μ s.heap o x){name:Str}{id:String}(slot:Slot "dict" name id)(hd:typeOf (.builtin id)=pure (.type "method_descriptor")){k}(e:eV c o k):BM s x name "dict" id:=fW st r e λZ a Z l vs n Z Z Z g Z Z Z=>⟨⟨_,g,rfl⟩,slot,PySem.F.plainAttrs_dict,hd,λZ e=>Value.ref.inj e▸⟨_,g,rfl⟩⟩
end
noncomputable def eW{b:Type}(N:Nat):KasT b->(b->Prop)->Prop
 | .ret a,Q=>Q a
 | .ask i j k,Q=>i<N/\j<N/\∀c,eW N (k c) Q
theorem uA{b:Type}{N:Nat}{Q d:b->Prop}(e:∀a,Q a->d a):∀{t:KasT b},eW N t Q->eW N t d
 | .ret a,h=>e a h
 | .ask _ _ _,h=>⟨h.1,h.2.1,λc=>uA e<|h.2.2 c⟩
theorem lP{b d:Type}{N:Nat}{f:b->KasT d}{P:b->Prop}{Q:d->Prop}:∀{t:KasT b},eW N t P->(∀a,P a->eW N (f a) Q)->eW N (t.bind f) Q
 | .ret a,h,g=>g a h
 | .ask _ _ _,h,g=>⟨h.1,h.2.1,λc=>lP (h.2.2 c) g⟩
theorem uB{b:Type}{N:Nat}{cmp:Nat->Nat->(Bool->Shared->Prop)->Shared->Prop}{s:Shared}{G:b->Shared->Prop}
  (d:∀i j C,i<N->j<N->(∀c,C c s)->cmp i j C s):∀{t:KasT b},eW N t (λa=>G a s)->t.kasWp cmp G s
 | .ret _,h=>h
 | .ask i j k,h=>d i j _ h.1 h.2.1 λc=>uB d<|h.2.2 c
theorem hN{d:Type}{N:Nat}{c:Prop}[Decidable c]{a b:KasT d}{Q:d->Prop}(e:c->eW N a Q)(f:¬c->eW N b Q):eW N (if c then a else b) Q:=by
 by_cases h:c
 .exact Y (az h)<|e h
 .exact Y (ay h)<|f h
noncomputable def dN(p:Array Nat)(N:Nat):Prop:=p.toList.Perm<|List.range N
section
variable{N:Nat}{p:Array Nat}
theorem dN.size(h:dN p N):p.size=N:=(List.Perm.length_eq h).trans cF
theorem dN.fX(h:dN p N){i:Nat}(hi:i<N):p.getD i 0<N:=by
 have hs:i<p.size:=h.size.symm▸hi;have e:p.getD i 0=p[i]:=by unfold Array.getD;refine Y (dif_pos hs) ?_;rfl
 exact Y e<|cz.mp<|(List.Perm.mem_iff h).mp<|Array.getElem_mem_toList hs
theorem dN.of(h:dN p N){q:Array Nat}(a:q.Perm p):dN q N:=(Array.perm_iff_toList_perm.mp a).trans h
theorem dN.rev(h:dN p N)(i j:Nat):dN (kas_rev p i j) N:=h.of<|mirror_perm _ _ _ _
theorem oo{n N:Nat}(h:n<N):n-1<N:=b0 (Nat.sub_le _ _) h
theorem mT{n f N:Nat}(h:n+(f+1)<=N):n+1+f<=N:=by rw[dD,d3 1];exact h
theorem iX{n f N:Nat}(h:n+(f+1)<=N):n<N:=bt (kx<|fj f) h
theorem qJ(P:dN p N):∀(f n:Nat),n+f<=N->eW N (kas_asc p f n) λm=>m<=N
 |0,n,h=>h
 |f+1,n,h=>⟨P.fX<|iX h,P.fX<|oo<|iX h,λc=>hN (λZ=>c2<|iX h) λZ=>qJ P f (n+1)<|mT h⟩
noncomputable def Ag(N:Nat)(r:Array Nat×Nat×Nat):Prop:=dN r.1 N/\r.2.1<=N
theorem Ah:∀(f:Nat)(p:Array Nat)(n q:Nat),dN p N->n+f<=N->eW N (kas_desc f p n q) (Ag N):=by
 intro f;induction f with
 |zero=>exactλp n q P h=>⟨P,h⟩
 |succ f a=>exactλp n q P h=>⟨P.fX (iX h),P.fX (oo (iX h)),λc=>hN (λZ=>hN (λZ=>a _ _ _ (P.rev _ _) (mT h)) λZ=>a _ _ _ P (mT h))
   λZ=>⟨P.fX (oo (iX h)),P.fX (iX h),λd=>hN (λZ=>⟨P,c2 (iX h)⟩) λZ=>a _ _ _ P (mT h)⟩⟩
noncomputable def qK(N:Nat)(r:Nat×Array Nat):Prop:=r.1<=N/\dN r.2 N
theorem tail_any(P:dN p N){n:Nat}(h:n<=N):eW N (kas_tail3 n N p) (qK N):=lP (qJ (P.rev 0 n) (N-n) n<|bF<|hC h) λm hm=>⟨hm,P.rev 0 n⟩
theorem uC(P:dN p N){n:Nat}(h:n<N):eW N (kas_descPart n N p) (qK N):=lP (Ah (N-(n+1)) p (n+1) 0 P<|bF<|hC h) λr a=>hN (λZ=>tail_any (a.1.rev _ _) a.2) λZ=>tail_any a.1 a.2
theorem Ai(P:dN p N)(b:1<=N):eW N (kas_count N p) (qK N):=
 lP (qJ P (N-1) 1<|bF<|hC b) λn hn=>hN (λZ=>⟨hn,P⟩) λh=>
  have a:n<N:=kC hn λe=>h<|gY.mpr e
  hN (λZ=>⟨P.fX b,P.fX<|oo a,λc=>hN (λZ=>⟨hn,P⟩) λZ=>uC (P.rev 0 n) a⟩) λZ=>uC P a
theorem Aj{l r:Nat}(h:l<r):(l+r)/2<r:=(Nat.div_lt_iff_lt_mul Nat.two_pos).mpr<|Nat.mul_two r▸Nat.add_lt_add_right h r
theorem Ak{l r:Nat}(h:l<=r):l<=(l+r)/2:=(Nat.le_div_iff_mul_le Nat.two_pos).mpr<|Nat.mul_two l▸bz h l
theorem Al(P:dN p N){k:Nat}(b:k<N):∀(f l r:Nat),l<=r->r<=k->eW N (kas_place p k f l r) λZ=>True:=by
 intro f;induction f with
 |zero=>exactλZ Z Z Z=>trivial
 |succ f d=>exactλl r e a=>hN (λZ=>trivial) λh=>
  have hm:=Aj<|Nat.lt_of_not_le h
  ⟨P.fX b,P.fX<|ei (bt hm a) b,λc=>hN (λZ=>d l _ (Ak e)<|ah (c2 hm) a) λZ=>d _ r hm a⟩
theorem Am:∀(f k:Nat)(p:Array Nat),dN p N->k+f<=N->eW N (kas_bin f p k) λq=>dN q N:=by
 intro f;induction f with
 |zero=>exactλZ Z P Z=>P
 |succ f a=>exactλk Z P h=>lP (Al P (iX h) k 0 k (a6 _)<|aM _) λl Z=>a (k+1) _ (P.of<|bubble_perm _ _ _)<|mT h
theorem An(b:1<=N):eW N (kas_sort N) λq=>dN q N:=lP (Ai (p:=List.toArray<|List.range N) (List.Perm.refl _) b) λr a=>hN (λZ=>Am _ _ _ a.2<|bF<|(d3 _ _).trans<|Nat.sub_add_cancel<|Nat.max_le.mpr ⟨a.1,b⟩) λZ=>a.2
end
inductive e6:Nat->V->V->Prop
 |int (n:Nat) (i j:Int):e6 n (.int i) (.int j)
 |str (n:Nat) (i j:Str):e6 n (.str i) (.str j)
 |tup (n:Nat) (l r:List V):(∀(i:Nat) a b,l[i]? =some a->r[i]? =some b->a8 n a/\a8 n b)->(∀(i:Nat) a b,l[i]? =some a->r[i]? =some b->e6 n a b)->e6 (n+1) (.tup l) (.tup r)
inductive jL:KK->V->Prop
 |s (x:Str):jL .s (.str x)
 |i (x:Int):jL .i (.int x)
 |t (x:List V):jL .t (.tup x)
inductive oq(k:KK):V->Prop
 |mk (v:V) (l:List V):jL k v->oq k (.tup<|v::l)
noncomputable def ot(l:List V):Prop:=l.length<64/\(∀a∈l,∀b∈l,e6 30 a b)/\(l.length<2\/(∀v∈l,jL .s v)\/∃k,∀v∈l,oq k v)
noncomputable def ou(l:List V)(k:List V->Prop):Prop:=(∃is:List Int,l=is.map V.int/\l.length<64/\∀js:List Int,js.Perm is->js.Pairwise (· <= ·)->k (js.map V.int))\/(ot l/\∀r,r.Perm l->k r)
section
variable{S:aN}{μ:Lay}{h o:Heap}{u B:ai}{s:Shared}{A:Around}{E:Value->Shared->Prop}{prog:Program}{w:World}{n:Nat}{a b v:V}{x y:Value}
noncomputable def ov(μ:Lay)(n:Nat)(a b:V):Prop:=∀(prog:Program)(w:World)(A:Around)(E:Value->Shared->Prop)(s:Shared)(x y:Value)(Q:Value->Shared->Prop),
 VR μ s.heap a x->VR μ s.heap b y->A.units+2*n+10<cLine->(∀c,Q (.bool c) s)->wpAny (model prog w) A (compareOp .Lt x y) Q E s
theorem qL{k:Nat}(h:A.units+2*n+10<cLine)(e:k<=2*n+10:=by exact ah (Nat.le_mul_of_pos_left _ af) (cp _ _)):A.units+k<cLine:=b0 (dD _ _ _▸bz e _) h
open Classical in
theorem Ao{R:Option PySem.Fin×Unit->Shared->Prop}{body:Value×Value->Option PySem.Fin×Unit->Sem (ForInStep (Option PySem.Fin×Unit))}
  (p:∀x y,body (x,y) (none,())=(do
   if !(←eqBool x y) then do
    rule "tuple.compare.by-the-first-pair-that-differs"
    let r←ret (←richCompare .Lt x y)
    pure (.done (some r,()))
   else pure (.yield (none,())))) (h:A.units+2*n+10<cLine) (q:∀c,R (some (PySem.Fin.done (.ret (.bool c))),()) s) (j:R (none,()) s):
  ∀{l r:List V}{xs e:List Value},(∀(i:Nat) a b,l[i]? =some a->r[i]? =some b->a8 n a/\a8 n b/\ov μ n a b)->aA μ s.heap l xs->aA μ s.heap r e->wpAny (model prog w) A (forIn (xs.zip e) (none,()) body) R E s:=by
 intro l;induction l with
 |nil=>intro r xs e _ f g;cases f;exact Y List.zip_nil_left<|Y jz<|aq j
 |cons a l t=>
  intro r xs e k f g;cases r with
  |nil=>
   cases g
   exact Y List.zip_nil_right<|Y jz<|aq j
  |cons b r=>
   refine b6 f.cons_inv λx xs u m rl=>?_;clear f;obtain rfl:=u;refine b6 g.cons_inv λy e v o rr=>?_;clear g;obtain rfl:=v;refine b1 (k 0 a b rfl rfl) λz k2 lt=>?_;refine Y List.zip_cons_cons<|Y (jy ..)<|Y (p ..)<|ae<|ae<|mP z k2 m o (qL h) ?_;generalize hd:decide (a=b)=d;clear hd;cases d with
   |true=>exact aq<|t (λi=>k<|i+1) rl rr
   |false=>exact e5<|ae<|lt prog w A E s x y _ m o h λc=>bO<|aq<|aq<|q c
theorem Aq{l r:List V}(j:∀(i:Nat) a b,l[i]? =some a->r[i]? =some b->a8 n a/\a8 n b/\ov μ n a b):ov μ (n+1) (.tup l) (.tup r):=by intro prog w A E s x y Q o p d e;refine VR.fF o λa vs q Z ga va=>?_;refine VR.fF p λb ws m Z f t=>?_;have g:s.TypeIs (.ref a) "tuple":=⟨_,ga,rfl⟩;have h:s.TypeIs (.ref b) "tuple":=⟨_,f,rfl⟩;refine wpAny_richCompare_same_room (op:= .Lt) g h PySem.F.slot_tuple_lt (da PySem.F.slot_tuple_lt g PySem.F.entry_tuple_lt ?_<|PySem.F.args_tuple_lt_2 _ _)<|qL (k:=0) d<|a6 _;refine bO<|ae<|kF h isSubtype_tuple_tuple ?_;refine ck af ?_;refine ae<|tupleItemsOf_ ⟨_,ga,rfl,q,rfl⟩<|ae<|tupleItemsOf_ ⟨_,f,rfl,m,rfl⟩<|ae ?_;refine Ao (n:=n) (R:=_) (λx y=>rfl) ?_ (λc=>aq ⟨_,rfl,nofun,e c⟩) (aq ⟨_,rfl,nofun,e _⟩) j va t;show A.units+1+2*n+10<cLine;exact b0 (ef (ah (bF<|d0 ..)<|fk _) 10) d
theorem Ar(c:e6 n a b):ov μ n a b:=by
 induction c with
 |int n i j=>exactλprog w A E s x y Q d f k g=>VR.fm d λZ=>VR.fm f λZ=>wpAny_lt_int<|g _
 |str n i j=>exactλprog w A E s x y Q d f k g=>VR.d5 d λZ Z=>VR.d5 f λZ Z=>PySem.P.lt_str<|g _
 |tup n l r h _ m=>exact Aq λi a b e e'=>⟨(h i a b e e').1,(h i a b e e').2,m i a b e e'⟩
noncomputable def uD:KK->Value
 | .s=> .type "str"
 | .i=> .type "int"
 | .t=> .type "tuple"
theorem uE{M:Model}{k:KK}(e:jL k v)(r:VR μ h v x):Looks M h (typeOf x) (uD k):=by
 cases e with
 |s=>exact VR.d5 r λZ Z=>Looks.of_pure rfl
 |i=>exact VR.fm r λZ=>Looks.of_pure rfl
 |t l=>refine VR.fF r λa vs n Z g Z=>?_;exact(Looks.ld g).andThen .now
theorem As{k:KK}{l:List V}:∀{vs:List Value},aA μ h l vs->(∀v∈l,oq k v)->∃fs,KatTups h vs fs/\fs.length=vs.length/\∀(M:Model),∀f∈fs,Looks M h (typeOf f) (uD k):=by
 induction l with
 |nil=>intro vs r _;cases r;exact⟨[],.nil,rfl,λZ f hf=>(bw hf)⟩
 |cons v l d=>
  intro vs r c;obtain⟨x,xs,rfl,a,r⟩:=r.cons_inv;obtain⟨fs,e,g,j⟩:=d r λv m=>c v<|fc _ m;cases c v fC with|mk y t o=>
  refine VR.fF a λb ws n Z p q=>?_;obtain⟨f,hf,s⟩:=q.get (i:=0) (v:=y) rfl;exact⟨f::fs,.cons p rfl rfl (Y cE.symm hf) e,ar Nat.succ g,λM=>List.forall_mem_cons.mpr ⟨uE o s,j M⟩⟩
theorem uF{k:KK}{Q:Bool->Shared->Prop}(h:jL k a)(hn:k≠.t)(e:e6 n a b)(d:VR μ s.heap a x)(f:VR μ s.heap b y)(g:∀c,Q c s):wpAny (model prog w) A (oneLt' true x y) Q E s:=by
 cases h with
 |s=>cases e;exact VR.d5 d λZ Z=>VR.d5 f λZ Z=>oneLt_str<|g _
 |i=>cases e;exact VR.fm d λZ=>VR.fm f λZ=>oneLt_int<|g _
 |t=>exact absurd rfl hn
open Classical in
theorem Av{b:Bool}{k:KK}{Q:Bool->Shared->Prop}(u:b=true->k≠.t)(o:A.units+2*n+10<cLine)(f:∀c,Q c s){l:List V}:∀{r:List V}{xs e:List Value}{i:Nat}{a7:Bool},(∀(i:Nat) a b,l[i]? =some a->r[i]? =some b->a8 n a/\a8 n b/\e6 n a b)->aA μ s.heap l xs->aA μ s.heap r e->
  (i=0->∀v t,l=v::t->jL k v)->KatLex prog w A b a7 Q (xs.zip e) i s:=by
 induction l with
 |nil=>intro r xs e i a7 _ g _ _;cases g;exact Y List.zip_nil_left<|kat_nil<|f _
 |cons a l B=>
  intro r xs e i a7 p g h C;cases r with
  |nil=>cases h;exact Y List.zip_nil_right<|kat_nil<|f _
  |cons c r=>
   refine b6 g.cons_inv λx xs D j rl=>?_;clear g;obtain rfl:=D;refine b6 h.cons_inv λy e E m rr=>?_;clear h;obtain rfl:=E;refine b1 (p 0 a c rfl rfl) λF k2 lt=>?_;refine Y List.zip_cons_cons<|kat_cons<|mP F k2 j m (qL o) ?_;generalize hd:decide (a=c)=d;clear hd;cases d with
   |true=>exact kat_yes<|B (λi=>p<|i+1) rl rr λz=>nomatch z
   |false=>
    refine kat_no ?_;cases q:(b&&i==0) with
    |true=>exact uF (C (gY.mp (fe.mp q).2) a l rfl) (u (fe.mp q).1) lt j m f
    |false=>exact kat_one x y<|Ar lt prog w A _ s x y _ j m o f
theorem aA.getD{l:List V}{vs:List Value}(r:aA μ h l vs){i:Nat}(hi:i<l.length):VR μ h l[i] (vs.getD i .none):=by refine ak (r.get<|cc hi) λx a b=>?_;exact Y eQ<|Y a b
theorem Aw{l:List V}{vs:List Value}{Q:SortKind->Shared->Prop}(r:aA μ s.heap l vs)(u:2<=l.length)(M:A.units+100<cLine)(B:ot l)
  (I:∀J:SortKind,(∀(i j:Nat)(C:Bool->Shared->Prop),i<l.length->j<l.length->(∀c,C c s)->kas_ask prog w A J vs i j C s)->Q J s):
  wpAny (model prog w) A (keyKind' vs.toArray) Q E s:=by
 have D:=r.length;refine Or.elim B.2.2 (λg=>?_) λN=>Or.elim N (λg=>?_) λO=>jE O λk hf=>?_
 .exact absurd u<|hH.mpr g
 .refine kas_kind (T:= .type "str") (D▸u) (λv h=>?_) af af (I _ λi j C hi f F=>?_)
  .obtain⟨i,hi,rfl⟩:=List.getElem_of_mem h;have d:=r.getD (i:=i)<|D▸hi;rw[eQ,cc hi] at d;exact uE (g _<|gW _) d
  .show wpAny _ _ (keyLt' _ _ _) _ _ _;exact Y (keyLt'_oneType ..) (uF (g _<|gW hi) (nomatch ·) (B.2.1 _ (gW hi) _<|gW f) (r.getD hi) (r.getD f) F)
 .obtain⟨fs,P,R,K⟩:=As r hf;refine kat_kind P (Y R<|Y D<|bt Nat.zero_lt_two u) (K _) (by clear hf K;cases k<;>decide)<|I _ λi j C hi f F=>?_;have d:=r.getD hi;have G:=r.getD f;have ce:=B.2.1 _ (gW hi) _<|gW f;have o:=hf _<|gW hi;generalize l[i]=a at d ce o;generalize l[j]=c at G ce;show wpAny _ _ (keyLt' _ _ _) _ _ _;generalize vs.getD i .none=x at d;generalize vs.getD j .none=y at G;cases ce with
  |int=>exact nomatch o
  |str=>exact nomatch o
  |tup _ a c L S=>
   cases o with|mk v t h=>
   refine VR.fF d λp xs n fp U W=>?_;refine VR.fF G λq ac m ad X aa=>?_;refine kat_lt U rfl X rfl<|Av (n:=29) (k:=k) (λab=>?_) ?_ F (λi a b e e'=>⟨(L i a b e e').1,(L i a b e e').2,S i a b e e'⟩) W aa λZ Z Z e=>?_
   .intro z;clear h;subst z;revert ab;decide
   .exact b0 (dD _ _ _▸bz (by decide:2*29+10<=100) _) M
   .cases e;exact h
end
section
variable{S:aN}{μ:Lay}{h g:Heap}{u v:ai}{s:Shared}{A:Around}{E:Value->Shared->Prop}{prog:Program}{w:World}
theorem cS.c{o:Obj}(i:cS o):o.cls= .type "tuple"\/o.cls= .type "range":=by cases i;exact .inl rfl;exact .inr rfl
theorem ow{vs:Array Value}{n:Nat}(i:cS (dM vs n)):False:=i.c.elim (λe=>absurd (Value.type.inj e) af) λe=>absurd (Value.type.inj e) af
theorem Ax{is:List Int}:∀{vs:List Value},aA μ h (is.map V.int) vs->IntsAre vs is:=by
 induction is with
 |nil=>intro vs r;cases r;exact .nil
 |cons i l b=>intro vs r;refine b6 r.cons_inv λx e c a d=>?_;clear r;obtain rfl:=c;refine VR.fm a λt=>?_;exact .cons _ _<|b d
theorem Ay{ns:List Int}{vs:List Value}(a:IntsAre vs ns):aA μ h (ns.map V.int) vs:=by
 induction a with
 |nil=>exact .nil
 |cons _ _ _ b=>exact .cons _ _ _ _ (.int _ _) b
theorem Az{a:Type}(l:List a)(d:a):(List.range l.length).map (λi=>l.getD i d)=l:=by
 refine ic λi=>?_;refine Y b9 ?_;by_cases hi:i<l.length
 .refine Y (h7 hi) (Y (cc hi) ?_);show some (l.getD i d)=_;refine Y eQ<|Y (cc hi) ?_;rfl
 .refine Y (ez<|eS hi)<|Y (ez (by rw[cF];exact eS hi)) ?_;rfl
theorem AA{l:List V}{vs:List Value}(r:aA μ h l vs):∀(ps:List Nat),(∀i∈ps,i<l.length)->aA μ h (ps.map λi=>l.getD i .none) (ps.map λi=>vs.getD i .none):=by
 intro ps;induction ps with
 |nil=>exactλZ=> .nil
 |cons i ps a=>
  intro k;refine .cons _ _ _ _ ?_<|a λj b=>k j<|fc _ b
  .have hi:=k i fC;show VR μ h (l.getD i .none) _;exact Y eQ<|Y (cc hi)<|r.getD hi
theorem AB{a:Addr}{vs:List Value}{l:List V}{n:Nat}{P:PySem.Fin->Shared->Prop}{k:List V->Prop}(u:s.heap.get? a=some (seqObj "list" vs.toArray n))(v:aA μ s.heap l vs)(T:ou l k)(U:A.units+100<cLine)
  (h:∀(q:List V)(out:Array Value),k q->aA μ s.heap q out.toList->P (.done<|.ret .none) {s with heap:=sortedHeap s.heap a vs out}):
  wpAny (model prog w) A (Builtin.«list.sort» ⟨[.ref a],[]⟩) P E s:=by
 have c:=v.length;rcases T with⟨is,rfl,d,B⟩|⟨O,B⟩
 .exact list_sort_tree u (Ax v) (c▸d) λout W X g aa=>h _ out (B W g aa)<|Ay X
 .have d:vs.length<64:=c▸O.1;have D:∀{m},m<64->m<=sizeLine:=λz=>ah (c2 z) af;refine Y (list_sort_plain ..) ?_;have J:a<s.heap.objs.size:=bA u;refine ae<|listItems_at u rfl ?_;refine ae<|listUpdate_at u rfl ?_ (D d)<|a6 _;obtain⟨K,L⟩:∃K,(s.heap.update a<|Obj.mapSeq λZ=>(#[]:Array Value)).get? a=some (seqObj "list" #[] K):=⟨_,get?_update_seq u λZ=> #[]⟩;refine ae<|seqEpoch_at L rfl ?_;refine ae<|wpAny_newTuple ?_<|D d;refine ae<|wpAny_newList ?_<|a6 _;refine eD ?_;generalize F:((s.heap.update a<|Obj.mapSeq λZ=>(#[]:Array Value)).push<|seqObj "tuple" vs.toArray 0).push (seqObj "list" #[] 0)=t
  have x:t.get? a=some (seqObj "list" #[] K):=by exact Y F.symm<|Y (Heap.get?_push_ne _ _ _ (by rw[size_push',Heap.size_update];exact bk<|gn J))<|Y (Heap.get?_push_ne _ _ _ (by rw[Heap.size_update];exact bk J)) L
  have ab:Move μ s.heap μ t:=by
   refine⟨λZ Z e=>e,λb o e Z im=>?_,λZ Z Z f Z=>f⟩;have ac:b≠a:=by clear h J L F x;rintro rfl;obtain rfl:=aT<|u.symm.trans e;exact ow im
   exact Y F.symm<|bZ _<|bZ _<|(Heap.get?_update_ne _ _ _ _ ac).trans e
  have ad:=v.move ab
  have a7:∀(q:List V)(out:Array Value),k q->aA μ s.heap q out.toList->P (.done<|.ret .none) {s with heap:=t.update a (Obj.mapSeq λZ=>out)}:=λq out ag r=>by exact Y F.symm<|h q out ag r
  dsimp only;by_cases g:vs.toArray.size<2
  .refine Y (az g) (Y (az g)<|bO ?_);refine Y (StateT.run_pure ..)<|bO ?_;dsimp only;refine ae<|seqEpoch_at x rfl ?_
   have ai:(arrOf<|SortSt.mk' general' (vs.toArray.zip vs.toArray) #[] 7 none).map (·.2)=vs.toArray:=by show(vs.toArray.zip vs.toArray).map (·.2)=_;apply Array.toList_inj.mp;simp;exact List.map_snd_zip<|aM _
   refine Y ai<|ae<|listUpdate_at x rfl ?_ (a6 _)<|gp<|D d;refine ck (λz=>hG.mp z rfl) ?_;exact aq<|a7 l _ (B l<|.refl _) v
  .refine Y (ay g) (Y (ay g) ?_);have M:2<=l.length:=c▸eS g;refine ae<|Aw (s:={s with heap:=t}) ad M U O λaj ak=>?_
   have R:=uB (cmp:=kas_ask prog w A aj vs) (s:={s with heap:=t}) (G:=λ(p:Array Nat) y=>y={s with heap:=t}/\dN p l.length) (N:=l.length) (λi j C hi al am=>ak i j C hi al am)
    (uA (λp hp=>⟨rfl,hp⟩)<|An<|jr M)
   rw[←c] at R
   refine ae (bU (kat_run (Q:=λI y=>∃p:Array Nat,p.size=vs.length/\arrOf I=p.map (kas_item (vs.toArray.zip vs.toArray))/\failedOf I=none/\y={s with heap:=t}/\dN p vs.length)
    rfl (c▸M) d (λan I y ao ap ar as=>⟨an,ao,ap,ar,as⟩) R) ?_ λZ Z e=>e)
   rintro⟨⟨⟩,I⟩ y ⟨p,hp,au,hf,rfl,S⟩;refine Y (kat_snds rfl au)<|ae<|seqEpoch_at x rfl ?_;refine ae<|listUpdate_at x rfl ?_ (a6 _)<|Y List.size_toArray<|Y (aV ..)<|Y cZ<|Y hp<|gp<|D d;refine Y hf<|Y (ay λz=>hG.mp z rfl) ?_;have av:∀i∈p.toList,i<l.length:=λi hi=>c▸cz.mp ((List.Perm.mem_iff S).mp hi);refine aq<|a7 (p.toList.map λi=>l.getD i .none) _ (B _ ?_)<|AA v _ av;have q:=(List.Perm.map (λi=>l.getD i V.none) S);rw[c,Az] at q;exact q
end
noncomputable def jM(S:Addr)(h a:Heap):Prop:=∀b o,b≠S->h.get? b=some o->a.get? b=some o
noncomputable def df(h a:Heap):Prop:=∀b o,h.get? b=some o->a.get? b=some o
section
variable{prog:Program}{w:World}{A:Around}{E:Value->Shared->Prop}{R:Result->Shared->Prop}{s:Shared}
structure kO(prog:Program)(w:World)(S:Addr)(n:Nat)(J:Addr->Nat->Heap->List Value->Prop):Prop where
 mU:∀I i h a acc,J I i h acc->jM S h a->J I i a acc
 next:∀(A:Around)(E:Value->Shared->Prop)(Q:Option Value->Shared->Prop)(s:Shared) I i acc,A.handled=none->i<n->S<s.heap.objs.size->J I i s.heap acc->
  (∀v a tk,J I (i+1) a (acc++[v])->(∀b o,b≠I->s.heap.get? b=some o->a.get? b=some o)->Q (some v) {s with heap:=a,toks:=tk})->wpAny (model prog w) A (pyNext<|.ref I) Q E s
 done:∀(A:Around)(E:Value->Shared->Prop)(Q:Option Value->Shared->Prop)(s:Shared) I acc,A.handled=none->J I n s.heap acc->
  (∀a tk,(∀b o,b≠I->s.heap.get? b=some o->a.get? b=some o)->Q none {s with heap:=a,toks:=tk})->wpAny (model prog w) A (pyNext<|.ref I) Q E s
 apart:∀I i h acc,J I i h acc->I≠S
theorem AD{S I:Addr}{n:Nat}{J:Addr->Nat->Heap->List Value->Prop}(W:kO prog w S n J)(hh:A.handled=none)(hn:n<=aF)(u:Value){h₀:Heap}(x:h₀.get? I=none)(D:h₀.get? S=none):
  ∀(k i:Nat)(h:Heap)(tk c:Nat)(acc:Array Value),i+k=n->acc.size=i->J I i h acc.toList->h.get? S=some (dM acc c)->(∀b o,h₀.get? b=some o->h.get? b=some o)->
  (∀a f c'(p:Array Value),p.size=n->(∃y,J I n y p.toList/\(∀b o,b≠I->y.get? b=some o->a.get? b=some o))->a.get? S=some (dM p c')->(∀b o,h₀.get? b=some o->a.get? b=some o)->R (.ok<|.ret u) {s with heap:=a,toks:=f})->
  codeAny (model prog w) A (.builtin "list.extend.loop" ⟨[.ref S,.ref I,u],[]⟩) R {s with heap:=h,toks:=tk}:=by
 intro k;induction k with
 |zero=>intro i h tk c acc m hz d g r j;clear hn;obtain rfl:i=n:=m;have l:=W.apart _ _ _ _ d;refine hF PySem.F.entry_extend_loop ?_;refine Y (iJ mH _)<|ae<|W.done A.in1 _ _ {s with heap:=h,toks:=tk} I _ hh d λa f hm=>?_;exact aq<|j a f c acc hz ⟨h,d,hm⟩ (hm S _ l.symm g) λb o e=>hm b o (λq=>by clear d j l hm;subst q;rw[x] at e;exact a4 e)<|r b o e
 |succ k z=>
  intro i h tk c acc m hz d g r j;have hi:i<n:=m▸kx (fj k);have B:=ah (c2 hi)<|eH hn;have l:=W.apart _ _ _ _ d;refine hF PySem.F.entry_extend_loop ?_;refine Y (iJ mH _)<|ae<|W.next A.in1 _ _ {s with heap:=h,toks:=tk} I i _ hh hi (bA g) d λv a f C hm=>?_;have t:=hm S _ l.symm g;refine ae ?_;have up:jM S a (a.update S (Obj.mapSeq (·.push v))):=λb o E e=>(ky _ _<|cO E).trans e
  refine wpAny_updateSeq t rfl (aq ⟨iN mH _,z (i+1) _ f _ (acc.push v) ((d0 i 1 k).trans m) ((Array.size_push ..).trans<|ar Nat.succ hz) ?_ (h6 _ t rfl) ?_ j⟩)
   (hz▸B) ((Array.size_push ..)▸hz▸cR B)
  .exact Y jt<|W.mU _ _ _ _ _ C up
  .intro b o e;exact up b o (λq=>by clear W z g j l t up;subst q;rw[D] at e;exact a4 e)<|hm b o (λq=>by clear d C hm;subst q;rw[x] at e;exact a4 e)<|r b o e
structure Source(prog:Program)(w:World)(s:Shared)(r:Addr)(S:Addr)(n:Nat)(J:Addr->Nat->Heap->List Value->Prop):Prop where
 typ:∃T,(∀a:Shared,jM S s.heap a.heap->a.TypeIs (.ref r) T)/\(Value.type T==Value.type "list")=false/\(Value.type T==Value.type "tuple")=false
 ne:S≠r
 iter:∀(A:Around)(E:Value->Shared->Prop)(Q:Value->Shared->Prop)(a:Shared),jM S s.heap a.heap->S<a.heap.objs.size->(∀d c dr,J c.objs.size 0 (c.push d) []->df a.heap c->Q (.ref c.objs.size) {a with heap:=c.push d,drawn:=dr})->wpAny (model prog w) A (pyIter<|.ref r) Q E a
 hint:∀(A:Around)(E:Value->Shared->Prop)(Q:Bool->Shared->Prop)(a:Shared),jM S s.heap a.heap->(∀b tk,Q b {a with toks:=tk})->wpAny (model prog w) A (Builtin.List.listLengthHint<|.ref r) Q E a
theorem uG{r S:Addr}{n:Nat}{J:Addr->Nat->Heap->List Value->Prop}(W:kO prog w S n J)(K:Source prog w s r S n J)(hh:A.handled=none)(hn:n<=aF)(z:s.heap.get? S=none)(p:Value){h:Heap}{c₀ tk:Nat}
  (j:jM S s.heap h) (B:h.get? S=some (dM #[] c₀))
  (E:∀c t c' dr(l:Array Value),l.size=n->(∃I u,s.heap.get? I=none/\J I n u l.toList/\(∀b o,b≠I->u.get? b=some o->c.get? b=some o))->c.get? S=some (dM l c')->df s.heap c->R (.ok<|.ret p) {s with heap:=c,toks:=t,drawn:=dr}):
  wpAny (model prog w) A.in1 (Builtin.List.listExtendWith (.ref S) (.ref r) p)
   (λa7 v=>match a7 with| .done f=>R (.ok f) v| .again c'=>c'.quiet=true/\codeAny (model prog w) A c' R v) (λe v=>R (.error e) v) {s with heap:=h,toks:=tk}:=by
 refine bE K.typ λT F P Q=>?_;have G:S<h.objs.size:=bA B;have L:∀{c:Heap},jM S s.heap c->df s.heap c:=λk b o e=>k b o (λq=>by clear W K j B E F G k;subst q;rw[z] at e;exact a4 e) e
 have key:∀(d:Obj)(a m:Heap)(C tk:Nat) dr,J a.objs.size 0 (a.push d) []->df h a->jM S (a.push d) m->
   m.get? S=some (dM #[] C)->codeAny (model prog w) A (.builtin "list.extend.loop" ⟨[.ref S,.ref a.objs.size,p],[]⟩) R {s with heap:=m,toks:=tk,drawn:=dr}:=by
  intro d a m C tk dr x g D i;have M:df s.heap a:=λb o e=>g b o<|L j b o e
  have N:s.heap.get? a.objs.size=none:=by
   cases q:s.heap.get? a.objs.size with
   |none=>rfl
   |some o=>exact absurd (bA<|M _ _ q)<|eh _
  exact AD (s:={s with drawn:=dr}) W hh hn p (h₀:=s.heap) N z n 0 m tk C #[] (eE n) rfl (W.mU _ _ _ _ _ x D) i
   (λb o e=>D b o (λq=>by clear L D i;subst q;rw[z] at e;exact a4 e)<|bZ _<|M b o e)
   λc t c' l U ⟨u,V,X⟩ aa ab=>E c t c' dr l U ⟨_,u,N,V,X⟩ aa ab
 refine ae<|wpAny_typeOf (T:=T) (F _ j) ?_;have ac:Builtin.List.listSameRef (.ref S) (.ref r)=false:=beq_false_of_ne K.ne;simp only[ac,P,Q,Bool.or_false,Bool.false_eq_true,if_false];refine ae<|K.iter _ _ _ {s with heap:=h,toks:=tk} j G λd a dr x g=>?_;have i:=bZ d<|g _ _ B;refine c0<|K.hint _ _ _ {s with heap:=a.push d,toks:=tk,drawn:=dr} (λb o y e=>bZ _<|g _ _<|j b o y e) λb t=>?_;refine eC (λZ=>?_) λZ=>aq ⟨iN mH _,key d a _ c₀ _ dr x g (λb o Z e=>e) i⟩;refine e5 ?_;refine ae ?_;refine ae<|wpAny_updateSeq i rfl ?_;have O:=h6 (Obj.mapSeq (·.push Value.none)) i rfl;refine wpAny_updateSeq (hz:=by seq_fits) O rfl ?_;have ad:=h6 (Obj.mapSeq (·.pop)) O rfl;refine aq ⟨iN mH _,key d a _ _ _ dr x g (λb o y e=>?_) ad⟩;exact(ky _ _<|cO y).trans<|(ky _ _<|cO y).trans e
theorem qM{r:Addr}{n:Nat}{J:Addr->Nat->Heap->List Value->Prop}{Q:List Value->Shared->Prop}(W:kO prog w s.heap.objs.size n J)(K:Source prog w s r s.heap.objs.size n J)(hh:A.handled=none)(hn:n<=aF)
  (h:∀a tk dr(acc:List Value),acc.length=n->(∃I j,s.heap.get? I=none/\J I n j acc/\(∀b o,b≠I->j.get? b=some o->a.get? b=some o))->df s.heap a->Q acc {s with heap:=a,toks:=tk,drawn:=dr}):
  wpAny (model prog w) A (collect<|.ref r) Q E s:=by
 refine ae<|wpAny_runValue<|hF PySem.F.entry_proto_collect ?_;refine Y (iJ PySem.F.plain_proto_collect _) ?_;show wpAny _ A.in1 (newList []>>=λl=>again<|.builtin "list.__iadd__" ⟨[l,.ref r],[]⟩) _ _ s;refine ae<|ib ?_;refine aq ⟨iN PySem.F.plain_list_iadd _,hF PySem.F.entry_list_iadd ?_⟩;refine Y (iJ PySem.F.plain_list_iadd _) ?_
 have key:=uG (A:=A) (tk:=s.toks) (h:=s.heap.push {cls:= .type "list",data:= .seq ([]:List Value).toArray}) (c₀:=0) (R:=λq d=>q= .ok (.ret<|.ref s.heap.objs.size)/\∃acc c,d.heap.get? s.heap.objs.size=some (dM acc c)/\Q acc.toList d)
  W K hh hn (Heap.get?_none_of_le<|aM _) (.ref s.heap.objs.size) (λb o Z e=>bZ _ e) (cy _ rfl)
  λa m c' dr k p t u v=>⟨rfl,k,c',u,h a m dr k.toList (cZ.trans p) t v⟩
 refine bU key (λa7 d x=>?_) λe d x=>?_
 .cases a7 with
  |done f=>refine jA x λe z=>?_;refine cq z λacc c g i=>?_;clear x;cases e;exact ae<|wpAny_load g<|aq i
  |again D=>refine⟨x.1,codeAny_mono x.2 λq G y=>?_⟩;refine jA y λB C=>?_;refine cq C λacc c g i=>?_;clear y;obtain rfl:=B;exact ae<|wpAny_load g<|aq i
 .refine jA x λe' Z=>?_;cases e'
theorem AE{r:Addr}{n:Nat}{J:Addr->Nat->Heap->List Value->Prop}{Q:Value->Shared->Prop}(W:kO prog w s.heap.objs.size n J)(K:Source prog w s r s.heap.objs.size n J)(hh:A.handled=none)(hn:n<=aF)
  (h:∀a tk c dr(acc:Array Value),acc.size=n->(∃I f,s.heap.get? I=none/\J I n f acc.toList/\(∀b o,b≠I->f.get? b=some o->a.get? b=some o))->a.get? s.heap.objs.size=some (dM acc c)->df s.heap a->Q (.ref s.heap.objs.size) {s with heap:=a,toks:=tk,drawn:=dr}):
  wpAny (model prog w) A (call (.type "list") [.ref r]) Q E s:=by
 refine callType_codes (Q₁:=λobj s₁=>obj= .ref s.heap.objs.size/\s₁={s with heap:=s.heap.push {cls:= .type "list",data:= .seq #[]}}) PySem.F.called_list (PySem.F.typeCall_list_1 _) PySem.F.entry_list_init
  (code_list_new _ ⟨rfl,rfl⟩) λobj s₁ g=>?_
 refine jA g λi j=>?_;obtain rfl:=i;clear g;obtain rfl:=j;have d:(s.heap.push {cls:= .type "list",data:= .seq #[]}).get? s.heap.objs.size=some {cls:= .type "list",data:= .seq #[]}:=cy _ rfl;refine⟨⟨_,d,rfl⟩,PySem.F.args_list_init_2 _ _,?_⟩;show wpAny _ _ (do let old←Builtin.List.listItems (.ref s.heap.objs.size);Builtin.List.listUpdate (.ref s.heap.objs.size) (λZ=> #[]);letGo old.toList.reverse;Builtin.List.listExtendWith (.ref s.heap.objs.size) (.ref r) .none) _ _ _;refine ae<|listItems_at d rfl ?_;refine ae<|listUpdate_at d rfl ?_;have k:=h6 (Obj.mapSeq λZ=>(#[]:Array Value)) d rfl;refine ae<|wpAny_letGo ?_;refine uG (A:=A.in1) (tk:=s.toks) W K hh hn (Heap.get?_none_of_le<|aM _) .none (λb o l e=>?_) k λa m c' dr p q t u v=>⟨rfl,h a m c' dr p q t u v⟩;exact(ky _ _<|cO l).trans<|bZ _ e
end
section
variable{prog:Program}{w:World}{A:Around}{E:Value->Shared->Prop}{s:Shared}{d I S:Addr}{ents:Array DictEntry}{ep i:Nat}
noncomputable def mV(d:Addr)(n ep i:Nat):Obj:={cls:= .type "dict_keyiterator",data:= .fields #[.ref d,.int i 0,.int n 0,.int ep 0]}
theorem jN{a:Int}:¬((a !=a)=true):=Y (bne_self_eq_false ..) b3
theorem AF{Q:Value->Shared->Prop}(hd:(d==sysModules)=false)(hm:s.heap.get? d=some (cW ents ep))
  (b:Q (.ref s.heap.objs.size) {s with heap:=s.heap.push (mV d ents.size ep 0)}):wpAny (model prog w) A (pyIter<|.ref d) Q E s:=by
 have a:s.TypeIs (.ref d) "dict":=⟨_,hm,rfl⟩;refine wpAny_pyIter_slot a PySem.F.slot_dict_iter<|da PySem.F.slot_dict_iter a PySem.F.entry_dict_iter ?_<|PySem.F.args_dict_iter_1 _;refine ae ?_;refine ae<|jq a ?_;show wpAny _ _ (pure<|Value.ref d) _ _ s;refine aq ?_;show wpAny _ _ (Builtin.Dict.showsAll d>>=_) _ _ s;unfold Builtin.Dict.showsAll;refine Y (ay (by rw[hd];exact eB))<|bO ?_;refine ae<|fQ hm rfl ?_;refine ae<|jw hm rfl ?_;exact ae<|ib<|aq ⟨_,rfl,"dict_keyiterator",_,⟨_,cy _ rfl,rfl⟩,mG.lookup,b⟩
theorem AG{Q:Option Value->Shared->Prop}(c:s.heap.get? I=some (mV d ents.size ep i))(hm:s.heap.get? d=some (cW ents ep)){e:DictEntry}(g:ents[i]? =some e)
  (h:∀a,a.get? I=some (mV d ents.size ep<|i+1)->Heap.SameBut I s.heap a->Q (some e.key) {s with heap:=a}):wpAny (model prog w) A (pyNext<|.ref I) Q E s:=by
 have b:s.TypeIs (.ref I) "dict_keyiterator":=⟨_,c,rfl⟩
 refine ae (jB (gk (name:=Str.ofString "__next__") b mG
  (da mG b PySem.F.entry_dict_keyiterator_next ?_ (PySem.F.args_dict_keyiterator_next_1 _))))
 refine bO ?_;refine ae<|ae<|ae<|nW b<|aq ?_;refine ae<|wpAny_fieldsOf c rfl ?_;refine ck (show¬((Value.ref d==Value.none)=true) from eB) ?_;refine bO<|ae<|fQ hm rfl ?_;refine ck jN ?_;refine bO<|ae<|jw hm rfl ?_;refine ck jN ?_;refine aq ?_;dsimp only;refine Y (show(if(i:Int)<0 then none else ents[(i:Int).toNat]?)=some e from(ay<|Int.not_lt.mpr<|eR i).trans g)<|ae<|ae<|nW b<|aq ?_;refine ae<|wpAny_isOneOf_keyiter b ?_;show wpAny _ _ (setField (.ref I) 1 (rawInt<|(i:Int)+1)>>=_) _ _ s;refine ae<|fz c (kA rfl) λa f hs=>?_;have j:Shared.TypeIs {s with heap:=a} (.ref I) "dict_keyiterator":=⟨_,f,rfl⟩;refine c0<|ae<|wpAny_isOneOf_keyiter j ?_;exact aq<|aq ⟨_,rfl,aq<|h a f hs⟩
theorem qN{Q:Option Value->Shared->Prop}(hh:A.handled=none)(d:∀c,Heap.ExtBut I s.heap c->Q none {s with heap:=c}):
  wpAny (model prog w) A.in1 (do raiseNew (←newExc (.type "StopIteration") []):Sem PySem.Fin) (λZ Z=>False) (λe f=>wpAny (model prog w) A (do if←isInstance e (.type "StopIteration") then pure (none:Option Value) else throw e) Q E f) s:=by
 refine ae ?_;refine ae<|ib ?_ (by size_fits);refine ae (m:=firstArgMember _ _)<|wpAny_of_eq (a:=Value.none) (by first|rfl|(simp only[firstArgMember];rfl)) ?_;refine ib ?_ (by size_fits);refine ae<|wpAny_handled ?_;refine Y (show A.in1.handled=none from hh)<|bO<|wpAny_throw ?_;refine ae<|kF (T:="StopIteration") (b:=true) ⟨_,cy _ rfl,rfl⟩ isSubtype_stop ?_;exact aq<|d _<|((Heap.ExtBut.refl I s.heap).push _).push _
theorem AH{Q:Option Value->Shared->Prop}(hh:A.handled=none)(f:s.heap.get? I=some (mV d ents.size ep ents.size))(hm:s.heap.get? d=some (cW ents ep))
  (i:∀a,Heap.ExtBut I s.heap a->Q none {s with heap:=a}):wpAny (model prog w) A (pyNext<|.ref I) Q E s:=by
 have c:s.TypeIs (.ref I) "dict_keyiterator":=⟨_,f,rfl⟩
 refine ae (jB (gk (name:=Str.ofString "__next__") c mG
  (da mG c PySem.F.entry_dict_keyiterator_next ?_ (PySem.F.args_dict_keyiterator_next_1 _))))
 refine bO ?_;refine ae<|ae<|ae<|nW c<|aq ?_;refine ae<|wpAny_fieldsOf f rfl ?_;refine ck (show¬((Value.ref d==Value.none)=true) from eB) ?_;refine bO<|ae<|fQ hm rfl ?_;refine ck jN ?_;refine bO<|ae<|jw hm rfl ?_;refine ck jN ?_;refine aq ?_;dsimp only;refine Y (show(if(ents.size:Int)<0 then none else ents[(ents.size:Int).toNat]?)=none from(ay<|Int.not_lt.mpr<|eR _).trans<|kz<|aM _)<|ae<|ae<|nW c<|aq ?_;show wpAny _ _ (setField (.ref I) 0 .none>>=_) _ _ s;refine ae<|fz f (kA rfl) λa l hs=>?_;show wpAny _ _ (newExc (.type "StopIteration") []>>=_) _ _ _;refine bU (qN (s:={s with heap:=a}) (I:=I) (Q:=Q) (E:=E) hh λj k=>i j λb o g e=>k b o g<|hs.extBut b o g e) (λZ Z h=>h.elim) λe m h=>?_;exact h
noncomputable def fY(d:Addr)(n ep i:Nat)(own:Value)(f:Bool)(ok a:Value):Obj:={cls:= .type "dict_itemiterator",data:= .fields #[own,.bool f,.ref d,.int i 0,.int n 0,.int ep 0,ok,a]}
noncomputable def g7(d:Addr):Obj:={cls:= .type "dict_items",data:= .fields #[.ref d]}
noncomputable def iY(e:DictEntry):Obj:={cls:= .type "tuple",data:= .seq #[e.key,e.val]}
theorem uH{Q:Value->Shared->Prop}(hd:(d==sysModules)=false)(hm:s.heap.get? d=some (cW ents ep))
  (b:Q (.ref s.heap.objs.size) {s with heap:=s.heap.push (g7 d)}):wpAny (model prog w) A (call (.builtin "dict.items") [.ref d]) Q E s:=by
 have a:s.TypeIs (.ref d) "dict":=⟨_,hm,rfl⟩;refine da PySem.F.slot_dict_items a PySem.F.entry_dict_items ?_<|PySem.F.args_dict_items_1 _;refine ae ?_;refine ae<|jq a ?_;refine aq ?_;show wpAny _ _ (Builtin.Dict.showsAll d>>=_) _ _ s;unfold Builtin.Dict.showsAll;refine Y (ay (by rw[hd];exact eB))<|bO ?_;exact ae<|ib<|aq ⟨_,rfl,b⟩
theorem AI{v:Addr}{Q:Value->Shared->Prop}(a:s.heap.get? v=some (g7 d))(hm:s.heap.get? d=some (cW ents ep))
  (c:Q (.ref s.heap.objs.size) {s with heap:=s.heap.push (fY d ents.size ep 0 .none false .none .none)}):wpAny (model prog w) A (pyIter<|.ref v) Q E s:=by
 have b:s.TypeIs (.ref v) "dict_items":=⟨_,a,rfl⟩;refine wpAny_pyIter_slot b PySem.F.slot_dict_items_iter<|da PySem.F.slot_dict_items_iter b PySem.F.entry_dict_items_iter ?_<|PySem.F.args_dict_items_iter_1 _;refine bO ?_;refine ae ?_;refine ae<|eU a rfl (x:= .ref d) rfl<|aq ?_;refine ae ?_;refine ae<|fQ hm rfl<|ae<|jw hm rfl ?_
 refine ib (aq ⟨_,rfl,"dict_itemiterator",_,⟨_,cy _ rfl,rfl⟩,mF.lookup,?_⟩)
  (show 8<=sizeLine+2 from sizeLine_eq▸af)
 exact c
theorem lQ{own:Value}{f:Bool}{n:Nat}{ok b:Value}{k:Nat}{x:Value}{Q:Unit->Shared->Prop}{o':Obj}(c:s.heap.get? I=some (fY d n ep i own f ok b))(g:k<8)
  (e:({cls:= .type "dict_itemiterator",data:= .fields ((#[own,.bool f,.ref d,.int i 0,.int n 0,.int ep 0,ok,b]:Array Value).setIfInBounds k x)}:Obj)=o')
  (h:∀a,a.get? I=some o'->Heap.SameBut I s.heap a->Q () {s with heap:=a}):wpAny (model prog w) A (setField (.ref I) k x) Q E s:=by
 subst e;exact fz c g h
theorem AJ{a:Addr}{o:Obj}{Q:Option Obj->Shared->Prop}(b:s.heap.get? a=some o)(h:Q (some o) s):wpAny (model prog w) A (loadIfAlive a) Q E s:=by
 have c:Q (s.heap.get? a) s:=Y b h
 exactλZ Z Z=>c
noncomputable def qO(I S:Addr)(h:Heap)(own:Value):Prop:=own= .none\/∃(a:Addr)(b:Obj),own=rawInt (a:Int)/\h.get? a=some b/\a≠I/\a≠S
theorem AK{own:Value}{f:Bool}{ok k:Value}{Q:Option Value->Shared->Prop}(n:s.heap.get? I=some (fY d ents.size ep i own f ok k))(O:qO I S s.heap own)(P:S<s.heap.objs.size)(hm:s.heap.get? d=some (cW ents ep)){e:DictEntry}(R:ents[i]? =some e)
  (J:∀p K f' T U,p.get? I=some (fY d ents.size ep (i+1) K f' T U)->qO I S p K->p.get? s.heap.objs.size=some (iY e)->(∀b o,b≠I->s.heap.get? b=some o->p.get? b=some o)->Q (some<|.ref s.heap.objs.size) {s with heap:=p}):
  wpAny (model prog w) A (pyNext<|.ref I) Q E s:=by
 have q:s.TypeIs (.ref I) "dict_itemiterator":=⟨_,n,rfl⟩;have u:I<s.heap.objs.size:=bA n
 refine ae (jB (gk (name:=Str.ofString "__next__") q mF
  (da mF q PySem.F.entry_dict_itemiterator_next ?_ (PySem.F.args_dict_itemiterator_next_1 _))))
 refine bO ?_;refine ae<|ae<|ae<|nV q<|aq ?_;refine ae<|wpAny_fieldsOf n rfl ?_;refine ck (show¬((Value.ref d==Value.none)=true) from eB) ?_;refine bO<|ae<|fQ hm rfl ?_;refine ck jN ?_;refine bO<|ae<|jw hm rfl ?_;refine ck jN ?_;refine aq ?_;dsimp only;refine Y (show(if(i:Int)<0 then none else ents[(i:Int).toNat]?)=some e from(ay<|Int.not_lt.mpr<|eR i).trans R)<|ae<|ae<|nV q<|aq ?_;refine ae<|wpAny_isOneOf_itemiter q ?_;show wpAny _ _ (setField (.ref I) 3 (rawInt<|(i:Int)+1)>>=_) _ _ s;refine ae<|lQ (o':=fY d ents.size ep (i+1) own f ok k) n af rfl λg v y=>?_;have z:Shared.TypeIs {s with heap:=g} (.ref I) "dict_itemiterator":=⟨_,v,rfl⟩;refine c0 ?_;refine ae<|wpAny_isOneOf_itemiter z ?_;refine ae<|wpAny_isOneOf_itemiter z ?_;refine ae<|wpAny_newTuple ?_;have B:g.objs.size=s.heap.objs.size:=y.1;have h:(g.push<|iY e).get? I=some (fY d ents.size ep (i+1) own f ok k):=bZ _ v;have C:(g.push<|iY e).get? s.heap.objs.size=some (iY e):=Y B.symm<|cy _ rfl;have t:∀b o,b≠I->s.heap.get? b=some o->(g.push<|iY e).get? b=some o:=λb o c e=>bZ _<|y.extBut b o c e;show wpAny _ _ (Builtin.Dict_items.ownedTupleIsFree (.ref I)>>=_) _ _ {s with heap:=g.push (iY e)};refine Y (show(Value.ref g.objs.size)=Value.ref s.heap.objs.size by rw[B]) ?_;generalize g.push (iY e)=m at h C t;clear v z B y g;rcases O with rfl|⟨a,D,rfl,V,G,W⟩
 .refine ae (ae<|eU h rfl (x:= .none) rfl<|aq ?_);refine ae<|eU h rfl (x:=ok) rfl ?_;refine ae<|eU h rfl (x:=k) rfl ?_;refine ae<|lQ (s:={s with heap:=m}) (o':=fY d ents.size ep (i+1) .none f e.key k) h af rfl λj r l=>?_;refine ae<|lQ (s:={s with heap:=j}) (o':=fY d ents.size ep (i+1) .none f e.key e.val) r af rfl λX aa ab=>?_;refine ae<|lQ (s:={s with heap:=X}) (o':=fY d ents.size ep (i+1) (rawInt s.heap.objs.size) f e.key e.val) aa af rfl λac ad ag=>?_;refine ae<|lQ (s:={s with heap:=ac}) (o':=fY d ents.size ep (i+1) (rawInt s.heap.objs.size) false e.key e.val) ad af rfl λL ah ai=>?_;have kk:∀b o,b≠I->m.get? b=some o->L.get? b=some o:=λb o c e=>ai.extBut b o c<|ag.extBut b o c<|ab.extBut b o c<|l.extBut b o c e;have M:=kk _ _ (du u) C;exact ae<|wpAny_letGo<|aq<|aq ⟨_,rfl,aq<|J L _ _ _ _ ah (.inr ⟨_,_,rfl,M,du u,du P⟩) M λb o c e=>kk b o c<|t b o c e⟩
 .have N:m.get? a=some D:=t a D G V;refine ae<|ae<|eU h rfl (x:=rawInt a) rfl ?_;show wpAny _ _ (loadIfAlive ((a:Int).toNat)>>=_) _ _ _;refine Y (fR ..)<|ae<|AJ N ?_;refine ae<|eU h rfl (x:= .bool f) rfl ?_
  have a7:∀j:Heap,j.get? I=some (fY d ents.size ep (i+1) (rawInt a) true ok k)->Heap.SameBut I m j->Q (some<|.ref s.heap.objs.size) {s with heap:=j}:=λj r l=>
   J j _ _ _ _ r (.inr ⟨a,D,rfl,l.extBut _ _ G N,G,W⟩) (l.extBut _ _ (du u) C) λb o c e=>l.extBut b o c<|t b o c e
  clear n;cases f with
  |true=>refine ck (show¬((Value.bool true !=Value.bool true)=true) from eB) ?_;refine aq ?_;exact aq<|aq ⟨_,rfl,aq<|a7 m h<|Heap.SameBut.refl _ _⟩
  |false=>refine gZ (show(Value.bool false !=Value.bool true)=true from rfl) ?_;refine ae<|lQ (s:={s with heap:=m}) (o':=fY d ents.size ep (i+1) (rawInt a) true ok k) h af rfl λj r l=>?_;refine aq ?_;exact aq<|aq ⟨_,rfl,aq<|a7 j r l⟩
theorem AL{own:Value}{f:Bool}{ok j:Value}{Q:Option Value->Shared->Prop}(hh:A.handled=none)(g:s.heap.get? I=some (fY d ents.size ep ents.size own f ok j))(hm:s.heap.get? d=some (cW ents ep))
  (k:∀a,Heap.ExtBut I s.heap a->Q none {s with heap:=a}):wpAny (model prog w) A (pyNext<|.ref I) Q E s:=by
 have c:s.TypeIs (.ref I) "dict_itemiterator":=⟨_,g,rfl⟩
 refine ae (jB (gk (name:=Str.ofString "__next__") c mF
  (da mF c PySem.F.entry_dict_itemiterator_next ?_ (PySem.F.args_dict_itemiterator_next_1 _))))
 refine bO ?_;refine ae<|ae<|ae<|nV c<|aq ?_;refine ae<|wpAny_fieldsOf g rfl ?_;refine ck (show¬((Value.ref d==Value.none)=true) from eB) ?_;refine bO<|ae<|fQ hm rfl ?_;refine ck jN ?_;refine bO<|ae<|jw hm rfl ?_;refine ck jN ?_;refine aq ?_;dsimp only;refine Y (show(if(ents.size:Int)<0 then none else ents[(ents.size:Int).toNat]?)=none from(ay<|Int.not_lt.mpr<|eR _).trans<|kz<|aM _)<|ae<|ae<|nV c<|aq ?_;show wpAny _ _ (setField (.ref I) 2 .none>>=_) _ _ s;refine ae<|fz g (kA rfl) λa n hs=>?_;show wpAny _ _ (newExc (.type "StopIteration") []>>=_) _ _ _;refine bU (qN (s:={s with heap:=a}) (I:=I) (Q:=Q) (E:=E) hh λl m=>k l λb o i e=>m b o i<|hs.extBut b o i e) (λZ Z h=>h.elim) λe p h=>?_;exact h
structure uI(d S:Addr)(ents:Array DictEntry)(ep:Nat)(I:Addr)(i:Nat)(h:Heap)(acc:List Value):Prop where
 it:h.get? I=some (mV d ents.size ep i)
 dict:h.get? d=some (cW ents ep)
 vals:acc=(ents.toList.take i).map (·.key)
 nI:I≠S
 nd:d≠S
 kP:I≠d
theorem AM:kO prog w S ents.size (uI d S ents ep) where
 mU:=λI i h a acc j k=>⟨k _ _ j.nI j.it,k _ _ j.nd j.dict,j.vals,j.nI,j.nd,j.kP⟩
 next:=λA E Q s I i acc hh hi l j c=>by refine AG j.it j.dict (dI hi) λa f hs=>c _ a s.toks ⟨f,hs.extBut _ _ j.kP.symm j.dict,?_,j.nI,j.nd,j.kP⟩ λb o g e=>hs.extBut b o g e;exact Y j.vals<|Y List.take_add_one<|Y dT<|Y (cE.trans<|dI hi) rfl
 done:=λA E Q s I acc hh j c=>AH hh j.it j.dict λa f=>c a s.toks λb o g e=>f b o g e
 apart:=λI i h acc j=>j.nI
structure qP(d S:Addr)(ents:Array DictEntry)(ep:Nat)(I:Addr)(i:Nat)(h:Heap)(acc:List Value):Prop where
 it:∃own f ok b,h.get? I=some (fY d ents.size ep i own f ok b)/\qO I S h own
 dict:h.get? d=some (cW ents ep)
 vals:∃as:List Addr,acc=as.map Value.ref/\as.length=i/\∀(j:Nat) a,as[j]? =some a->∃e,ents[j]? =some e/\h.get? a=some (iY e)/\I<a
 sI:S<I
 nd:d≠S
 kP:I≠d
theorem uJ:kO prog w S ents.size (qP d S ents ep) where
 mU:=λI i h l acc j k=>by
  refine cj j.it λown f C=>?_;refine cq C λok r c m=>?_;refine bE j.vals λas t n u=>?_;refine⟨⟨own,f,ok,r,k _ _ (du j.sI) c,?_⟩,k _ _ j.nd j.dict,⟨as,t,n,λp a e=>?_⟩,j.sI,j.nd,j.kP⟩
  .clear C c;rcases m with rfl|⟨a,G,rfl,J,K,D⟩
   .exact .inl rfl
   .exact .inr ⟨a,G,rfl,k _ _ D J,K,D⟩
  .refine bE (u p a e) λen v x g=>?_;exact⟨en,v,k _ _ (du<|ei j.sI g) x,g⟩
 next:=λA E Q s I i acc hh hi L j y=>by
  refine cj j.it λown f M=>?_;refine cq M λok r c m=>?_;refine bE j.vals λas t n u=>?_;have N:I<s.heap.objs.size:=bA c;refine AK (S:=S) c m L j.dict (dI hi) λl O f' P R z T U B=>y _ l s.toks ⟨⟨O,f',P,R,z,T⟩,B _ _ j.kP.symm j.dict,⟨as++[s.heap.objs.size],(ar (· ++[Value.ref s.heap.objs.size]) t).trans (dT (l₂:=[s.heap.objs.size])).symm,a0.trans (ar (· +1) n),λp a e=>?_⟩,j.sI,j.nd,j.kP⟩ B;refine Or.elim (Nat.lt_trichotomy p as.length) (λq=>?_) λF=>Or.elim F (λq=>?_) λq=>?_
  .rw[fP q] at e;refine bE (u p a e) λen v x g=>?_;exact⟨en,v,B _ _ (du g) x,g⟩
  .clear F;subst q;obtain rfl:=aT<|List.getElem?_concat_length.symm.trans e;exact⟨_,(ar (λk=>ents[k]?) n).trans<|dI hi,U,N⟩
  .rw[ez (by rw[a0];exact q)] at e;exact a4 e
 done:=λA E Q s I acc hh j y=>by refine cj j.it λown f V=>?_;refine cq V λok r c m=>?_;exact AL hh c j.dict λl z=>y l s.toks λb o W e=>z b o W e
 apart:=λI i h acc j=>du j.sI
theorem AN(hd:(d==sysModules)=false)(hm:s.heap.get? d=some (cW ents ep))(a:s.heap.get? S=none):Source prog w s d S ents.size (uI d S ents ep) where
 typ:=⟨"dict",λb k=>⟨_,k d _ (λq=>by clear k;subst q;rw[a] at hm;exact a4 hm) hm,rfl⟩,by decide,by decide⟩
 ne:=λq=>by clear hd;subst q;rw[a] at hm;exact a4 hm
 iter:=λA E Q b k g c=>by
  have h:d≠S:=λq=>by clear k g c;subst q;rw[a] at hm;exact a4 hm
  have f:=k d _ h hm;refine AF hd f<|c _ _ b.drawn ⟨cy _ rfl,bZ _ f,rfl,du g,h,du<|bA f⟩ λZ Z e=>e
 hint:=λA E Q b k c=>kdl_hint_dict ⟨_,k d _ (λq=>by clear k;subst q;rw[a] at hm;exact a4 hm) hm,rfl⟩<|c false b.toks
theorem uK{v:Addr}(b:s.heap.get? v=some (g7 d))(hm:s.heap.get? d=some (cW ents ep))(c:s.heap.get? S=none):Source prog w s v S ents.size (qP d S ents ep) where
 typ:=⟨"dict_items",λf k=>⟨_,k v _ (λq=>by clear k;subst q;rw[c] at b;exact a4 b) b,rfl⟩,by decide,by decide⟩
 ne:=λq=>by subst q;rw[c] at b;exact a4 b
 iter:=λA E Q f k l g=>by
  have h:d≠S:=λq=>by clear k l g;subst q;rw[c] at hm;exact a4 hm
  have m:v≠S:=λq=>by clear h;subst q;rw[c] at b;exact a4 b
  have i:=k d _ h hm;refine AI (k v _ m b) i<|g _ _ f.drawn ⟨⟨_,_,_,_,cy _ rfl,.inl rfl⟩,bZ _ i,⟨[],rfl,rfl,λj a e=>by simp at e⟩,l,h,Nat.ne_of_gt<|Heap.lt_size i⟩ λZ Z e=>e
 hint:=λA E Q f k g=>kdx_hint ⟨_,k v _ (λq=>by clear k;subst q;rw[c] at b;exact a4 b) b,rfl⟩<|g false f.toks
end
noncomputable def lR(a:ai)(l:List V)(P:V->ai->Prop):Prop:=ou l λq=>P (.ref a.length)<|a++[.list q]
noncomputable def uL(a:ai)(v:V)(P:V->ai->Prop):Prop:=(dj a v λZ l=>lR a l P)\/eV a v λZ Z es=>es.length<64/\lR a (es.map (·.1)) P
noncomputable def dx(es:List (V×V)):List V:=es.map λe=> .tup [e.1,e.2]
noncomputable def oy(a:ai)(v:V)(P:V->ai->Prop):Prop:=eV a v λZ Z es=>es.length<64/\lR a (dx es) P
noncomputable def lS(a:ai)(v:V)(P:V->ai->Prop):Prop:=eV a v λZ Z es=>es.length<=aF/\P (.ref a.length) (a++[.list<|dx es])
section
variable{S:aN}{μ:Lay}{h t:Heap}{u B:ai}{s:Shared}{A:Around}{E:Value->Shared->Prop}{v:V}{x y:Value}{P:V->ai->Prop}
theorem uM{l:List V}{k:List V->Prop}(h:ou l k):l.length<64:=by
 rcases h with⟨is,_,h,_⟩|⟨h,_⟩
 .exact h
 .exact h.1
theorem gE(a:df h t):Move μ h μ t:=⟨λZ Z e=>e,λb o e Z Z=>a b o e,λZ Z Z f Z=>f⟩
theorem uN{m:Nat}(z:m<64):m<=sizeLine:=ah (c2 z) af
theorem oz{D:List V->Prop}(st:St S μ u s.heap)(j:A.units+120<cLine)(a:∀l,D l->lR u l P)
  (k:∀(E:Value->Shared->Prop)(R:List Value->Shared->Prop),(∀t tk dr l acc,D l->df s.heap t->aA μ t l acc->R acc {s with heap:=t,toks:=tk,drawn:=dr})->wpAny (model S.prog S.w) A.in1 (collect y) R E s):
  wpAny (model S.prog S.w) A (call (.builtin "sorted") [y]) (Rs S μ s P) E s:=by
 refine d7<|Calls.call_function_entry kind_sorted plain_sorted entry_sorted (args_sorted1 _) ?_;refine ae (m:=checkCount "sorted" 1 1 _)<|aq<|ae<|d7<|k _ _ λt tk dr l acc hd n d hz=>?_;have a:=a l hd;refine ae<|wpAny_newList ?_<|d.length▸uN (uM a);have c:(t.push<|seqObj "list" acc.toArray 0).get? t.objs.size=some (seqObj "list" acc.toArray 0):=cy _ rfl;have r:Move μ t μ (t.push<|seqObj "list" acc.toArray 0):=gE λb o e=>bZ _ e;refine c0<|da slot_list_sort ⟨_,c,rfl⟩ entry_list_sort (AB (A:=A.in1.in1) (s:={s with heap:=t.push<|seqObj "list" acc.toArray 0,toks:=tk,drawn:=dr}) c (d.move r) a (A1<|A1 j (m:=110)) λq out p v=>⟨_,rfl,?_⟩)<|args_list_sort _;refine aq ⟨_,rfl,λx=>?_⟩;refine jE (sortedHeap_at (out:=out) c) λe B=>?_
 have old:∀b o,t.get? b=some o->(sortedHeap (t.push<|seqObj "list" acc.toArray 0) t.objs.size acc out).get? b=some o:=λb o e=>by have h:=bA e;exact Y (sortedHeap_old (bk h) (by rw[size_push'];exact gn h))<|bZ _ e
 refine mS st tk hz (λb o e=>old b o<|n b o e) x (λF C fo=> .list q out e B (v.move ⟨C.lay,λb o e f im=>?_,λb o e f im g=>?_⟩) rfl) p
 all_goals have i:b≠t.objs.size:=λz=>by obtain rfl:=aT<|c.symm.trans<|z▸e;exact ow im
 .exact Y (sortedHeap_old i<|bA e) e
 .exact(fo b g).elim f i
theorem AO{w:World}{kk:KK}{es:List (V×V)}{l:List DictEntry}(r:cb w kk μ h es l):aA μ h (es.map (·.1)) (l.map (·.key)):=by
 induction r with
 |nil=>exact .nil
 |cons _ _ _ _ _ _ a _ _ _ b=>exact .cons _ _ _ _ a b
theorem uO{m:Nat}(z:m<64):m<=aF:=ah (c2 z) af
theorem mW(h:Heap):h.get? h.objs.size=none:=Heap.get?_none_of_le<|aM _
theorem AP(hh:A.handled=none)(h:A.units+120<cLine)(st:St S μ u s.heap)(r:VR μ s.heap v x)(e:uL u v P):wpAny (model S.prog S.w) A (call (.builtin "sorted") [x]) (Rs S μ s P) bq s:=by
 rcases e with e|e
 .refine dU st r e λi a l vs n Z k Z g va c=>oz (D:=(· =l)) st h (λZ e=>e▸c) λE R f=>?_;refine collect_list (vs:=vs.toList) ⟨_,g,rfl,n,rfl⟩ ?_<|uN<|va.length▸uM c
  have c:df s.heap ((s.heap.push<|seqObj "list" #[] 0).update s.heap.objs.size (Obj.mapSeq (· ++vs.toList.toArray))):=λb o e=>
   (ky _ _<|du<|bA e).trans (bZ _ e)
  exact f _ s.toks s.drawn _ _ rfl c<|va.move<|gE c
 .refine fW st r e λi d kk es ents ep Z k Z g va Z c=>oz (D:=(· =es.map (·.1))) st h (λZ e=>e▸c.2) λE R f=>?_;refine qM AM (AN (st.gy k) g<|mW _) hh (va.g6▸uO c.1) λt tk dr acc p m c=>?_;refine b6 m λI q y j z=>?_;refine f t tk dr _ acc rfl c ?_;exact Y j.vals<|Y (List.take_of_length_le<|bF cZ)<|(AO va).move<|gE c
theorem AQ{w:World}{kk:KK}{I:Addr}{es:List (V×V)}{l:List DictEntry}(r:cb w kk μ h es l)(c:df h t):∀{as:List Addr},as.length=l.length->
  (∀(j:Nat) a,as[j]? =some a->∃e,l[j]? =some e/\t.get? a=some (iY e)/\¬foot μ a)->aA μ t (dx es) (as.map Value.ref):=by
 induction r with
 |nil=>intro as b _;cases as with|nil=>exact .nil|cons=>cases b
 |cons k v x y es l rk f _ _ g=>
  intro as b d;cases as with
  |nil=>cases b
  |cons a as=>refine bE (d 0 a rfl) λe i m n=>?_;cases i;exact .cons _ _ _ _ (.tup _ a _ _ n m<|.cons _ _ _ _ (rk.move<|gE c)<|.cons _ _ _ _ (f.move<|gE c) .nil)<|g (Nat.succ.inj b) λj=>d<|j+1
theorem uP{kk:KK}{es:List (V×V)}{d L I:Addr}{ents:Array DictEntry}{ep:Nat}{acc:List Value}{h₀ c:Heap}(st:St S μ u h₀)(va:cb S.w kk μ h₀ es ents.toList)(j:qP d L ents ep I ents.size c acc)
  (h:h₀.objs.size<=L) (k:df h₀ t) (l:∀b o,b≠I->c.get? b=some o->t.get? b=some o):aA μ t (dx es) acc:=by
 refine bE j.vals λas m n p=>?_;refine Y m<|AQ (I:=I) va k n λi a e=>?_;refine bE (p i a e) λen q r g=>?_;exact⟨en,Y cE q,l _ _ (du g) r,λf=>Nat.lt_asymm (bt (st.lt f) h)<|ei j.sI g⟩
theorem oA(h:Heap)(d:Addr):df h (h.push (g7 d)):=λZ Z e=>bZ _ e
theorem AR(hh:A.handled=none)(f:A.units+120<cLine)(st:St S μ u s.heap)(r:VR μ s.heap v x)(e:oy u v P){Q:Value->Shared->Prop}
  (h:∀z b,wpAny (model S.prog S.w) A (call (.builtin "sorted") [z]) (Rs S μ s P) bq b->Q z b):wpAny (model S.prog S.w) A (call (.builtin "dict.items") [x]) Q bq s:=by
 refine fW st r e λi d kk es ents ep Z k Z g va Z a=>uH (st.gy k) g<|h _ _ ?_;have l:=va.move<|gE (μ:=μ)<|oA s.heap d;have c:=st.push<|g7 d;refine g5 (.push (g7 d) s.toks) (oz (D:=(· =dx es)) (s:={s with heap:=s.heap.push (g7 d)}) c f (λZ e=>e▸a.2) λE R m=>?_);refine qM (s:={s with heap:=s.heap.push (g7 d)}) uJ (uK (cy _ rfl) (oA _ d _ _ g)<|mW _) hh (va.g6▸uO a.1) λt tk dr acc p n a=>?_;refine b6 n λI q y j o=>?_;exact m t tk dr _ acc rfl a<|uP c l j (aM _) a o
theorem AS(hh:A.handled=none)(st:St S μ u s.heap)(r:VR μ s.heap v x)(e:lS u v P){Q:Value->Shared->Prop}
  (m:∀z a,wpAny (model S.prog S.w) A (call (.type "list") [z]) (Rs S μ s P) bq a->Q z a):wpAny (model S.prog S.w) A (call (.builtin "dict.items") [x]) Q bq s:=by
 refine fW st r e λi d kk es ents ep Z n Z g va Z h=>uH (st.gy n) g<|m _ _ ?_;have p:=va.move<|gE (μ:=μ)<|oA s.heap d;have k:=st.push<|g7 d;refine g5 (.push (g7 d) s.toks)<|d7<|AE (s:={s with heap:=s.heap.push (g7 d)}) uJ (uK (cy _ rfl) (oA _ d _ _ g)<|mW _) hh (va.g6▸h.1) λt tk c dr acc D y g' l hs=>?_;refine b6 y λI E F j B=>?_;refine mS (s:={s with heap:=s.heap.push (g7 d)}) k tk (aM _) l hs (λG C fo=> .list _ acc c g' ((uP k p j (aM _) l B).move ⟨C.lay,λb o e Z Z=>e,λb o e f im g2=>(fo b g2).elim f λq=>?_⟩) rfl) h.2;clear f g2;subst q;obtain rfl:=aT<|g'.symm.trans e;exact ow im
end
section
variable{prog:Program}{w:World}{A:Around}{E:Value->Shared->Prop}{s:Shared}
theorem AU{a:Addr}{xs:Array Value}{k:Nat}{Q:Option Value->Shared->Prop}
  (c:s.heap.get? a=some (dM xs k)) (l:A.handled=none) (h:∀b tk,df s.heap b->Q none {s with heap:=b,toks:=tk}):
  wpAny (model prog w) A (getAttr? (.ref a) "keys") Q E s:=by
 obtain⟨hp,g,d,tk,os⟩:=s;have f:∀i,(⟨hp,g,d,i,os⟩:Shared).TypeIs (.ref a) "list":=λZ=>⟨_,c,rfl⟩;have m:typeLookup (.type "list") "keys"=pure none:=by refine Y (typeLookup_type ..)<|Y builtinLookup_eq_fast ?_;kernel_rfl
 have f1:=sub_AttributeError;have n:=PySem.F.slot_list_getattribute.lookup;have o:=PySem.F.slot_list_getattribute.bind<|.ref a;have p:=am_list_getattr_none;unfold getAttr? getAttrBy? getAttrBy
 repeat(any_goals(first|assumption|exact f _|((with_reducible show wpAny _ _ (call (Value.builtin "list.__getattribute__") _ _) _ _ _);refine call_meets PySem.F.slot_list_getattribute (f _) am_entry_list_getattribute (PySem.F.args_list_getattribute_2 _ _) (meets_getattribute_miss_list a xs k #[] "keys" _ m (by decide+kernel)) ⟨c,l,λb i e j=>?_⟩)|wp_step))
 refine cj j.there λq u' r=>?_;unfold getattributeRaised
 repeat(any_goals(first|assumption|wp_step))
 exact h _ _ j.of.keeps
theorem AV{a:Addr}{xs:Array Value}{k:Nat}{Q:Option Value->Shared->Prop}
  (c:s.heap.get? a=some {cls:= .type "tuple",data:= .seq xs k}) (l:A.handled=none) (h:∀b tk,df s.heap b->Q none {s with heap:=b,toks:=tk}):
  wpAny (model prog w) A (getAttr? (.ref a) "keys") Q E s:=by
 obtain⟨hp,g,d,tk,os⟩:=s;have f:∀i,(⟨hp,g,d,i,os⟩:Shared).TypeIs (.ref a) "tuple":=λZ=>⟨_,c,rfl⟩;have m:typeLookup (.type "tuple") "keys"=pure none:=by refine Y (typeLookup_type ..)<|Y builtinLookup_eq_fast ?_;kernel_rfl
 have f1:=sub_AttributeError;have n:=PySem.F.slot_tuple_getattribute.lookup;have o:=PySem.F.slot_tuple_getattribute.bind<|.ref a;have p:=am_tuple_getattr_none;unfold getAttr? getAttrBy? getAttrBy
 repeat(any_goals(first|assumption|exact f _|((with_reducible show wpAny _ _ (call (Value.builtin "tuple.__getattribute__") _ _) _ _ _);refine call_meets PySem.F.slot_tuple_getattribute (f _) am_entry_tuple_getattribute (PySem.F.args_tuple_getattribute_2 _ _) (meets_getattribute_miss_tuple a xs k #[] "keys" _ m (by decide+kernel)) ⟨c,l,λb i e j=>?_⟩)|wp_step))
 refine cj j.there λq u' r=>?_;unfold getattributeRaised
 repeat(any_goals(first|assumption|wp_step))
 exact h _ _ j.of.keeps
end
theorem uQ:entryFor table "dict.update.loop"=some Builtin.«dict.update.loop»:=entryFor_of_tree (by kernel_rfl)
theorem mX:plainId "dict.update.loop"=true:=by decide+kernel
inductive hO(kk:KK):List V->List (V×V)->List (V×V)->Prop
 |nil (es:List (V×V)):hO kk [] es es
 |cons (k v:V) (r:List V) (es es':List (V×V)):bK kk k->hO kk r (bD es k v) es'->hO kk (.tup [k,v]::r) es es'
noncomputable def oB(a:ai)(v:V)(P:V->ai->Prop):Prop:=(lN a v λl=>∃kk es,hO kk l [] es/\l.length<=aF/\P (.ref a.length) (a++[.dict kk es]))\/
 eV a v λZ kk es=>kk= .s/\es.length<=aF/\P (.ref a.length) (a++[.dict kk es])
section
variable{S:aN}{μ G μ₀:Lay}{h u:Heap}{C K:ai}{s D s₀:Shared}{A:Around}{E:Value->Shared->Prop}{R:Result->Shared->Prop}{P:V->ai->Prop}{v:V}{x y:Value}
theorem Step.uR{W:Addr->Prop}(x:Step μ₀ s₀ μ s)(y:bQ W μ s G D)(a:∀b,W b->s₀.heap.get? b=none):Step μ₀ s₀ G D:=
 ⟨λi p e=>y.lay i p (x.lay i p e),λb f=>(y.new b f).elim (x.new b) λq=> .inr (ah x.grow q),λb o e n Z=>y.keep b o (x.keep b o e n id) (x.jG (bA e) n) λw=>((iP (e.symm.trans (a b w)))),
  λb o e n i=>y.jF b o (x.jF b o e n i) (x.jG (bA e) n) i,ah x.grow y.grow,y.gens.trans x.gens,y.os.trans x.os⟩
theorem oC{I:Addr}(st:St S μ C s.heap)(d:¬foot μ I)(g:S.B.objs.size<=I)(h:∃o,s.heap.get? I=some o/\(cS o->False))(hm:∀b o,b∉[I]->s.heap.get? b=some o->u.get? b=some o)(hz:s.heap.objs.size<=u.objs.size)(t:Nat):
  St S μ C u/\bQ (λb=>b=I) μ s μ {s with heap:=u,toks:=t}:=by
 refine ak h λo j hn=>?_;have a:∀b o,b≠I->s.heap.get? b=some o->u.get? b=some o:=λb o q=>hm b o λz=>q<|a3.mp z;have im:∀{b o'},s.heap.get? b=some o'->cS o'->b≠I:=λe i q=>hn (by obtain rfl:=aT<|j.symm.trans<|q▸e;exact i);refine⟨st.same (λb o' e c=>a b o' (λq=>?_) e) hz,⟨λZ Z e=>e,λZ f=> .inl f,λb o' e Z q=>a b o' q e,λb o' e Z i=>a b o' (im e i) e,hz,rfl,rfl⟩⟩;exact c.elim (λf=>d<|q▸f) λc=>c.elim (λi=>im e i q) λc=>hH.mpr (q▸c) g
theorem qQ(es:List (V×V))(k v:V):(bD es k v).length<=es.length+1:=by
 induction es with
 |nil=>exact aM _
 |cons e r a=>
  unfold bD;split
  .exact fk _
  .exact cR a
theorem AW{b}{l:List b}{i:Nat}{a:b}(e:l[i]? =some a):l.set i a=l:=by
 refine ic λk=>?_;by_cases c:i=k
 .subst c;exact Y (gU (cN.mp e).1)<|Y e rfl
 .exact Y (hB c) rfl
theorem mY{b}{l:List b}{i:Nat}{a:b}{r:List b}(e:l.drop i=a::r):l[i]? =some a/\l.drop (i+1)=r:=by
 constructor
 .have:(l.drop i)[0]? =some a:=by refine Y e ?_;rfl
  rw[List.getElem?_drop] at this;exact this
 .have:(l.drop i).drop 1=r:=by refine Y e ?_;rfl
  rw[List.drop_drop] at this;exact this
structure AX(S:aN)(μ:Lay)(I a:Addr)(items:Array Value)(fp:List Addr)(J:Nat->Heap->Prop):Prop where
 walk:∀b,b.handled=none->Walks S.prog S.w b I fp [I] items.size (λi v=>items[i]? =some v) J
 ni:∀i h,J i h->∃o,h.get? I=some o/\(cS o->False)
 apart:a∉fp
 uS:¬foot μ I
 above:S.B.objs.size<=I
theorem AY{I a:Addr}{fp:List Addr}{j:Nat}{J:Nat->Heap->Prop}{items:Array Value}{kk:KK}{es':List (V×V)}(W:AX S μ I a items fp J)(hh:A.handled=none)(L:A.units+100<cLine)(r:μ[j]? =some (a,a))(t:s₀.heap.get? I=none):
  ∀(l:List V)(i:Nat)(es:List (V×V))(c:ai)(s:Shared),i+l.length=items.size->St S μ c s.heap->c[j]? =some (.dict kk es)->J i s.heap->aA μ s.heap l (items.toList.drop i)->hO kk l es es'->es.length+l.length<=aF->Step μ₀ s₀ μ s->
  (∀D,St S μ (c.set j<|.dict kk es') D.heap->Step μ₀ s₀ μ D->R (.ok<|.ret .none) D)->codeAny (model S.prog S.w) A (.builtin "dict.update.loop" ⟨[.ref a,.ref I,.int i 0,.none],[]⟩) R s:=by
 intro l;induction l with
 |nil=>intro i es c s h st hd d m f hz bL n;clear m;obtain rfl:i=items.size:=h;clear hz;cases f;refine hF uQ ?_;refine Y (iJ mX _)<|ae<|d7<|(W.walk A.in1 hh).done s _ _ d λu tk hm p=>?_;have x:=oC st W.uS W.above (W.ni _ _ d) hm p tk;exact bO<|aq<|n _ (Y (AW hd) x.1)<|bL.uR x.2 λb q=>q▸t
 |cons v l M=>
  intro i es c s h st hd d m f hz bL n;cases f with|cons k v Z Z Z ko f=>
  obtain⟨x,as,N,O,P⟩:=m.cons_inv;obtain⟨y,Q⟩:=mY N;rw[cE] at y;have T:i<items.size:=h▸kx (fj _);refine hF uQ ?_;refine Y (iJ mX _)<|ae<|d7<|(W.walk A.in1 hh).item i s _ _ T d λau u tk U X hm p=>?_;obtain rfl:=aT<|y.symm.trans U;have z:=oC st W.uS W.above (W.ni _ _ d) hm p tk;have aa:=z.2.vr O;refine VR.fF aa λab ac tn Z B tr=>?_;obtain⟨C,av,ad,af,tr⟩:=tr.cons_inv;obtain⟨E,aw,rfl,ag,tr⟩:=tr.cons_inv;obtain rfl:=tr.nil_inv;refine c0<|ae<|wpAny_tryCatch ?_;show wpAny _ _ (Builtin.Dict.pairItems<|.ref ab) _ _ _;refine ae<|wpAny_typeOf ⟨_,B,rfl⟩<|eC (λZ=>?_) λaj=>absurd rfl aj;refine ae<|gv B rfl<|aq ?_;show wpAny _ _ (match ac.toList with|[k,v]=>_|l=>_) _ _ _
  refine Y ad ?_;show wpAny _ _ (holding [C,E]<|dictSet a C E) _ _ _;have ak:=z.1.obj _ _ _ _ hd r;cases ak with|dict Z Z ents ep g va nd Z=>
  have F:es.length+(l.length+1)<=aF:=hz;refine eD<|DF.set (A:=A.in1) (s:={s with heap:=u,toks:=tk}) ⟨g,va,nd,ko,af,A1 L⟩ z.1 r ag (ah (cp _ _) F) λD al G am=>aq ⟨iN mX _,?_⟩;have an:=(cN.mp hd).1;refine M (i+1) (bD es k v) _ D (by rw[dD,d3 1];exact h) al (gU an) ((W.walk A hh).frame _ _ _ X λb ao o e=>am b o (λq=>W.apart<|q▸ao) e) (Q▸G.bV (z.2.bV P)) f ?_ ((bL.uR z.2 λb q=>q▸t).trans G) λap K ar=>n ap (by rw[List.set_set] at K;exact K) ar;exact ah (ef (qQ es k v) _) (by rw[dD,d3 1];exact F)
theorem kQ{o:Obj}{T:String}(e:o.cls= .type T)(a:T≠"tuple")(b:T≠"range")(i:cS o):False:=i.c.elim (λq=>a<|Value.type.inj<|e.symm.trans q) λq=>b<|Value.type.inj<|e.symm.trans q
theorem AZ(hh:A.handled=none)(X:A.units+120<cLine)(st:St S μ C s.heap){T:String}{b:Addr}{vs:Array Value}{n:Nat}{l:List V}{kk:KK}{es':List (V×V)}(aa:T="list"\/T="tuple")(g:s.heap.get? b=some {cls:= .type T,data:= .seq vs n})(va:aA μ s.heap l vs.toList)
  (ab:hO kk l [] es') (hz:l.length<=aF) (p:P (.ref C.length) (C++[.dict kk es'])):wpAny (model S.prog S.w) A (call (.type "dict") [.ref b]) (Rs S μ s P) bq s:=by
 refine callType_codes (Q₁:=λobj s₁=>obj= .ref s.heap.objs.size/\s₁={s with heap:=s.heap.push {cls:= .type "dict",data:= .dict #[]}}) PySem.F.kt_called_dict (PySem.F.kt_typeCall_dict_1 _) PySem.F.entry_dict_init (kt_code_dict_new _ ⟨rfl,rfl⟩) ?_;rintro obj s₁ ⟨rfl,rfl⟩;have K:(s.heap.push {cls:= .type "dict",data:= .dict #[]}).get? s.heap.objs.size=some (cW #[] 0):=cy _ rfl;cases n5 (k:=kk) (es:=[]) (ents:= #[]) (ep:=0) (P:=λv ac=>v= .ref C.length/\ac=C++[.dict kk []]) st s.toks .nil List.Pairwise.nil ⟨rfl,rfl⟩ with
 |mk y ar as L M ad N=>
 refine jA N λag ai=>?_;obtain rfl:=ag;clear N;obtain rfl:=ai;have O:Shared.TypeIs {s with heap:=s.heap.push {cls:= .type "dict",data:= .dict #[]}} (.ref s.heap.objs.size) "dict":=⟨_,K,rfl⟩;refine⟨O,PySem.F.args_dict_init_2 _ _,?_⟩;unfold Builtin.«dict.__init__» Builtin.Dict.selfAndRest;refine ae<|ae<|jq O ?_;show wpAny _ _ (pure (s.heap.objs.size,[Value.ref b])) _ _ _;refine aq ?_;show wpAny _ _ (Builtin.Dict.updateFrom "dict.__init__" s.heap.objs.size (.ref b) [] .none) _ _ _;unfold Builtin.Dict.updateFrom;have c:=bZ (cW #[] 0) g;have aj:s.heap.objs.size≠b:=du<|bA g
 have main:∀(u:Heap)(tk:Nat)(J:Nat->Heap->Prop)(f:Obj),df (s.heap.push<|cW #[] 0) u->(s.heap.push<|cW #[] 0).objs.size<=u.objs.size->
   (∀t,t.handled=none->Walks S.prog S.w t u.objs.size [u.objs.size,b] [u.objs.size] vs.size (λi v=>vs[i]? =some v) J)->(∀i h,J i h->∃o,h.get? u.objs.size=some o/\(cS o->False))->J 0 (u.push f)->
   codeAny (model S.prog S.w) A.in1 (.builtin "dict.update.loop" ⟨[.ref s.heap.objs.size,.ref u.objs.size,.int 0 0,.none],[]⟩) (wants (λr ak=>r=Value.none/\Rs S μ s P (.ref s.heap.objs.size) ak) bq) {s with heap:=u.push f,toks:=tk}:=by
  intro u tk J f a d W al am;have z:s.heap.objs.size<u.objs.size:=bA<|a _ _ K;have Q:Step y {s with heap:=s.heap.push<|cW #[] 0,toks:=s.toks} y {s with heap:=u.push f,toks:=tk}:= .keeps (λb o e=>bZ _<|a b o e) (ah d<|Y (eT ..)<|fk _) tk;have R:=L.keeps a d;have an:s.heap.get? u.objs.size=none:=Heap.get?_none_of_le<|c2 z;refine jE ad.nY λb' B=>?_;have ao:=L.obj C.length (.dict kk []) _ _ (fq _ _) B;cases ao with|dict Z Z Z Z Z Z Z ap=>
  subst ap;refine AY (A:=A.in1) (I:=u.objs.size) (fp:=[u.objs.size,b]) (J:=J) (items:=vs) (j:=C.length) (es':=es') (s₀:=s) (μ₀:=μ) ⟨W,al,?_,R.kK,ah st.size<|c2 z⟩ hh (A1 X) B an l 0 [] _ _ ((eE _).trans va.sz.symm) (R.push f) (fq _ _) am (Q.bV<|M.bV va) ab (Y List.length_nil<|Y (eE ..) hz) (M.trans Q) λD U bL=>?_
  .exactλm=>(ba.mp m).elim (λq=>bk z q) λm=>aj<|a3.mp m
  .rw[List.set_append_right _ _<|aM _,iO] at U;exact⟨rfl,y,_,_,U,bL,.ref _ _ _ B,p⟩
 refine ae<|wpAny_typeOf (T:=T) ⟨_,c,rfl⟩ ?_;have no:∀{x:String},x="list_iterator"\/x="tuple_iterator"->x≠"tuple"/\x≠"range":=λq=>q.elim (λq=>q▸⟨by decide,by decide⟩) λq=>q▸⟨by decide,by decide⟩;clear g;rcases aa with rfl|rfl
 .refine eC (λZ=>?_) (λE=>absurd af E);refine ae<|d7<|AU c hh λu tk a d=>e5<|ae<|wpAny_pyIter_list (items:=vs) ⟨_,a _ _ c,rfl,n,rfl⟩ ?_;exact aq ⟨iN mX _,main u tk _ _ a d (λt G=>Walks.list G _ _ (bk<|bA<|a _ _ c) vs) (λi h q=>q.1.elim λo q=>⟨o,q.1,kQ q.2.1 af af⟩) ⟨⟨_,cy _ rfl,rfl,rfl⟩,⟨_,bZ _<|a _ _ c,rfl,n,rfl⟩⟩⟩
 .refine eC (λZ=>?_) (λE=>absurd af E);refine ae<|d7<|AV c hh λu tk a d=>e5<|ae<|lG (items:=vs) ⟨_,a _ _ c,rfl,n,rfl⟩ ?_;exact aq ⟨iN mX _,main u tk _ _ a d (λt G=>Walks.tuple G _ _ (bk<|bA<|a _ _ c) vs) (λi h q=>q.1.elim λo q=>⟨o,q.1,kQ q.2.1 af af⟩) ⟨⟨_,cy _ rfl,rfl,rfl⟩,⟨_,bZ _<|a _ _ c,rfl,n,rfl⟩⟩⟩
theorem A0{w:World}{es:List (V×V)}{ents:List DictEntry}(r:cb w .s μ h es ents):∃ps:List (Str×Value),Pairs (PySem.strKind prog w) ents ps/\(∀e∈ents,∃k,(PySem.strKind prog w).is k e.key=true/\e.hash=(PySem.strKind prog w).hash k)/\ps.map (λp=>V.str p.1)=es.map (·.1)/\
  ∀{G u},Move μ h G u->∀{ents'},Pairs (PySem.strKind prog w) ents' ps->(∀e∈ents',∃k,(PySem.strKind prog w).is k e.key=true/\e.hash=(PySem.strKind prog w).hash k)->cb w .s G u es ents':=by
 induction r with
 |nil=>exact⟨[],.nil,λZ d=>absurd d List.not_mem_nil,rfl,λZ Z hp Z=>by clear Z;cases hp;exact .nil⟩
 |cons k v x y es l a b c r m=>
  refine gx m λps i1 i2 n o=>?_;cases c with|s k=>
  refine VR.d5 a λt ok=>?_;refine⟨(k,y)::ps,.cons (strKind_is prog w k t) rfl i1,List.forall_mem_cons.mpr ⟨⟨k,strKind_is prog w k t,rfl⟩,i2⟩,ar _ n,λg ents' hp i=>?_⟩;cases hp with| @cons e' Z es' Z f q z=>
  refine ak (i e'<|.head _) λA j k2=>?_;refine jE (Value.isStrOf_shape f) λF B=>?_;obtain⟨C,D,E⟩:=e';obtain rfl:D=_:=B;obtain rfl:E=_:=q;clear a;obtain rfl:A=k:=(PySem.strKind prog w).inj _ _ _ j f;clear f j;obtain rfl:C=_:=k2;exact .cons _ _ _ _ _ _ (.str _ _ ok) (b.move g) (.s _)<|o g z λe d=>i e<|.tail _ d
theorem A2(hh:A.handled=none)(k:A.units+120<cLine)(st:St S μ C s.heap)(r:VR μ s.heap v x)(e:oB C v P):wpAny (model S.prog S.w) A (call (.type "dict") [x]) (Rs S μ s P) bq s:=by
 rcases e with e|e
 .exact oi st r e λT a l vs n m g va f=>f.elim λkk f=>f.elim λes f=>AZ hh k st m g va f.1 f.2.1 f.2.2
 .refine fW st r e λi d kk es ents ep Z t Z y j nd f=>?_;refine b1 f λz hz p=>?_;clear Z f;obtain rfl:=z;refine gx (A0 (prog:=S.prog) j) λps p1 p2 B D=>?_
  have E:(ps.map (·.1)).Nodup:=by rw[←B,show ps.map (λp=>V.str p.1)=(ps.map (·.1)).map V.str from(c3 ..).symm] at nd;exact List.Pairwise.of_map V.str (λa b F q=>F<|ar _ q) nd
  refine d7<|kt_call_dict (knd:=PySem.strKind S.prog S.w) (more:=ps) (st.gy t) ⟨_,ents,ep,y,⟨rfl,rfl,rfl⟩,rfl,λe h=>p2 e<|Array.mem_toList_iff.mpr h,p1,E⟩ ?_ λu I J K=>?_
  .exact ah (bF<|p1.length.symm.trans j.sz)<|eH hz
  .refine hI I λo ents' ep' g' L M N=>?_;refine b1 N λf hp Z=>?_
   obtain rfl:o=cW ents' ep':=by obtain⟨c,d,O,sl⟩:=o;refine b1 L λQ R U=>?_;obtain rfl:c=_:=Q;obtain rfl:d=_:=R;obtain rfl:sl=_:=U;clear g';obtain rfl:O=_:=M;rfl
   have keep:∀b o,s.heap.get? b=some o->u.get? b=some o:=λb o e'=>(J.2 b<|bk<|bA e').trans<|bZ _ e';exact mS st s.toks (aM _) keep K (λG W Z=> .dict _ es ents' ep' g' (D W hp λe h=>f e<|Array.mem_toList_iff.mp h) nd rfl) p
end
noncomputable def a9(op:Operator)(x y:M):M:=λl c P=>x l c λa d=>y l d λb e=>qr op e a b P
noncomputable def aH(op:CmpOp)(x y:M):M:=λl d P=>x l d λa e=>y l e λb c=>qA op c a b λr=>P (.bool r) c
noncomputable def iZ(x:M)(l:au)(a:ai)(P:Bool->ai->Prop):Prop:=x l a λv c=>lK v λb=>P b c
noncomputable def notM(x:M):M:=λl a P=>iZ x l a λb c=>P (.bool !b) c
noncomputable def eI(c x y:M):M:=λl d P=>iZ c l d λb a=>bif b then x l a P else y l a P
noncomputable def andM(x y:M):M:=λl d P=>iZ x l d λb a=>bif b then iZ y l a λc e=>P (.bool c) e else P (.bool false) a
noncomputable def orM(x y:M):M:=λl d P=>iZ x l d λb a=>bif b then P (.bool true) a else iZ y l a λc e=>P (.bool c) e
noncomputable def oD(x y z:M):M:=λl e P=>x l e λa f=>y l f λb d=>dv a λi=>dv b λj=>bif decide (i<=j) then z l d λc g=>dv c λk=>P (.bool<|decide<|j<k) g else P (.bool false) d
noncomputable def aw(o:M)(n:Str):M:=λl c P=>o l c λa b=>t2 b a n λv=>P v b
noncomputable def ax(o i:M):M:=λl d P=>o l d λa e=>i l e λb c=>qx c a b λv=>P v c
noncomputable def aa:Ms:=λZ a P=>P [] a
noncomputable def H(x:M)(r:Ms):Ms:=λl b P=>x l b λa c=>r l c λvs d=>P (a::vs) d
noncomputable def bj(es:Ms):M:=λl a P=>es l a λvs b=>vs.length<=aF/\P (.tup vs) b
noncomputable def cg(es:Ms):M:=λl b P=>es l b λvs a=>vs.length<=aF/\P (.ref a.length) (a++[.list vs])
section
variable{S:aN}{Γ:bl}{env:Env}{A:Around}{μ g:Lay}{s D s₁:Shared}{l:au}{d J:ai}{B C F:M}{x y z:Expr}{pos:Pos}
theorem g8{P:Bool->ai->Prop}{r:Bool}{d:ai}(st:St S g d s₁.heap)(t:Step μ s g s₁)(p:P r d):iS S μ s P r s₁:=⟨g,d,st,t,p⟩
theorem jO{P:V->ai->Prop}{r:Bool}{d:ai}(st:St S g d s₁.heap)(t:Step μ s g s₁)(p:P (.bool r) d):Rs S μ s P (.bool r) s₁:=⟨g,.bool r,d,st,t,.bool r,p⟩
theorem bQ.qR(t:Step μ s g s₁)(k:Nat):Step μ s g {s₁ with toks:=k}:=t.trans<|.toks k
theorem A3{op:Operator}(e:bh S Γ env A x B)(f:bh S Γ env A y C):bh S Γ env A (.BinOp x op y pos) (a9 op B C):=.value (λμ s l d P I hm=>wpAny_BinOp<|b4 e.ev I hm λm a n o s₁ g h i hm=>b4 f.ev g hm λp b q r t j c k hm=>g5 (h.trans c)<|zp j.st (c.vr i) k hm) rfl
theorem qS{op:CmpOp}(j:A.units+60<cLine)(m:behindInMarks op y=false)(n:bh S Γ env A x B)(o:bh S Γ env A y C):bh S Γ env A (.Compare x [op] [y] pos) (aH op B C) where
 ev μ s l d P I hm:=wpAny_Compare1 (b4 n.ev I hm λt a u v s₁ f g h hm=>b4 o.ev f hm λw b z D q c e i hm=>bU (tZ c.st (e.vr h) i j hm λr k p=>jO c.st ((g.trans e).qR k) p) (λZ Z x=>x) λZ Z x=>x) m
 tr μ s l d P I hm:=wpAny_isTrue_Compare1 (b4 n.ev I hm λt a u v s₁ f g h hm=>b4 o.ev f hm λw b z D q c e i hm=>bU (tZ c.st (e.vr h) i j hm λr k p=>h9<|g8 (s₁:={q with toks:=k}) c.st ((g.trans e).qR k) p) (λZ Z x=>x) λZ Z x=>x) m
theorem mZ{v:V}{k:Bool->Prop}{h:Heap}{y:Value}{G:Prop}(r:VR μ h v y)(c:lK v k)(f:∀b,y= .bool b->k b->G):G:=by cases r with|bool b=>exact f b rfl c|_=>exact c.elim
theorem A4(f:bh S Γ env A x B):bh S Γ env A (.UnaryOp .Not x pos) (notM B) where
 ev μ s l d P I hm:=wpAny_UnaryOp<|b4 f.ev I hm λg v h i s₁ a t r c=>mZ r c λb e p=>e▸not_value (h9<|jO a.st t p)
 tr μ s l d P I hm:=wpAny_isTrue_Not<|hJ f.tr I hm λg b h s₁ a t p=>g8 a.st t p
theorem A5{c:Expr}{e:M}(f:bh S Γ env A c e)(h:bh S Γ env A x B)(i:bh S Γ env A y C):bh S Γ env A (.IfExp c x y pos) (eI e B C) where
 ev μ s l d P I hm:=wpAny_IfExp (hJ f.tr I hm λg b j s₁ a t p=>match b,p with
  |true,p=>g5 t<|h.ev _ _ _ _ _ a p
  |false,p=>g5 t (i.ev _ _ _ _ _ a p))
 tr μ s l d P I hm:=by
  exact ae (hJ f.tr I hm λg b j s₁ a t p=>match b,p with
   |true,p=>qm t<|h.tr _ _ _ _ _ a p
   |false,p=>qm t (i.tr _ _ _ _ _ a p))
theorem uT(h:bh S Γ env A x B)(i:bh S Γ env A y C):bh S Γ env A (.BoolOp .And [x,y] pos) (andM B C) where
 ev μ s l d P I hm:=by
  refine Y (arm_eval_BoolOp ..)<|ae<|b4 h.ev I hm λg v j m s₁ a t r c=>mZ r c λb e p=>?_;subst e;refine d4<|c0<|h9 ?_;cases b with
  |false=>exact aq<|jO a.st t p
  |true=>exact g5 t (bU (i.ev _ _ _ _ _ a p) (λz n r=>by cases r with|mk g w o k f r p=>exact mZ r p λb e p=>e▸jO k f p) λZ Z x=>x)
 tr μ s l d P I hm:=wpAny_isTrue_BoolOp (wpAny_allTrue_And_cons (hJ h.tr I hm λg b j s₁ a t p=>match b,p with
  |false,p=>g8 a.st t p
  |true,p=>wpAny_allTrue_And_cons (hJ i.tr a p λg b j s₁ a f p=>match b,p with
   |false,p=>g8 a.st (t.trans f) p
   |true,p=>wpAny_allTrue_And_nil (g8 a.st (t.trans f) p))))
theorem uU{r:List Expr}{Q:Bool->Shared->Prop}{E:Value->Shared->Prop}(h:wpAny (model S.prog S.w) A (isTrue x env (eval x env)) (λb D=>bif b then Q true D else wpAny (model S.prog S.w) A (allTrue .Or r env) Q E D) E s):wpAny (model S.prog S.w) A (allTrue .Or (x::r) env) Q E s:=by
 show wpAny _ _ (do match BoolOp.Or,←isTrue x env (eval x env) with
    | .And,false=>pure false
    | .Or,true=>pure true
    |_,_=>allTrue .Or r env) _ _ _
 refine ae<|bU h (λb D k=>?_) λZ Z x=>x;cases b with
 |true=>exact aq k
 |false=>exact k
theorem uV(h:bh S Γ env A x B)(i:bh S Γ env A y C):bh S Γ env A (.BoolOp .Or [x,y] pos) (orM B C) where
 ev μ s l d P I hm:=by
  refine Y (arm_eval_BoolOp ..)<|ae<|b4 h.ev I hm λg v j m s₁ a t r c=>mZ r c λb e p=>?_;subst e;refine d4<|c0<|h9 ?_;cases b with
  |true=>exact aq<|jO a.st t p
  |false=>exact g5 t (bU (i.ev _ _ _ _ _ a p) (λz n r=>by cases r with|mk g w o k f r p=>exact mZ r p λb e p=>e▸jO k f p) λZ Z x=>x)
 tr μ s l d P I hm:=wpAny_isTrue_BoolOp (uU (hJ h.tr I hm λg b j s₁ a t p=>match b,p with
  |true,p=>g8 a.st t p
  |false,p=>uU (hJ i.tr a p λg b j s₁ a f p=>match b,p with
   |true,p=>g8 a.st (t.trans f) p
   |false,p=>wpAny_allTrue_Or_nil (g8 a.st (t.trans f) p))))
theorem A6(w:behindInMarks .LtE y=false)(h:behindInMarks .Lt z=false)(m:ej S Γ env A x B)(n:ej S Γ env A y C)(hz:ej S Γ env A z F):iT S Γ env A (.Compare x [.LtE,.Lt] [y,z] pos) (oD B C F):=
 λμ s l d P I hm=>isTrue_chain (b4 m I hm λD a E G s₁ o f q hm=>test_link (b4 n o hm λJ b K L M g e r hm=>de (e.vr q) hm λi Z hm=>de r hm λj Z hm=>PySem.P.le_int (h9 (by
  cases hd:decide (i<=j) with
  |false=>rw[hd] at hm;exact g8 g.st (f.trans e) hm
  |true=>rw[hd] at hm;exact test_last (b4 hz g hm λN c O Q R t u v hm=>de v hm λk Z p=>PySem.P.lt_int (h9 (g8 t.st ((f.trans e).trans u) p))))))) h
inductive uW(S:aN)(μ:Lay)(s:Shared)(P:List V->ai->Prop)(xs:List Value)(D:Shared):Prop
 |mk (g:Lay) (vs:List V) (d:ai):St S g d D.heap->Step μ s g D->aA g D.heap vs xs->P vs d->uW S μ s P xs D
structure e7(S:aN)(Γ:bl)(env:Env)(A:Around)(pos:Pos)(es:List Expr)(m:Ms):Prop where
 plain:(starEach es env).all (λx=> !x.1)=true
 ev:∀μ s l d P,In S Γ env μ s l d->m l d P->wpAny (model S.prog S.w) A (spliced<|backTo pos<|starEach es env) (uW S μ s P) bq s
theorem A7{pos:Pos}{q:List (Bool×Sem Value)}:(backTo pos q).all (λx=> !x.1)=q.all λx=> !x.1:=by unfold backTo;refine Y List.all_map ?_;rfl
theorem e7.aL{pos:Pos}{es:List Expr}{m:Ms}(h:e7 S Γ env A pos es m):(backTo pos (starEach es env)).all (λx=> !x.1)=true:=A7.trans h.plain
theorem e7.noStar{pos:Pos}{es:List Expr}{m:Ms}(h:e7 S Γ env A pos es m):(backTo pos (starEach es env)).any (·.1)=false:=by refine Y List.any_eq_not_all_not<|Y h.aL ?_;rfl
theorem jP{es:List Expr}{m:Ms}(h:e7 S Γ env A pos es m){P:List V->ai->Prop}(I:In S Γ env μ s l d)(hm:m l d P){Q:List Value->Shared->Prop}{E:Value->Shared->Prop}
  (k:∀g vs a xs s₁,In S Γ env g s₁ l a->Step μ s g s₁->aA g s₁.heap vs xs->P vs a->Q xs s₁):wpAny (model S.prog S.w) A (spliced<|backTo pos<|starEach es env) Q E s:=
 bU (h.ev μ s l d P I hm) (λxs s₁ r=>r.casesOn λg v a st t r p=>k g v a xs s₁ (I.step st t) t r p) λZ Z x=>x.elim
theorem qT:e7 S Γ env A pos [] aa:=⟨rfl,λμ s l d P I hm=>aq ⟨μ,[],d,I.st,.refl _ _,.nil,hm⟩⟩
noncomputable def d8(e:Expr):Bool:=e.ctorIdx==22
theorem lT{e:Expr}{r:List Expr}(h:d8 e=false):starEach (e::r) env=(false,eval e env)::starEach r env:=by cases e with|Starred=>exact(e4 h)|_=>rfl
theorem A8{e:Expr}{r:List Expr}{m:M}{b:Ms}(hs:d8 e=false)(h:bh S Γ env A e m)(c:e7 S Γ env A pos r b):e7 S Γ env A pos (e::r) (H m b):=by refine⟨Y (lT hs) c.plain,λμ s l d P I hm=>?_⟩;refine Y (lT hs) ?_;show wpAny _ _ (spliced<|(false,eval e env)::backTo pos (starEach r env)) _ _ _;exact kD<|b4 h.ev I hm λg a u v s₁ i t j hm=>jP c i hm λk vs n xs w o f q p=>⟨k,_,n,o.st,t.trans f,.cons _ _ _ _ (f.vr j) q,p⟩
theorem K4(xs:List Value):xs.toArray.toList=xs:=rfl
theorem A9{k:Nat}{es:List Expr}{a:Ms}(h:e7 S Γ env A pos es a):bh S Γ env A (.Tuple es k pos) (bj a):=.value (λμ s l d P I hm=>wpAny_Tuple<|jP h I hm λg vs e xs s₁ c t b p=>⟨b.length▸eH p.1,(qp (vs:=xs.toArray) c.st s₁.toks b p.2).step t⟩) rfl
theorem uX{es:List Expr}{a:Ms}(h:e7 S Γ env A pos es a):bh S Γ env A (.List es pos) (cg a):=.value (λμ s l d P I hm=>wpAny_List<|jP h I hm λg vs e xs s₁ c t b p=>⟨b.length▸eH p.1,(mN (vs:=xs.toArray) c.st s₁.toks b p.2).step t⟩) rfl
theorem Ba{o:Expr}{n:Str}{m:M}(hn:n∈S.attrs)(c:attributeBase o n env (eval o env)=eval o env)(h:bh S Γ env A o m):bh S Γ env A (.Attribute o n pos) (aw m n):=
 .value (λμ s l d P I hm=>by refine Y (arm_eval_Attribute ..)<|Y c<|ae<|b4 h.ev I hm λg a e i s₁ b t r hm=>d4<|c0 ?_;exact zS hn b.st r hm λv y k f p=>ae (wpAny_letTemporaryGo (aq ⟨g,v,e,b.st,t.qR k,f,p⟩))) rfl
theorem uY{slice:Expr}{o i:Value}{E:Value->Shared->Prop}{Q:Value->Shared->Prop}(h:wpAny (model S.prog S.w) A (getItem o i) Q E s):wpAny (model S.prog S.w) A (subscripted slice false o i) Q E s:=by
 have k:=wpAny_operate' (vs:=[o,i]) h;cases slice with
 |Slice l u st p=>cases st with|none=>exact wpAny_operate' h|some e=>exact k
 |_=>exact k
theorem Bb{o i:Expr}{c e:M}(h:A.units+50<cLine)(j:bh S Γ env A o c)(hi:bh S Γ env A i e):bh S Γ env A (.Subscript o i pos) (ax c e):=
 .value (λμ s l d P I hm=>by refine Y (arm_eval_Subscript ..)<|ae<|b4 j.ev I hm λF a G J s₁ k m n hm=>c0<|b4 hi.ev k hm λK b L N O q f t hm=>d4<|ae ?_;refine jA (zI (A:=A) q.st (f.vr n) t h hm) λu w=>?_;refine cq u λT id g y=>?_;refine Y (getitemInPython_of_ne g.not_modules)<|ae<|iL g y<|aq<|ae<|uY<|bU w (λr Q z=>ae<|wpAny_letTemporaryGo<|aq ?_) λZ Z x=>x;cases z with|mk B v C D E r p=>exact⟨B,v,C,D,(m.trans f).trans E,r,p.1▸p.2⟩) rfl
end
noncomputable def Bc(a:V)(k:Nat)(P:V->Prop):Prop:=(gA a λxs=>1<=k/\k<=xs.length/\xs.length<=aF/\P (.tup<|xs.drop k))\/kJ a λx=>x.length<=aF/\P (.str<|Txt.slice x (some (k:Int)) none)
noncomputable def c4(o:M)(k:Nat):M:=λl b P=>o l b λa c=>Bc a k λv=>P v c
noncomputable def Bd(a:ai)(v:V)(k:Nat->List Int->Prop):Prop:=lL v λi=>∃vs n is,a[i]? =some (.const vs n)/\(∀μ h,aA μ h (is.map V.int) vs.toList)/\is.length<=aF/\k i is
noncomputable def kR(o:M)(k:Nat):M:=λl c P=>o l c λa b=>(kJ a λx=>x.length<=aF/\P (.str<|Txt.slice x none<|some (k:Int)) b)\/Bd b a λZ is=>P (.ref b.length)<|b++[.list<|(is.take k).map V.int]
noncomputable def oE(o:M):M:=λl c P=>o l c λa b=>dj b a λZ xs=>xs.length<=aF/\P (.ref b.length) (b++[.list xs.reverse])
noncomputable def gF:M:=λZ a P=>∃kk,P (.ref a.length)<|a++[.dict kk []]
noncomputable def oF(c:ai)(r:Nat)(kk:KK)(es:List (V×V))(a b:V)(P:ai->Prop):Prop:=c[r]? =some (.dict kk es)/\bK kk a/\es.length<=aF/\P (c.set r<|.dict kk<|bD es a b)
noncomputable def oG(k v d v':M):M:=λl c P=>∃kk,k l (c++[.dict kk []]) λa e=>v l e λb f=>d l f λa' g=>v' l g λb' h=>oF h c.length kk [] a b λi=>oF i c.length kk (bD [] a b) a' b' λj=>P (.ref c.length) j
noncomputable def lU(k v:M):M:=λl c P=>∃kk,k l (c++[.dict kk []]) λa d=>v l d λb e=>oF e c.length kk [] a b λf=>P (.ref c.length) f
section
variable{S:aN}{Γ:bl}{env:Env}{A:Around}{μ F:Lay}{s C s₁:Shared}{l:au}{B D:ai}{m mk G:M}{o k v:Expr}{pos:Pos}
theorem uZ{x:Str}(h:PyData.strOk x=true)(l u:Option Int):PyData.strOk (Txt.slice x l u)=true:=by
 unfold Txt.slice;refine(?_:∀{b:Bool}{y:Str},PyData.strOk y=true->PyData.strOk (if b then x else y)=true) ?_
 .intro b y k;cases b;exact k;exact h
 .unfold PyData.strOk at*;rw[Array.all_eq_true'] at h⊢;intro c a;refine ak (List.mem_filterMap.mp<|List.mem_toArray.mp a) λi Z hi=>?_;exact h c<|Array.mem_of_getElem? hi
theorem Be{c d:Type}{f g:c->Option d}:∀(l:List c),(∀a∈l,f a=g a)->l.filterMap f=l.filterMap g:=by
 intro l;induction l with
 |nil=>exactλZ=>rfl
 |cons a l e=>exactλh=>Y lF<|Y lF<|Y (h a<|.head _)<|Y (e λb i=>h b<|.tail _ i) rfl
theorem aA.reverse{h:Heap}{l:List V}{xs:List Value}(r:aA μ h l xs):aA μ h l.reverse xs.reverse:=by
 induction l generalizing xs with
 |nil=>cases r;exact .nil
 |cons v l b=>refine b6 r.cons_inv λx e c a d=>?_;clear r;obtain rfl:=c;exact Y List.reverse_cons<|Y List.reverse_cons<|(b d).append<|.one a
theorem Bf(n:Nat):sliceRange ((n:Int)-1) (-1) (-1)=(List.range n).map λk=>n-1-k:=by
 cases n with
 |zero=>rfl
 |succ m=>have e:(if(m:Int)> -1 then((m:Int)- -1- -1-1)/ - -1 else 0).toNat=m+1:=ar Int.toNat<|(az<|Int.lt_of_lt_of_le af<|eR m).trans<|(Int.ediv_one _).trans<|Int.add_sub_cancel ((m:Int)+1) 1;refine Y (Int.add_sub_cancel (m:Int) 1:((m+1:Nat):Int)-1=m) ?_;exact(ar (λc:Nat=>(List.range c).map λk:Nat=>((m:Int)+ -1*(k:Int)).toNat)<|(ar Int.toNat<|ay af).trans e).trans<|dZ λk Z=>(ar (λz=>((m:Int)+z).toNat)<|Int.neg_one_mul k).trans<|Int.toNat_sub m k
theorem Bg(items:Array Value):slicePick items none none (some (-1))=items.toList.reverse.toArray:=by
 unfold slicePick;refine Y (rfl:sliceBounds none none (some<|-1) items.size=((items.size:Int)-1,-1,-1)) ?_;have a:=Bf items.size;refine Y a<|Y List.filterMap_map<|ar _<|ic λi=>?_
 have b:(List.range items.size).filterMap ((λx=>items[x]?)∘λk=>items.size-1-k)=(List.range items.size).map λk=>(items[items.size-1-k]?).getD .none:=by refine Y List.filterMap_eq_map.symm<|Be _ λk c=>?_;have:items.size-1-k<items.size:=b0 (Nat.sub_le _ _)<|Nat.sub_lt (b0 (a6 _)<|cz.mp c) Nat.one_pos;show items[_]? =some ((items[_]?).getD Value.none);refine Y (dI this) ?_;rfl
 show((List.range items.size).filterMap<|(λx=>items[x]?)∘λk=>items.size-1-k)[i]? =_;refine Y b ?_;by_cases hi:i<items.size
 .refine Y b9 (Y (h7 hi)<|Y (List.getElem?_reverse (by rw[cZ];exact hi)) ?_);have:items.size-1-i<items.size:=b0 (Nat.sub_le _ _)<|Nat.sub_lt (b0 (a6 _) hi) Nat.one_pos;refine Y cZ<|Y cE ?_;show some ((items[_]?).getD Value.none)=_;refine Y (dI this) ?_;rfl
 .exact Y (ez (by rw[aV,cF];exact eS hi))<|Y (ez (by rw[List.length_reverse,cZ];exact eS hi)) rfl
theorem qU{o i:Expr}{Q:Value->Shared->Prop}{E:Value->Shared->Prop}
  (h:wpAny (model S.prog S.w) A (eval o env) (λx s₁=>wpAny (model S.prog S.w) A (eval i env) (λy a=>tS a x/\wpAny (model S.prog S.w) A (getItem x y) Q E a) E s₁) E s):wpAny (model S.prog S.w) A (eval (.Subscript o i pos) env) Q E s:=by
 refine Y (arm_eval_Subscript ..)<|ae<|bU h (λx s₁ c=>c0<|bU c (λy a d=>d4<|ae ?_) λZ Z x=>x) λZ Z x=>x;refine jA d λe f=>?_;refine cq e λT id b g=>?_;exact Y (getitemInPython_of_ne b.not_modules)<|ae<|iL b g<|aq<|ae<|uY<|bU f (λr k j=>ae<|wpAny_letTemporaryGo<|aq j) λZ Z x=>x
theorem In.slice(I:In S Γ env μ s l B)(ob:Obj)(t:Nat):In S Γ env μ {s with heap:=s.heap.push ob,toks:=t} l B/\Step μ s μ {s with heap:=s.heap.push ob,toks:=t}:=⟨I.keeps (λZ Z=>bZ ob) (Y (eT ..)<|fk _) t,.push ob t⟩
theorem u0{h:Heap}{ob:Obj}{n:Nat}(e:n<=h.objs.size):n<=(h.push ob).objs.size:=Y (eT ..)<|gp e
theorem K5{n m:Nat}(h:n<=m):(n:Int)<=m:=fT.mpr h
theorem Bh{k kd:Nat}{p1 p2:Pos}(h:bh S Γ env A o m):bh S Γ env A (.Subscript o (.Slice (some (.Constant (.int (k:Int)) kd p1)) none none p2) pos) (c4 m k):=
 .value (λμ s l B P I hm=>by
  refine qU<|b4 h.ev I hm λF a j C s₁ d t r hm=>wpAny_Slice ?_;refine Y (evalPart_some ..)<|wpAny_Constant_int ?_;refine Y (evalPart_none ..)<|aq<|aq ?_;have c:=d.slice {cls:= .type "slice",data:= .fields #[.int (k:Int) s₁.toks,.none,.none]}<|s₁.toks+1;rcases hm with hm|hm
  .refine hL (c.2.vr r) hm λxs a vs n Z g va p=>⟨⟨"tuple",_,⟨_,g,rfl⟩,slot_tuple_getitem.lookup⟩,?_⟩;refine getItem_tuple_from (a:=k) (u:=s₁.toks) ⟨_,g,rfl,n,rfl⟩ (Heap.IsSliceOf.new ..) p.1 (va.sz▸p.2.1) (qp c.1.st _ ?_ p.2.2.2|>.step (t.trans c.2)) ?_
   .exact va.drop k
   .exact va.sz▸eH p.2.2.1
  .refine mL (c.2.vr r) hm λx f ok p=>?_
   refine b6 (SBH.sliceItem_sn (prog:=S.prog) (w:=S.w) (A:=A) (E:=bq) (s:={s₁ with toks:=s₁.toks+1}) (x:=x) (t:=f) (i:=(k:Int)) (ui:=s₁.toks) (P:=λh=>df s₁.heap h/\s₁.heap.objs.size<=h.objs.size) (Q:=Rs S μ s P)
    (λh ob e=>⟨λb o q=>bZ _ (e.1 b o q),u0 e.2⟩) ⟨λb o e=>e,aM _⟩ (λD f tk e=>⟨F,_,j,d.st.keeps e.1 e.2,t.trans (.keeps e.1 e.2 tk),.str _ _ (uZ ok _ _),p.2⟩) (eH p.1)) λT id v y z=>?_
   exact⟨⟨T,id,y,v⟩,z⟩) rfl
theorem Bi{k kd:Nat}{p1 p2:Pos}(h:bh S Γ env A o m):bh S Γ env A (.Subscript o (.Slice none (some (.Constant (.int (k:Int)) kd p1)) none p2) pos) (kR m k):=
 .value (λμ s l B P I hm=>by
  refine qU<|b4 h.ev I hm λF a v L s₁ d t r hm=>wpAny_Slice ?_;refine Y (evalPart_none ..)<|aq ?_;refine Y (evalPart_some ..)<|wpAny_Constant_int<|aq ?_;have c:=d.slice {cls:= .type "slice",data:= .fields #[.none,.int (k:Int) s₁.toks,.none]}<|s₁.toks+1;refine Or.elim hm (λhm=>?_) λhm=>?_
  .refine mL (c.2.vr r) hm λx u ok p=>?_
   refine b6 (SBH.sliceItem_ns (prog:=S.prog) (w:=S.w) (A:=A) (E:=bq) (s:={s₁ with toks:=s₁.toks+1}) (x:=x) (t:=u) (j:=(k:Int)) (uj:=s₁.toks) (P:=λh=>df s₁.heap h/\s₁.heap.objs.size<=h.objs.size) (Q:=Rs S μ s P)
    (λh ob e=>⟨λb o q=>bZ _ (e.1 b o q),u0 e.2⟩) ⟨λb o e=>e,aM _⟩ (λM u tk e=>⟨F,_,v,d.st.keeps e.1 e.2,t.trans (.keeps e.1 e.2 tk),.str _ _ (uZ ok _ _),p.2⟩) (eH p.1)) λT id y z C=>?_
   exact⟨⟨T,id,z,y⟩,C⟩
  .refine mM c.1.st (c.2.vr r) hm λi a b o Z Z D G J=>?_;refine hI J λvs n is hs va K p=>?_;obtain rfl:=aT<|D.symm.trans hs;cases G with|const Z Z g Z=>refine⟨⟨"list",_,⟨_,g,rfl⟩,list_getitem_lookup⟩,?_⟩;refine wpAny_getItem_list_slice (lo:=none) (hi:=some (k:Int)) (st:=none) ⟨_,g,rfl,n,rfl⟩ (Heap.IsSliceOf.new ..) .none (.int _ _) .none nofun ?_<|(va μ s.heap).sz▸aV (f:=V.int)▸eH K;refine Y (slicePick_upto' ..) ?_;exact(mN c.1.st _ (List.map_take▸(va _ _).take k) p).step (t.trans c.2)) rfl
theorem Bj{kd:Nat}{p1 p2 c:Pos}(h:bh S Γ env A o m):bh S Γ env A (.Subscript o (.Slice none none (some (.UnaryOp .USub (.Constant (.int 1) kd p1) c)) p2) pos) (oE m):=
 .value (λμ s l B P I hm=>by refine qU<|b4 h.ev I hm λF a e f s₁ d t r hm=>wpAny_Slice ?_;refine Y (evalPart_none ..)<|aq<|aq ?_;refine Y (evalPart_some ..)<|wpAny_UnaryOp<|wpAny_Constant_int<|PySem.P.neg_int ?_;have b:=d.slice {cls:= .type "slice",data:= .fields #[.none,.none,.int (-1)<|s₁.toks+1]}<|s₁.toks+1+1;refine dU b.1.st (b.2.vr r) hm λi a xs vs n Z Z Z g va p=>⟨⟨"list",_,⟨_,g,rfl⟩,list_getitem_lookup⟩,?_⟩;refine wpAny_getItem_list_slice (lo:=none) (hi:=none) (st:=some<|-1) ⟨_,g,rfl,n,rfl⟩ (Heap.IsSliceOf.new ..) .none .none (.int _ _) nofun ?_<|va.sz▸eH p.1;refine Y (Bg ..) ?_;exact(mN (vs:=vs.toList.reverse.toArray) b.1.st _ va.reverse p.2).step (t.trans b.2)) rfl
theorem Bk:bh S Γ env A (.Dict [] [] pos) gF:= .value (λμ s l B P I hm=>hm.elim λkk p=>wpAny_Dict_empty<|n5 (k:=kk) (ents:= #[]) (ep:=0) I.st s.toks .nil List.Pairwise.nil p) rfl
theorem qV(e:A.units+40<cLine){i:Nat}{d:Addr}{kk:KK}{es:List (V×V)}{a b:V}{x y:Value}{P:ai->Prop}{Q:Unit->Shared->Prop}(st:St S μ B s.heap)(r:VR μ s.heap (.ref i) (.ref d))(f:VR μ s.heap a x)(h:VR μ s.heap b y)
  (p:oF B i kk es a b P) (j:∀D C,St S μ D C.heap->Step μ s μ C->P D->Q () C):wpAny (model S.prog S.w) A (dictSet d x y) Q bq s:=by
 refine dK p λhd ko k p=>?_;refine jE r.nY λb' c=>?_;have l:=st.obj _ _ _ _ hd c;cases l with|dict Z Z ents ep g va nd m=>
 subst m;exact DF.set ⟨g,va,nd,ko,f,e⟩ st c h k λC n o Z=>j _ _ n o p
theorem Bl(i:A.units+40<cLine)(j:bh S Γ env A k mk)(n:bh S Γ env A v G):bh S Γ env A (.Dict [some k] [v] pos) (lU mk G):=
 .value (λμ s l B P I hm=>by
  refine jE hm λkk hm=>?_;cases n5 (k:=kk) (es:=[]) (ents:= #[]) (ep:=0) (P:=λv o=>v= .ref B.length/\o=B++[.dict kk []]) I.st s.toks .nil List.Pairwise.nil ⟨rfl,rfl⟩ with
  |mk L M r t e f g=>
  refine jA g λu w=>?_;obtain rfl:=u;clear g;obtain rfl:=w;have x:=I.step t e;refine Y (arm_eval_Dict ..)<|Y (zip_pairTrees _ _ _ _ rfl rfl)<|Y (dictDisplay_pairs _ (by intro q;exact eG q)<|kA rfl)<|ae (m:=standAt pos)<|wpAny_standAt<|ae ?_;refine ae<|wpAny_alloc<|c0 ?_;refine gZ (kA rfl) ?_;refine ae<|evalPairs_cons<|b4 j.ev x hm λN a r O s₁ y d z hm=>ae<|b4 n.ev y hm λE b Q R T F c J hm=>d4<|aq<|evalPairs_nil<|eD ?_;refine Y (jy ..)<|ae<|ae<|ae<|qV i F.st ((d.trans c).vr f) (c.vr z) J hm λD C K h p=>aq ?_;show wpAny _ _ (forIn [] PUnit.unit _) _ _ _;refine Y jz<|aq<|aq<|aq<|aq ?_;exact⟨E,_,_,K,((e.trans d).trans c).trans h,h.vr ((d.trans c).vr f),p⟩) rfl
theorem Bm{h v':Expr}{mk' i:M}(j:A.units+40<cLine)(w:bh S Γ env A k mk)(x:bh S Γ env A v G)(y:bh S Γ env A h mk')(z:bh S Γ env A v' i):bh S Γ env A (.Dict [some k,some h] [v,v'] pos) (oG mk G mk' i):=
 .value (λμ s l B P I hm=>by
  refine jE hm λkk hm=>?_;cases n5 (k:=kk) (es:=[]) (ents:= #[]) (ep:=0) (P:=λv E=>v= .ref B.length/\E=B++[.dict kk []]) I.st s.toks .nil List.Pairwise.nil ⟨rfl,rfl⟩ with
  |mk ad af F J n e o=>
  refine jA o λK L=>?_;obtain rfl:=K;clear o;obtain rfl:=L;have N:=I.step J n;refine Y (arm_eval_Dict ..)<|Y (zip_pairTrees _ _ _ _ rfl rfl)<|Y (dictDisplay_pairs _ (by intro q;exact eG q)<|kA rfl)<|ae (m:=standAt pos)<|wpAny_standAt<|ae ?_;refine ae<|wpAny_alloc<|c0 ?_;refine gZ (kA rfl) ?_;refine ae<|evalPairs_cons<|b4 w.ev N hm λag a F ah s₁ O Q R hm=>ae<|b4 x.ev O hm λai b aj ak al T r U hm=>d4<|aq ?_;refine evalPairs_cons<|b4 y.ev T hm λam a' an ao ap V W X hm=>ae<|b4 z.ev V hm λaa b' ar as au ab t ac hm=>d4<|aq<|evalPairs_nil<|eD ?_;have f:=W.trans t;have d:=(Q.trans r).trans f;refine Y (jy ..)<|ae<|ae<|ae<|qV j ab.st (d.vr e) ((r.trans f).vr R) (f.vr U) hm λD C g c hm=>aq ?_;show wpAny _ _ (forIn [_] PUnit.unit _) _ _ _;refine Y (jy ..)<|ae<|ae<|qV j g ((d.trans c).vr e) ((t.trans c).vr X) (c.vr ac) hm λD C g u p=>aq ?_;show wpAny _ _ (forIn [] PUnit.unit _) _ _ _;refine Y jz<|aq<|aq<|aq<|aq ?_;exact⟨aa,_,_,g,((n.trans d).trans c).trans u,((d.trans c).trans u).vr e,p⟩) rfl
end
inductive PB where
 |len|sorted|dict|list|tuple|range|sum|max|abs|str
noncomputable def Bn(b:PB)(a:ai)(v:V)(P:V->ai->Prop):Prop:=match b with
 | .len=>t7 a v P
 | .sorted=>uL a v P
 | .dict=>oB a v P
 | .list=>t9 a v P
 | .tuple=>t8 a v P
 | .range=>ue a v P
 | .sum=>ua a v P
 | .max=>ub a v P
 | .abs=>uc a v P
 | .str=>ud a v P
noncomputable def aD(b:PB)(a:ai)(vs:List V)(P:V->ai->Prop):Prop:=match vs with
 |[v]=>Bn b a v P
 |[x,y,z]=>(match b with| .range=>uf a x y z P|_=>False)
 |_=>False
noncomputable def ek:PB->Str
 | .len=>"len"
 | .sorted=>"sorted"
 | .dict=>"dict"
 | .list=>"list"
 | .tuple=>"tuple"
 | .range=>"range"
 | .sum=>"sum"
 | .max=>"max"
 | .abs=>"abs"
 | .str=>"str"
noncomputable def i0:PB->Value
 | .len=> .builtin "len"
 | .sorted=> .builtin "sorted"
 | .dict=> .type "dict"
 | .list=> .type "list"
 | .tuple=> .type "tuple"
 | .range=> .type "range"
 | .sum=> .builtin "sum"
 | .max=> .builtin "max"
 | .abs=> .builtin "abs"
 | .str=> .type "str"
noncomputable def aC(f:ai->List V->(V->ai->Prop)->Prop)(es:Ms):M:=λl a P=>es l a λvs b=>f b vs P
noncomputable def dV(f:ai->V->(V->ai->Prop)->Prop)(o:M):M:=λl b P=>o l b λa c=>f c a P
noncomputable def bB(c:ai->V->Prop)(f:ai->V->List V->(V->ai->Prop)->Prop)(o:M)(es:Ms):M:=λl d P=>o l d λa b=>c b a/\es l b λvs e=>f e a vs P
noncomputable def qW(b:ai)(a:V):Prop:=dj b a λZ Z=>True
noncomputable def qX(b:ai)(a:V):Prop:=eV b a λZ Z Z=>True
noncomputable abbrev aG:=Addr->List V->ai->(V->ai->Prop)->Prop
noncomputable def aX(fn:aG)(el:Addr->Str->Option Addr)(o:M)(n:Str)(es:Ms):M:=λl d P=>o l d λa b=>mK b a λZ c Z=>∃f,el c n=some f/\es l b λvs e=>fn f (a::vs) e P
noncomputable def gG(fn:aG)(c f:Addr)(es:Ms):M:=λl b P=>es l b λvs a=>fn f (.ref a.length::vs) (a++[.inst c []]) λv d=>v= .none/\P (.ref a.length) d
structure m1(A:Around)(n:Nat):Prop where
 handled:A.handled=none
 depth:A.depth+2*n<=recursionLimit
 units:A.units+40*n+280<cLine
theorem fV.call{A:Around}{n:Nat}(r:fV A n):m1 A n:=⟨r.handled,c2 r.depth,b0 (bz af _) r.units⟩
theorem m1.deeper{A:Around}{n:Nat}(r:m1 A (n+1))(env:Env):fV (A.deeper env) n:=⟨r.handled,bt (bF<|ar Nat.succ<|d0 A.depth 1<|2*n) r.depth,b0 (ah (bF (ar (· +300)<|d0 A.units 3<|40*n))<|bz (by decide:3+300<=40+280)<|A.units+40*n) r.units⟩
noncomputable def hP(S:aN)(fn:aG)(n:Nat):Prop:=∀(f:Addr)(A:Around),m1 A n->∀(a:Lay)(b:ai)(s:Shared)(vs:List V)(xs:List Value)(P:V->ai->Prop)(R:Result->Shared->Prop),
 St S a b s.heap->aA a s.heap vs xs->fn f vs b P->(∀x c,Rs S a s P x c->R (.ok<|.ret x) c)->codeAny (model S.prog S.w) A (.call (.ref f) ⟨xs,[]⟩) R s
noncomputable def qY(S:aN)(el:Addr->Str->Option Addr):Prop:=∀c n f,el c n=some f->findIn S.K (.ref c) n=some (some<|.ref f)/\typeIn S.K (.ref f)=some (.type "function")/\keepIn S.K (.ref f)=true/\n∉S.attrs
section
variable{S:aN}{Γ:bl}{env:Env}{A:Around}{μ u:Lay}{s j s₁:Shared}{l:au}{d J:ai}{m k:M}{p:Ms}{o:Expr}{es:List Expr}{pos D i C:Pos}{fn:aG}{n:Nat}
theorem hQ{f:Value}{args:List (Bool×Sem Value)}{Q:Args->Shared->Prop}{E:Value->Shared->Prop}(hp:args.all (λx=> !x.1)=true)
  (h:wpAny (model S.prog S.w) A (spliced args) (λvs j=>Q ⟨vs,[]⟩ j) E s):wpAny (model S.prog S.w) A (evalArgs f true args []) Q E s:=by
 cases args with
 |nil=>exact ae<|bU h (λvs j c=>bO<|eD<|bO<|bO<|aq c) λZ Z x=>x
 |cons a r=>
  obtain⟨b,x⟩:=a;cases b with
  |true=>exact(b3 hp)
  |false=>exact Calls.evalArgs_plain h
theorem lV{x:Str}{v:Value}{Q:Value->Shared->Prop}{E:Value->Shared->Prop}(F:cG Γ env)(a:x∈Γ.globals)(c:S.mg x=none)(e:S.mb x=some v)(I:In S Γ env μ s l d)(h:Q v s):
  wpAny (model S.prog S.w) A (eval (.Name x pos) env) Q E s:=
 Calls.Name_function_global F.kind (F.gl x a) (Calls.loadGlobal_builtin (Y F.glob<|S.T.g.keeps I.st.base) c (Y F.bi<|S.T.b.keeps I.st.base) e h) (F.tC x a)
theorem qZ{x:Str}{v:Value}{Q:Value->Shared->Prop}{E:Value->Shared->Prop}(F:cG Γ env)(a:x∈Γ.globals)(b:S.mg x=some v)(I:In S Γ env μ s l d)(h:Q v s):
  wpAny (model S.prog S.w) A (eval (.Name x pos) env) Q E s:=
 Calls.Name_function_global F.kind (F.gl x a) (Calls.loadGlobal_global (Y F.glob<|S.T.g.keeps I.st.base) b h) (F.tC x a)
inductive oH:Value->Prop
 |b (id:String):oH (.builtin id)
 |t (T:String):oH (.type T)
theorem jQ{f:Value}{first:List Value}{args:List (Bool×Sem Value)}{Q:Value->Shared->Prop}{E:Value->Shared->Prop}(hf:oH f)(hp:args.any (·.1)=false)
  (h:wpAny (model S.prog S.w) A (evalArgs f true args []) (λa s₁=>wpAny (model S.prog S.w) A (call f (first++a.pos) a.kw) Q E s₁) E s):wpAny (model S.prog S.w) A (callWith pos f first args []) Q E s:=by
 cases hf with
 |b id=>exact Calls.callWith_builtin hp h
 |t T=>exact PySem.callWith_type hp h
theorem u1(b:PB):oH (i0 b):=by cases b<;>first|exact .b _|exact .t _
theorem Bo{b:PB}(hh:A.handled=none)(g:A.units+150<cLine){vs:List V}{xs:List Value}{P:V->ai->Prop}(st:St S μ d s.heap)(r:aA μ s.heap vs xs)(e:aD b d vs P):wpAny (model S.prog S.w) A (call (i0 b) xs) (Rs S μ s P) bq s:=by
 match vs,e with
 |[],e=>exact e.elim
 |[v],e=>
  obtain⟨x,f,rfl,a,h⟩:=r.cons_inv;clear r;obtain rfl:=h.nil_inv;cases b with
  |len=>exact zZ st a e
  |sorted=>exact AP hh (Au g) st a e
  |dict=>exact A2 hh (Au g) st a e
  |list=>exact z1 hh st a e
  |tuple=>exact z0 st a e
  |range=>exact z8 st a e
  |sum=>exact z3 hh st a e
  |max=>exact z4 hh st a e
  |abs=>exact z5 st a e
  |str=>exact z7 st a e
 |[_,_],e=>exact e.elim
 |[v,w,z],e=>
  obtain⟨x,f,rfl,a,r⟩:=r.cons_inv;obtain⟨x,f,rfl,b',r⟩:=r.cons_inv;obtain⟨x,f,rfl,c,r⟩:=r.cons_inv;obtain rfl:=r.nil_inv;cases b with
  |range=>exact z9 st a b' c e
  |_=>exact e.elim
 |_::_::_::_::_,e=>exact e.elim
theorem Bp{b:PB}(F:cG Γ env)(hh:A.handled=none)(a:A.units+150<cLine)(c:ek b∈Γ.globals)(e:S.mg (ek b)=none)(f:S.mb (ek b)=some (i0 b))(h:e7 S Γ env A pos es p):
  bh S Γ env A (.Call (.Name (ek b) D) es [] pos) (aC (aD b) p):=
 .value (λμ s l d P I hm=>ju<|lV F c e f I<|jQ (u1 b) h.noStar<|hQ h.aL<|jP h I hm λu vs j xs s₁ g t i hm=>g5 t<|Bo hh a g.st i hm) rfl
theorem u2{n:Str}{args:List Expr}(hf:(backTo pos (starEach args env)).all (λx=> !x.1)=true)(hn:args.length<20):methodCallForm (args.length+([]:List Keyword).length) (backTo pos (starEach args env)) (backToKw pos (keywordEach [] env))=true:=by exact fe.mpr ⟨fe.mpr ⟨hf,rfl⟩,bJ<|bt hn af⟩
theorem q0(a:(i.endLine==pos.line)=true):methodCallPos true o env i pos=pure pos:=az a
theorem kS{name:Str}{T id:String}{c:ai->V->Prop}{f:ai->V->List V->(V->ai->Prop)->Prop}(j:∀{μ d}{s:Shared}{a x},St S μ d s.heap->VR μ s.heap a x->c d a->BM s x name T id)
  (hf:∀{μ d}{s:Shared}{a x vs xs P},St S μ d s.heap->VR μ s.heap a x->aA μ s.heap vs xs->f d a vs P->wpAny (model S.prog S.w) A (call (.builtin id)<|x::xs) (Rs S μ s P) bq s)
  (m:attributeBase o name env (eval o env)=eval o env) (hn:es.length<20) (q:(i.endLine==pos.line)=true) (v:bh S Γ env A o k) (h:e7 S Γ env A pos es p):
  bh S Γ env A (.Call (.Attribute o name i) es [] pos) (bB c f k p):=
 .value (λμ s l d P I hm=>by refine Y (arm_eval_Call ..)<|Y m<|ae<|b4 v.ev I hm λu a C D s₁ e t r hm=>d4 ?_;have B:=j e.st r hm.1;unfold methodCall;refine Y (u2 (n:=name) h.aL hn)<|c0<|getMethod_builtin B.typ B.plain B.slot B.descr B.noDict<|ae<|wpAny_of_eq (q0 q) ?_;exact jQ (.b _) h.noStar (hQ h.aL (jP h e hm.2 λE vs F xs G y g z hm=>g5 (t.trans g) (hf y.st (g.vr r) z hm)))) rfl
noncomputable def oI(f:V->Prop)(vs:List V):Prop:=match vs with|[v]=>f v|_=>False
noncomputable def q1(f:V->V->Prop)(vs:List V):Prop:=match vs with|[v,w]=>f v w|_=>False
noncomputable def u3(f:Prop)(vs:List V):Prop:=match vs with|[]=>f|_=>False
theorem q2{f:V->Prop}{vs:List V}{xs:List Value}{h:Heap}(r:aA μ h vs xs)(c:oI f vs){G:List Value->Prop}(g:∀v x,VR μ h v x->f v->G [x]):G xs:=by
 match vs,c with
 |[v],c=>refine b6 r.cons_inv λx e b a d=>?_;obtain rfl:=b;clear r;obtain rfl:=d.nil_inv;exact g v x a c
theorem u4{f:V->V->Prop}{vs:List V}{xs:List Value}{h:Heap}(r:aA μ h vs xs)(c:q1 f vs){G:List Value->Prop}(g:∀v w x y,VR μ h v x->VR μ h w y->f v w->G [x,y]):G xs:=by
 match vs,c with
 |[v,w],c=>obtain⟨x,e,rfl,a,d⟩:=r.cons_inv;obtain⟨y,e,rfl,b,d⟩:=d.cons_inv;clear r;obtain rfl:=d.nil_inv;exact g v w x y a b c
theorem Bq{f:Prop}{vs:List V}{xs:List Value}{h:Heap}(r:aA μ h vs xs)(c:u3 f vs){G:List Value->Prop}(g:f->G []):G xs:=by
 match vs,c with
 |[],c=>obtain rfl:=r.nil_inv;exact g c
inductive MB where
 |append|extend|pop|gH|get|eJ
noncomputable def oJ:MB->Str
 | .append=>"append"
 | .extend=>"extend"
 | .pop=>"pop"
 | .gH=>"pop"
 | .get=>"get"
 | .eJ=>"setdefault"
noncomputable def bG:MB->ai->V->Prop
 | .append=>qW
 | .extend=>qW
 | .pop=>qW
 |_=>qX
noncomputable def bH(m:MB)(d:ai)(o:V)(vs:List V)(P:V->ai->Prop):Prop:=match m with
 | .append=>oI (λv=>uu d o v P) vs
 | .extend=>oI (λv=>uv d o v P) vs
 | .pop=>u3 (uw d o P) vs
 | .gH=>oI (λv=>uz d o v P) vs
 | .get=>q1 (λv w=>ux d o v w P) vs
 | .eJ=>q1 (λv w=>uy d o v w P) vs
theorem Br(m:MB)(g:A.units+60<cLine)(b:attributeBase o (oJ m) env (eval o env)=eval o env)(hn:es.length<20)(d:(i.endLine==pos.line)=true)(f:bh S Γ env A o k)(h:e7 S Γ env A pos es p):
  bh S Γ env A (.Call (.Attribute o (oJ m) i) es [] pos) (bB (bG m) (bH m) k p):=by
 cases m with
 |append=>exact kS (λst r e=>qI st r PySem.F.slot_list_append PySem.F.type_list_append e) (λst r a c=>q2 a c (G:=λxs=>wpAny _ _ (call _<|_::xs) _ _ _) λv x q c=>Aa st r q c) b hn d f h
 |extend=>exact kS (λst r e=>qI st r PySem.F.slot_list_extend PySem.F.type_list_extend e) (λst r a c=>q2 a c (G:=λxs=>wpAny _ _ (call _<|_::xs) _ _ _) λv x q c=>Ab st r q c) b hn d f h
 |pop=>exact kS (λst r e=>qI st r PySem.F.slot_list_pop PySem.F.type_list_pop e) (λst r a c=>Bq a c (G:=λxs=>wpAny _ _ (call _<|_::xs) _ _ _) λc=>Ac st r c) b hn d f h
 |gH=>exact kS (λst r e=>om st r PySem.F.slot_dict_pop PySem.F.type_dict_pop e) (λst r a c=>q2 a c (G:=λxs=>wpAny _ _ (call _<|_::xs) _ _ _) λv x q c=>Af st g r q c) b hn d f h
 |get=>exact kS (λst r e=>om st r PySem.F.slot_dict_get PySem.F.type_dict_get e) (λst r a c=>u4 a c (G:=λxs=>wpAny _ _ (call _<|_::xs) _ _ _) λv w x y q j c=>Ad st g r q j c) b hn d f h
 |eJ=>exact kS (λst r e=>om st r PySem.F.slot_dict_setdefault PySem.F.type_dict_setdefault e) (λst r a c=>u4 a c (G:=λxs=>wpAny _ _ (call _<|_::xs) _ _ _) λv w x y q j c=>Ae st g r q j c) b hn d f h
theorem u5{b:PB}{f:ai->V->(V->ai->Prop)->Prop}(F:cG Γ env)(e:ek b∈Γ.globals)(g:S.mg (ek b)=none)(h:S.mb (ek b)=some (i0 b))
  (hf:∀{μ d}{s:Shared}{a x P},St S μ d s.heap->VR μ s.heap a x->f d a P->qX d a/\∀{Q:Value->Shared->Prop},(∀z j,wpAny (model S.prog S.w) A (call (i0 b) [z]) (Rs S μ s P) bq j->Q z j)->wpAny (model S.prog S.w) A (call (.builtin "dict.items") [x]) Q bq s)
  (m:attributeBase o "items" env (eval o env)=eval o env) (n:(i.endLine==C.line)=true) (p:bh S Γ env A o k):
  bh S Γ env A (.Call (.Name (ek b) D) [.Call (.Attribute o "items" i) [] [] C] [] pos) (dV f k):=
 .value (λμ s l d P I hm=>by refine ju<|lV F e g h I<|jQ (u1 b) rfl<|hQ rfl ?_;show wpAny _ _ (spliced [(false,eval (.Call (.Attribute o "items" i) [] [] C) env)]) _ _ _;refine kD ?_;refine Y (arm_eval_Call ..)<|Y m<|ae<|b4 p.ev I hm λu a q v s₁ c t r hm=>d4 ?_;have z:=hf c.st r hm;have B:=om c.st r PySem.F.slot_dict_items PySem.F.type_dict_items z.1;refine c0<|getMethod_builtin B.typ B.plain B.slot B.descr B.noDict<|ae<|wpAny_of_eq (q0 n) ?_;refine jQ (.b _) rfl (hQ rfl (lH (z.2 λw j hz=>lH (bU hz (λZ Z r=>r.step t) λZ Z x=>x))))) rfl
end
section
variable{S:aN}{Γ:bl}{env:Env}{A:Around}{μ u:Lay}{s G s₁:Shared}{l:au}{j J:ai}{m B:M}{y:Ms}{o:Expr}{es:List Expr}{pos C D L:Pos}{fn:aG}{n:Nat}
theorem hP.call(h:hP S fn n)(r:fV A n){f:Addr}{vs:List V}{xs:List Value}{P:V->ai->Prop}(st:St S μ j s.heap)(vr:aA μ s.heap vs xs)(e:fn f vs j P):wpAny (model S.prog S.w) A (call (.ref f) xs) (Rs S μ s P) bq s:=wpAny_call (h f A r.call μ j s vs xs P _ st vr e λZ Z q=>q)
theorem q3{f:Value}{first:List Value}{args:List (Bool×Sem Value)}{Q:Value->Shared->Prop}{E:Value->Shared->Prop}(b:keepIn S.K f=true)(hp:args.any (·.1)=false)
  (h:wpAny (model S.prog S.w) A (evalArgs f true args []) (λa s₁=>S.K.In s₁.heap/\wpAny (model S.prog S.w) A (call f (first++a.pos) a.kw) Q E s₁) E s):wpAny (model S.prog S.w) A (callWith pos f first args []) Q E s:=
 callWith_of (P:=S.K.In) (by refine Y hp ?_;rfl) (keeps_K b) h
theorem Bs{x:Str}{f:Addr}(F:cG Γ env)(b:hP S fn n)(c:fV A n)(d:x∈Γ.globals)(e:S.mg x=some (.ref f))(g:keepIn S.K (.ref f)=true)(h:e7 S Γ env A pos es y):bh S Γ env A (.Call (.Name x C) es [] pos) (aC (λj vs P=>fn f vs j P) y):=.value (λμ s l j P I hm=>ju<|qZ F d e I<|q3 g h.noStar<|hQ h.aL<|jP h I hm λu vs k xs s₁ a t i hm=>⟨a.st.K,g5 t<|b.call c a.st i hm⟩) rfl
theorem Bt{el:Addr->Str->Option Addr}{name:Str}(N:qY S el)(m:hP S fn n)(q:fV A n)(v:attributeBase o name env (eval o env)=eval o env)(hn:es.length<20)(w:(D.endLine==pos.line)=true)(x:bh S Γ env A o B)(h:e7 S Γ env A pos es y):
  bh S Γ env A (.Call (.Attribute o name D) es [] pos) (aX fn el B name y):=
 .value (λμ s l j P I hm=>by refine Y (arm_eval_Call ..)<|Y v<|ae<|b4 x.ev I hm λu a Q R s₁ d t r hm=>d4 ?_;unfold methodCall;refine Y (u2 (n:=name) h.aL hn)<|c0<|n2 d.st r hm λi p b c fs od m2 z C hi E hd F fl T G hm=>?_;refine ak hm λf hf hm=>?_;have e:=S.mI c G;refine dK (N c name f hf) λJ L M m3=>?_;refine method_fn d.st.K (oh E hd) e.ga e.lI J L ?_<|ae<|wpAny_of_eq (q0 w)<|q3 M h.noStar<|hQ h.aL<|jP h d hm λU vs V xs W g k O hm=>⟨g.st.K,g5 (t.trans k)<|m.call q g.st (.cons _ _ _ _ (k.vr<|.ref i p b C) O)<|z▸hm⟩;show(lookIn name od).map (·.isSome)=some false;rw[t5 hd F,(fl name).2 m3];rfl) rfl
theorem St.Bu(st:St S μ j s.heap){c:Addr}(h:S.cls c=true):∃u,St S u (j++[.inst c []]) ((s.heap.push emptyDict).push (instObj c s.heap.objs.size))/\Step μ s u {s with heap:=(s.heap.push emptyDict).push (instObj c s.heap.objs.size)}/\u[j.length]? =some (s.heap.objs.size+1,s.heap.objs.size):=by
 have i:(s.heap.push emptyDict).get? s.heap.objs.size=some emptyDict:=cy _ rfl
 have g2:((s.heap.push emptyDict).push<|instObj c s.heap.objs.size).get? (s.heap.objs.size+1)=some (instObj c s.heap.objs.size):=by have:=cy (s.heap.push emptyDict) (o:=instObj c s.heap.objs.size) rfl;rw[eT] at this;exact this
 have d:=bZ (instObj c s.heap.objs.size) i;have k:∀b o,s.heap.get? b=some o->((s.heap.push emptyDict).push<|instObj c s.heap.objs.size).get? b=some o:=λb o e=>bZ _<|bZ _ e;have z:s.heap.objs.size<=((s.heap.push emptyDict).push<|instObj c s.heap.objs.size).objs.size:=Y (eT ..)<|Y (eT ..)<|cp _ 2;have g:∀{b:Addr},s.heap.objs.size<=b->¬foot μ b:=λq f=>cJ.mpr q<|st.lt f;have lI:∀{b:Addr}{o:Obj},s.heap.objs.size<=b->s.heap.get? b=some o->False:=λq e=>cJ.mpr q<|bA e;have a:=fk s.heap.objs.size
 refine⟨μ++[(s.heap.objs.size+1,s.heap.objs.size)],(st.new k z (g a) (g (aM _)) (gp st.size) st.size (λo q Z=>q.elim (lI a) (lI (aM _))) (.inst c [] emptyDict (λZ=>none) g2 d ⟨emptyDict, #[],0,d,rfl,λe l=>(nomatch l),.nil,λn=>rfl⟩ (λn=>⟨.none,λZ=>rfl⟩) (Nat.succ_ne_self _) h)).1,
  ⟨λZ Z=>fG,λb f=>(g4 f).imp id λq=>q.elim (λq=>q▸a) λq=>bF q.symm,λb o e Z Z=>k b o e,λb o e Z Z=>k b o e,z,rfl,rfl⟩,st.len▸fq _ _⟩
theorem Bv{x:Str}{c f:Addr}(F:cG Γ env)(o:hP S fn n)(b:fV A n)(w:x∈Γ.globals)(z:S.mg x=some (.ref c))(i:S.cls c=true)(B:findIn S.K (.ref c) "__init__"=some (some (.ref f)))(D:typeIn S.K (.ref f)=some (.type "function"))(E:keepIn S.K (.ref c)=true)
  (h:e7 S Γ env A pos es y):bh S Γ env A (.Call (.Name x C) es [] pos) (gG fn c f y):=
 .value (λμ s l j P I hm=>ju (qZ F w z I (q3 E h.noStar (hQ h.aL (jP h I hm λu vs J xs s₁ a t L hm=>⟨a.st.K,wpAny_call (by
  obtain⟨M,N,k,e⟩:=a.st.Bu i;obtain⟨hp,g,d,tk,os⟩:=s₁;refine make_core (rest:=[]++xs) (kw:=[]) (makes_of a.st.K (S.mI c i).makes) (looks_findIn a.st.K B) (λself=>bind_fn a.st.K self D) (.inl rfl)<|o f _ ?_ M _ _ (.ref J.length::vs) _ _ _ N (.cons _ _ _ _ (.ref _ _ _ e)<|k.bV L) hm λx G q=>?_
  .exact⟨b.handled,ah (bF<|d0 A.depth 1<|2*n) b.depth,b0 (ah (bF (ar (· +280)<|d0 A.units 1<|40*n))<|bz (by decide:1+280<=300)<|A.units+40*n) b.units⟩
  .cases q with|mk O v Q R m r p=>obtain⟨rfl,p⟩:=p;cases r;exact⟨rfl,O,_,Q,R,(t.trans k).trans m,.ref _ _ _ (m.lay _ _ e),p⟩)⟩))))) rfl
end
noncomputable abbrev hR:=List V->au->ai->(au->ai->Prop)->Prop
inductive Rt(S:aN)(Γ:bl)(env:Env)(μ:Lay)(s:Shared)(P:au->ai->Prop)(a:Shared):Prop
 |mk (b:Lay) (l:au) (c:ai):In S Γ env b a l c->jJ Γ env μ s b a->P l c->Rt S Γ env μ s P a
noncomputable def g9(S:aN)(Γ:bl)(env:Env)(A:Around)(t:Expr)(m:Mt):Prop:=∀μ s l a v x P,In S Γ env μ s l a->VR μ s.heap v x->m v l a P->wpAny (model S.prog S.w) A (assign t env x) (λZ b=>Rt S Γ env μ s P b) bq s
structure m4(S:aN)(Γ:bl)(env:Env)(A:Around)(ts:List Expr)(m:hR):Prop where
 plain:(assignEach ts env).findIdx? (·.1)=none
 len:(assignEach ts env).length=ts.length
 ev:∀μ s l a vs xs P,In S Γ env μ s l a->aA μ s.heap vs xs->m vs l a P->wpAny (model S.prog S.w) A (assignInOrder ((assignEach ts env).map (·.2)) xs) (λZ b=>Rt S Γ env μ s P b) bq s
noncomputable def aj(i:Nat):Mt:=λv l a P=>P (l.set i<|some v) a
noncomputable def cA(o:M)(n:Str):Mt:=λv l b P=>o l b λa c=>t4 c a n v λd=>P l d
noncomputable def e8(o i:M):Mt:=λv l c P=>o l c λa d=>i l d λb e=>tQ e a b v λf=>P l f
noncomputable def cu:hR:=λvs l a P=>vs=[]/\P l a
noncomputable def bb(t:Mt)(r:hR):hR:=λvs l a P=>∃v ws,vs=v::ws/\t v l a λb c=>r ws b c P
noncomputable def cB(n:Nat)(ts:hR):Mt:=λv l a P=>lN a v λvs=>vs.length=n/\ts vs l a P
section
variable{S:aN}{Γ:bl}{env:Env}{A:Around}{μ f C:Lay}{d G:ai}{s j s₁ J:Shared}{l l':au}{P:au->ai->Prop}{o i t:Expr}{m D:M}{mt:Mt}{B:hR}{pos:Pos}{r:List Expr}
theorem Rt.step(t:jJ Γ env μ s f s₁)(r:Rt S Γ env f s₁ P j):Rt S Γ env μ s P j:=by cases r with|mk C l d i a p=>exact⟨C,l,d,i,t.trans a,p⟩
theorem u6{a:Type}{c:Sem a}{E:Value->Shared->Prop}(x:jJ Γ env μ s f s₁)(h:wpAny (model S.prog S.w) A c (λZ j=>Rt S Γ env f s₁ P j) bq s₁):wpAny (model S.prog S.w) A c (λZ j=>Rt S Γ env μ s P j) E s₁:=bU h (λZ Z r=>r.step x) λZ Z x=>x.elim
theorem oK{x:Value}{v:V}(h:g9 S Γ env A t mt)(I:In S Γ env μ s l d)(r:VR μ s.heap v x)(hm:mt v l d P){Q:Unit->Shared->Prop}{E:Value->Shared->Prop}
  (k:∀f a b s₁ u,In S Γ env f s₁ a b->jJ Γ env μ s f s₁->P a b->Q u s₁):wpAny (model S.prog S.w) A (assign t env x) Q E s:=
 bU (h μ s l d v x P I r hm) (λu s₁ r=>r.casesOn λf a b c t p=>k f a b s₁ u c t p) λZ Z x=>x.elim
theorem q4(F:cG Γ env){n:Str}{i:Nat}(hn:Γ.names[i]? =some n)(hs:lJ Γ env n):g9 S Γ env A (.Name n pos) (aj i):=λμ s l d v x P I vr hm=>assign_Name<|n1 F hn hs I vr λj a st=>⟨μ,_,d,a,st,hm⟩
theorem Bw{n:Str}(e:n∈S.attrs)(g:ej S Γ env A o m):g9 S Γ env A (.Attribute o n pos) (cA m n):=λμ s l d v x P I vr hm=>by exact c0<|b4 g I hm λf a j y s₁ b t r hm=>d4<|c0<|zU e b.st r (t.vr vr) hm λh k i c p=>wpAny_release ⟨f,l,h,b.step i c,Step.o<|t.trans c,p⟩
theorem Bx(h:A.units+50<cLine)(j:ej S Γ env A o m)(hi:ej S Γ env A i D):g9 S Γ env A (.Subscript o i pos) (e8 m D):=λμ s l d v x P I vr hm=>by exact Y (assign_Subscript ..)<|c0<|b4 j I hm λf a B y s₁ k t r hm=>c0<|b4 hi k hm λn b C z E e c q hm=>d4<|c0<|zJ e.st (c.vr r) q ((t.trans c).vr vr) h hm λu F w g p=>wpAny_release ⟨n,l,u,e.step w g,Step.o<|(t.trans c).trans g,p⟩
theorem By:m4 S Γ env A [] cu:=⟨rfl,rfl,λμ s l d vs xs P I vr hm=>by obtain⟨rfl,hm⟩:=hm;obtain rfl:=vr.nil_inv;exact aq ⟨μ,l,d,I,.refl _ _,hm⟩⟩
theorem oL(h:d8 t=false):assignEach (t::r) env=(false,assign t env)::assignEach r env:=by cases t with|Starred=>exact(e4 h)|_=>rfl
theorem Bz(hs:d8 t=false)(h:g9 S Γ env A t mt)(b:m4 S Γ env A r B):m4 S Γ env A (t::r) (bb mt B):=by
 refine⟨by refine Y (oL hs)<|Y List.findIdx?_cons<|Y b.plain ?_;rfl,Y (oL hs)<|ar Nat.succ b.len,λμ s l d vs xs P I vr hm=>?_⟩
 .obtain⟨v,ws,rfl,hm⟩:=hm;obtain⟨x,e,rfl,a,vr⟩:=vr.cons_inv;exact Y (oL hs)<|c0<|oK h I a hm λf g i s₁ u j c hm=>u6 c<|b.ev f s₁ g i ws e P j (c.bV vr) hm
theorem u7{E:Value->Shared->Prop}{it t:Addr}{items:Array Value}(d:t≠it):∀(n i:Nat)(s:Shared)(Q:List Value->Shared->Prop),s.heap.IsListIter it t i->s.heap.IsList t items->i+n=items.size->
  (∀a,a.IsListIter it t items.size->Heap.SameBut it s.heap a->Q (items.toList.drop i) {s with heap:=a})->wpAny (model S.prog S.w) A (draw (.ref it) n) Q E s
 |0,i,s,Q,b,_,e,c=>by have q:=c s.heap (e▸b)<|Heap.SameBut.refl ..;rw[List.drop_of_length_le (by exact Y cZ<|bF e.symm)] at q;exact aq q
 |n+1,i,s,Q,b,f,e,c=>by have g:i<items.size:=e▸kx (fj _);refine ae<|wpAny_pyNext_list_item b f (x:=items[i]) (dI g) λo j h=>?_;refine c0<|u7 d n (i+1) _ _ j (f.extBut h.extBut d) (by rw[dD,d3 1];exact e) λk l m=>aq ?_;have q:=c k l<|h.trans m;rw[List.drop_eq_getElem_cons (show i<items.toList.length from g)] at q;exact q
theorem BA{E:Value->Shared->Prop}{t:Addr}{items:Array Value}{Q:List Value->Shared->Prop}(hh:A.handled=none)(a:s.heap.IsList t items)
  (h:∀c,Heap.ExtBut s.heap.objs.size s.heap c->Q items.toList {s with heap:=c}):wpAny (model S.prog S.w) A (unpackItems (.ref t) items.size none) Q E s:=by
 have d:t≠s.heap.objs.size:=a.elim λo e=>bk<|bA e.1;refine ae ?_
 .unfold notIterableAtAll;refine ae<|iL a.typeIs slot_list_iter.lookup<|aq ?_;refine c0<|wpAny_pyIter_list a<|c0<|u7 d items.size 0 _ _ ⟨_,cy _ rfl,rfl,rfl⟩ (a.push _) (eE _) λl i f=>?_;refine Y List.drop_zero<|Y (ay (by rw[cZ];exact eh _))<|c0<|wpAny_pyNext_list_end hh i ((a.push _).extBut f.extBut d) (kz<|aM _) λj k=>?_;exact aq<|h j λb o g e=>k b o g<|f.extBut b o g<|bZ _ e
theorem u9(hh:A.handled=none){v:V}{x:Value}{k:List V->Prop}{n:Nat}(I:In S Γ env μ s l d)(vr:VR μ s.heap v x)(i:lN d v λvs=>vs.length=n/\k vs){Q:List Value->Shared->Prop}{E:Value->Shared->Prop}
  (q:∀vs xs j,In S Γ env μ j l d->Step μ s μ j->aA μ j.heap vs xs->k vs->Q xs j):wpAny (model S.prog S.w) A (unpackItems x n none) Q E s:=by
 refine oi I.st vr i λT a vs xs c p g va h=>?_;clear i;obtain⟨rfl,h⟩:=h
 have a7:∀f,Heap.ExtBut s.heap.objs.size s.heap f->s.heap.objs.size<=f.objs.size->Q xs.toList {s with heap:=f}:=λf r hz=>by have m:∀b o,s.heap.get? b=some o->f.get? b=some o:=λb o e=>r b o (bk<|bA e) e;have t:Step μ s μ {s with heap:=f}:= .keeps m hz s.toks;exact q vs _ _ (I.step (I.st.keeps m hz) t) t (t.bV va) h
 refine Y va.sz.symm ?_;rcases p with rfl|rfl
 .exact d7<|BA hh ⟨_,g,rfl,c,rfl⟩ a7
 .exact d7<|wpAny_unpackItems_tuple hh ⟨_,g,rfl,c,rfl⟩ a7
theorem BB(hh:A.handled=none){ts:List Expr}{k:Nat}(h:m4 S Γ env A ts B):g9 S Γ env A (.Tuple ts k pos) (cB ts.length B):=λμ s l d v x P I vr hm=>by refine Y (arm_assign_Tuple ..)<|d4 ?_;unfold unpack;refine Y h.plain<|c0<|h.len▸u9 hh I vr hm λvs xs s₁ a t bV hm=>u6 (Step.o t)<|h.ev μ s₁ l d vs xs P a bV hm
end
inductive q5(μ:Lay)(h:Heap):Fl->Flow->Prop
 |next:q5 μ h .next .next
 |ret (v:V) (x:Value):VR μ h v x->q5 μ h (.ret v) (.ret x)
inductive Rf(S:aN)(Γ:bl)(env:Env)(μ:Lay)(s:Shared)(P:Fl->au->ai->Prop)(f:Flow)(a:Shared):Prop
 |mk (b:Lay) (fl:Fl) (l:au) (c:ai):In S Γ env b a l c->jJ Γ env μ s b a->q5 b a.heap fl f->P fl l c->Rf S Γ env μ s P f a
noncomputable def ha(S:aN)(Γ:bl)(env:Env)(A:Around)(st:Stmt)(m:aE):Prop:=∀μ s l a P,In S Γ env μ s l a->m l a P->wpAny (model S.prog S.w) A (exec st env) (Rf S Γ env μ s P) bq s
noncomputable def ip(S:aN)(Γ:bl)(env:Env)(A:Around)(fZ:List Stmt)(m:aE):Prop:=∀μ s l a P,In S Γ env μ s l a->m l a P->wpAny (model S.prog S.w) A (execs fZ env) (Rf S Γ env μ s P) bq s
noncomputable def oM(f:Fl)(a:Prop)(b:V->Prop):Prop:=match f with| .next=>a| .ret v=>b v
noncomputable def av:aE:=λl a P=>P .next l a
noncomputable def ag(a b:aE):aE:=λl e P=>a l e λf c d=>oM f (b c d P) λv=>P (.ret v) c d
noncomputable def a5(e:M):aE:=λl a P=>e l a λv b=>P (.ret v) l b
noncomputable def cn(e:M):aE:=λl a P=>e l a λZ b=>P .next l b
noncomputable def bW(c:M)(a b:aE):aE:=λl e P=>iZ c l e λt d=>bif t then a l d P else b l d P
noncomputable def aB(t:Mt)(e:M):aE:=λl a P=>e l a λv b=>t v l b λc d=>P .next c d
noncomputable def i3(c:M)(b:aE):aE:=λl h P=>∃I:Nat->au->ai->Prop,(∃n,I n l h)/\∀n a d,I n a d->iZ c a d λt e=>bif t then b a e λf l₂ g=>oM f (∃k,k<n/\I k l₂ g) λv=>P (.ret v) l₂ g else P .next a e
section
variable{S:aN}{Γ:bl}{env:Env}{A:Around}{μ d G:Lay}{j J:ai}{s K s₁ L:Shared}{l l':au}{P:Fl->au->ai->Prop}{e t c:Expr}{m y:M}{mt:Mt}{B C D:aE}{pos:Pos}{r a b:List Stmt}{st:Stmt}
theorem q6{c:Sem Flow}{E:Value->Shared->Prop}(x:jJ Γ env μ s d s₁)(h:wpAny (model S.prog S.w) A c (Rf S Γ env d s₁ P) bq s₁):wpAny (model S.prog S.w) A c (Rf S Γ env μ s P) E s₁:=bU h (λZ Z r=>by cases r with|mk G fl l j i a q p=>exact⟨G,fl,l,j,i,x.trans a,q,p⟩) λZ Z x=>x.elim
theorem vb:ip S Γ env A [] av:=λμ s l j P I hm=>wpAny_execs_nil ⟨μ,_,l,j,I,.refl _ _,.next,hm⟩
theorem vc(h:ha S Γ env A st C)(f:ip S Γ env A r D):ip S Γ env A (st::r) (ag C D):=λμ s l j P I hm=>by
 refine Y (execs_cons ..)<|ae<|bU (h μ s l j _ I hm) (λg s₁ z=>?_) λZ Z x=>x;cases z with|mk d fl a b c e fr hm=>
 cases fr with
 |next=>exact q6 e<|f d s₁ a b P c hm
 |ret v x q=>exact aq ⟨d,_,a,b,c,e,.ret v x q,hm⟩
theorem vd(h:ej S Γ env A e m):ha S Γ env A (.Return (some e) pos) (a5 m):=λμ s l j P I hm=>wpAny_Return_some<|b4 h I hm λd v a x s₁ b t q hm=>⟨d,_,l,a,b,Step.o t,.ret v x q,hm⟩
theorem BC(f:iT S Γ env A c y)(g:ip S Γ env A a C)(h:ip S Γ env A b D):ha S Γ env A (.If c a b pos) (bW y C D):=
 λμ s l j P I hm=>wpAny_If (hJ f I hm λd t i s₁ e x p=>match t,p with
  |true,p=>q6 (Step.o x)<|g _ _ _ _ P e p
  |false,p=>q6 (Step.o x) (h _ _ _ _ P e p))
theorem BD{f:Expr}{as:List Expr}{ks:List Keyword}{p:Pos}{v:Value}{Q:Flow->Shared->Prop}{E:Value->Shared->Prop}(h:Q .next s):wpAny (model S.prog S.w) A (dropValue (.Call f as ks p) pos v) Q E s:=by cases v<;>first|exact aq h|exact d4<|ae<|wpAny_runValue<|hF entry_let_go (show wpAny _ _ (ret .none) _ _ s from aq<|aq h)
theorem BE(hi:interactive env=false){f:Expr}{as:List Expr}{ks:List Keyword}{p:Pos}(h:ej S Γ env A (.Call f as ks p) m):ha S Γ env A (.Expr (.Call f as ks p) pos) (cn m):=λμ s l j P I hm=>by exact Y (exec_Expr env _ pos hi rfl)<|d4<|ae<|b4 h I hm λd v a x s₁ b t q hm=>BD ⟨d,_,l,a,b,Step.o t,.next,hm⟩
theorem ve(hs:swapsWithSole [t] e pos.line env=pure false)(a:swappedStores [t] e env=pure none)(b:d8 t=false)(h:ej S Γ env A e m)(c:g9 S Γ env A t mt):ha S Γ env A (.Assign [t] e pos) (aB mt m):=λμ s l j P I hm=>by refine Y (exec_Assign ..)<|Y hs<|Y a<|Y (oL b)<|d4<|bO ?_;refine ck eB ?_;refine ae<|b4 h I hm λd v r x s₁ f g q hm=>bO ?_;exact ae<|oK c f q hm λi l₂ k w u n p hm=>aq ⟨i,_,l₂,k,n,(Step.o g).trans p,.next,hm⟩
theorem BF(hh:A.handled=none)(F:cG Γ env){a b:Str}{i1 i2:Nat}{p1 p2 tp:Pos}{k:Nat}(hs:swapsWithSole [.Tuple [.Name a p1,.Name b p2] k tp] e pos.line env=pure false)(g:swappedStores [.Tuple [.Name a p1,.Name b p2] k tp] e env=pure (some [a,b]))
  (i:Γ.names[i1]? =some a) (n:Γ.names[i2]? =some b) (hi:i1≠i2) (s1:lJ Γ env a) (s2:lJ Γ env b) (h:ej S Γ env A e m):ha S Γ env A (.Assign [.Tuple [.Name a p1,.Name b p2] k tp] e pos) (aB (cB 2<|bb (aj i1)<|bb (aj i2) cu) m):=λμ s l j P I hm=>by
 refine Y (exec_Assign ..)<|Y hs<|Y g<|d4<|bO ?_;refine ck eB ?_;refine ae<|b4 h I hm λd v E x s₁ p r q hm=>bO ?_;refine e5<|ae<|u9 hh p q hm λvs xs G t u c hm=>?_;obtain⟨J,ws,rfl,K,L,rfl,rfl,hm⟩:=hm;obtain⟨M,w,rfl,y,c⟩:=c.cons_inv;obtain⟨N,w,rfl,z,c⟩:=c.cons_inv;obtain rfl:=c.nil_inv;refine ae<|c0<|wpAny_bindName<|n1 F n s2 t z λO B f=>?_;refine c0<|wpAny_bindName<|n1 F i s1 B (f.vr y) λQ C D=>aq<|aq ⟨_,_,_,_,C,((Step.o<|r.trans u).trans f).trans D,.next,?_⟩;exact Y (List.set_comm _ _<|cO hi) hm
theorem BG(F:iT S Γ env A c y)(G:ip S Γ env A a B):ha S Γ env A (.While c a [] pos) (i3 y B):=λμ s l j P J hm=>by
 refine ak hm λI K hi=>?_;refine jE K λn hn=>?_;refine wpAny_While<|codeAny_whileLoop (λn s₁=>∃d b e,In S Γ env d s₁ b e/\jJ Γ env μ s d s₁/\I n b e) (λn s₁ z=>?_) n ⟨μ,l,j,J,.refl _ _,hn⟩;refine cj z λd b L=>?_;refine bE L λe M N z=>?_;refine hJ F M (hi n b e z) λh t i O m Q p=>?_;have f:=N.trans<|Step.o Q;cases t with
 |false=>exact wpAny_execs_nil ⟨h,_,b,i,m,f,.next,p⟩
 |true=>
  refine bU (G h O b i _ m p) (λg R r=>?_) λZ Z x=>x.elim;cases r with|mk u fl w C D E fr p=>
  cases fr with
  |next=>exact p.elim λk q=>⟨k,q.1,u,w,C,D,f.trans E,q.2⟩
  |ret v x q=>exact⟨u,_,w,C,D,f.trans E,.ret v x q,p⟩
theorem BH{h₀:ExceptHandler}{hs:List ExceptHandler}(h:ip S Γ env A a B):ha S Γ env A (.Try a (h₀::hs) [] [] pos) B:=λμ s l j P I hm=>
 wpAny_Try_except (bU (h μ s l j P I hm) (λf s₁ r=>by
  cases r with|mk d fl b c e t fr p=>
  cases fr with
  |next=>exact wpAny_execs_nil ⟨d,_,b,c,e,t,.next,p⟩
  |ret v x q=>exact⟨d,_,b,c,e,t,.ret v x q,p⟩) λZ Z x=>x.elim)
end
noncomputable def i4(e:Expr):Bool:=e.ctorIdx==25
structure hb where
 X:List (V×Value)
 I:Addr
 W:Addr->Prop
 items:List V
 ok:ai->Prop
 J:Nat->Heap->Prop
structure At(S:aN)(d:hb)(a:Lay)(c:ai)(s:Shared)(i:Nat):Prop where
 st:St S a c s.heap
 ctx:∀q∈d.X,VR a s.heap q.1 q.2
 j:d.J i s.heap
 free:∀b,d.W b->¬foot a b/\S.B.objs.size<=b
structure Given(S:aN)(d:hb)(a:Lay)(c:ai)(s:Shared)(v:V)(x:Value)(i:Nat)(b:Shared):Prop where
 st:St S a c b.heap
 step:bQ d.W a s a b
 vr:VR a b.heap v x
 j:d.J (i+1) b.heap
noncomputable def BJ(S:aN)(d:hb)(A:Around)(t:Expr)(s:Shared)(a:Lay)(b:ai)(i:Nat)(v:V):Prop:=wpAny (model S.prog S.w) A (pyNext<|.ref d.I) (λox s₁=>∃x,ox=some x/\wpAny (model S.prog S.w) A (letOwnedTupleGo t (.ref d.I) x) (λZ c=>Given S d a b s v x i c) bq s₁) bq s
noncomputable def BK(S:aN)(d:hb)(A:Around)(s:Shared)(a:Lay)(c:ai):Prop:=wpAny (model S.prog S.w) A (pyNext<|.ref d.I) (λox b=>ox=none/\St S a c b.heap/\bQ d.W a s a b) bq s
structure hc(S:aN)(tup:Bool)(d:hb):Prop where
 next:∀A t s c a i v,A.handled=none->(tup=true->i4 t=true)->d.items[i]? =some v->d.ok a->At S d c a s i->BJ S d A t s c a i v
 done:∀A s c a,A.handled=none->d.ok a->At S d c a s d.items.length->BK S d A s c a
 self:∀(A:Around)(E:Value->Shared->Prop)(Q:Value->Shared->Prop)(s:Shared)(i:Nat),d.J i s.heap->Q (.ref d.I) s->wpAny (model S.prog S.w) A (pyIter<|.ref d.I) Q E s
 f3:∀i h e,d.J i h->(∀b o,d.W b->h.get? b=some o->e.get? b=some o)->d.J i e
 live:∀i h,d.J i h->∀b,d.W b->∃o,h.get? b=some o
noncomputable abbrev cK:=au->ai->(List V->(ai->Prop)->ai->Prop)->Prop
inductive Made(S:aN)(tup:Bool)(μ:Lay)(s:Shared)(k:List V->(ai->Prop)->ai->Prop)(it:Value)(a:Shared):Prop
 |mk (d:hb) (c:Lay) (e:ai):it= .ref d.I->hc S tup d->At S d c e a 0->Step μ s c a->(∀b,d.W b->s.heap.objs.size<=b)->k d.items d.ok e->Made S tup μ s k it a
noncomputable def jR(S:aN)(Γ:bl)(env:Env)(A:Around)(e:Expr)(tup:Bool)(m:cK):Prop:=∀μ s l a k,In S Γ env μ s l a->m l a k->wpAny (model S.prog S.w) A (eval e env) (λb s₁=>wpAny (model S.prog S.w) A (pyIter b) (Made S tup μ s k) bq s₁) bq s
structure eK(S:aN)(Γ:bl)(env:Env)(O:Addr->Prop)(d:hb)(μ:Lay)(s:Shared)(a:Lay)(l:au)(e:ai)(c:Shared)(i:Nat):Prop where
 i5:In S Γ env a c l e
 step:bQ (λb=>O b\/d.W b) μ s a c
 free:∀b,d.W b->¬foot a b/\s.heap.objs.size<=b
 ctx:∀q∈d.X,VR a c.heap q.1 q.2
 j:d.J i c.heap
 size:S.B.objs.size<=s.heap.objs.size
 apart:∀b,d.W b->Fa Γ env b\/O b->False
noncomputable def oN(body:V->aE)(ok:ai->Prop):List V->aE
 |[],l,a,P=>ok a/\P .next l a
 |v::r,l,a,P=>ok a/\body v l a λf b c=>oM f (oN body ok r b c P) λw=>P (.ret w) b c
noncomputable def dF(t:Mt)(b:aE)(v:V):aE:=λl a P=>t v l a λc d=>b c d P
noncomputable def forM(src:cK)(t:Mt)(b:aE):aE:=λl a P=>src l a λitems ok c=>oN (dF t b) ok items l c P
section
variable{S:aN}{Γ:bl}{env:Env}{A:Around}{μ p G:Lay}{D J B M:ai}{s u C:Shared}{l l':au}{O:Addr->Prop}{d:hb}{i:Nat}{tup:Bool}{v:V}{x:Value}
theorem In.lt(I:In S Γ env μ s l D){b:Addr}(h:Fa Γ env b):b<s.heap.objs.size:=by
 cases h with
 |loc=>exact I.fr.ns.elim λm q=>q.1.lt
 |cell n c e k q=>refine jE (fy.mp e) λi hi=>?_;exact(I.fr.cell i n b hi k q).elim λZ q=>q.1.lt
theorem gz.fU(F:cG Γ env){b:Addr}(h:gz Γ env b):Fa Γ env b:=by
 cases h with
 |loc=>exact .loc
 |cell n c hn q=>exact .cell n _ (F.cl n hn).1 (F.cl n hn).2 q
theorem eK.at(t:eK S Γ env O d μ s p l B u i):At S d p B u i:=⟨t.i5.st,t.ctx,t.j,λb a=>⟨(t.free b a).1,ah t.size (t.free b a).2⟩⟩
theorem bQ.drop{W:Addr->Prop}(x:bQ (λb=>O b\/W b) μ s p u)(h:∀b,W b->s.heap.objs.size<=b):bQ O μ s p u:=⟨x.lay,x.new,λb o e a no=>x.keep b o e a λq=>q.elim no λc=>cJ.mpr (h b c)<|bA e,x.jF,x.grow,x.gens,x.os⟩
theorem eK.given(t:eK S Γ env O d μ s p l B u i)(g:Given S d p B u v x i C):eK S Γ env O d μ s p l B C (i+1):=⟨⟨g.st,t.i5.fr.step g.step λb a c=>t.apart b c<|.inl a⟩,t.step.trans<|g.step.mono λZ=> .inr,t.free,λq e=>g.step.vr<|t.ctx q e,g.j,t.size,t.apart⟩
theorem eK.own(K:hc S tup d)(t:eK S Γ env O d μ s p l B u i)(I:In S Γ env G C l' J)(x:bQ O p u G C):eK S Γ env O d μ s G l' J C i:=
 ⟨I,t.step.trans (x.mono λZ=> .inl),λb a=>⟨(K.live i _ t.j b a).elim λo e=>x.jG (bA e) (t.free b a).1,(t.free b a).2⟩,λq c=>x.vr (t.ctx q c),
  K.f3 i _ _ t.j λb o a e=>x.keep b o e (t.free b a).1 λf=>t.apart b a (.inr f),t.size,t.apart⟩
theorem eK.leave(t:eK S Γ env O d μ s p l B u i):bQ O μ s p u:=t.step.drop λb a=>(t.free b a).2
theorem eK.out(t:eK S Γ env O d μ s p l B u i)(st:St S p B C.heap)(x:bQ d.W p u p C):In S Γ env p C l B/\bQ O μ s p C:=⟨⟨st,t.i5.fr.step x λb a c=>t.apart b c<|.inl a⟩,(t.step.trans<|x.mono λZ=> .inr).drop λb a=>(t.free b a).2⟩
theorem vf(I:In S Γ env μ s l D)(a:At S d p B u 0)(st:Step μ s p u)(e:∀b,d.W b->s.heap.objs.size<=b)(f:∀b,O b->b<s.heap.objs.size):eK S Γ env O d μ s p l B u 0:=⟨I.step a.st st,Step.o st,λb c=>⟨(a.free b c).1,e b c⟩,a.ctx,a.j,I.st.size,λb c q=>cJ.mpr (e b c)<|q.elim I.lt<|f b⟩
theorem i6{a:Type}{t:Sem a}{Q:a->Shared->Prop}{E:Value->Shared->Prop}(h:wpAny (model S.prog S.w) A t Q bq s):wpAny (model S.prog S.w) A t Q E s:=bU h (λZ Z x=>x) λZ Z x=>x.elim
inductive Lp(S:aN)(Γ:bl)(env:Env)(O:Addr->Prop)(d:hb)(μ:Lay)(s:Shared)(L:List V->au->ai->Prop)(n:Nat)(u:Shared):Prop
 |mk (r:List V) (i:Nat) (p:Lay) (l:au) (B:ai):r.length=n->d.items.length=i+n->d.items.drop i=r->eK S Γ env O d μ s p l B u i->L r l B->Lp S Γ env O d μ s L n u
theorem BL{t iter:Expr}{body:List Stmt}{pos:Pos}{u:cK}{mt:Mt}{mb:aE}(hh:A.handled=none)(F:cG Γ env)
  (hg:∀x,foldedSetIterable iter env x=pure x) (kT:tup=true->i4 t=true) (hs:jR S Γ env A iter tup u) (M:g9 S Γ env A t mt) (k:ip S Γ env A body mb):
  ha S Γ env A (.For t iter body [] pos) (forM u mt mb):=λμ s l D P m hm=>by
 refine wpAny_For (bU (hs μ s l D _ m hm) (λae s₁ N=>bU N (λit af O=>?_) λZ Z x=>x) λZ Z x=>x) hg;cases O with|mk d p B e K a bL Q hm=>
 subst e;refine codeAny_forLoop_any (Lp S Γ env (gz Γ env) d μ s λr C c=>oN (dF mt mb) d.ok r C c P) (λn o z=>?_) d.items.length ⟨_,0,p,l,B,rfl,(eE _).symm,rfl,vf m a bL Q λb k=>m.lt<|k.fU F,hm⟩;cases z with|mk r i j C c hn hi R h hm=>
 cases r with
 |nil=>obtain rfl:n=0:=hn.symm;refine i6<|bU (K.done A o j c hh hm.1 (show At S d j c o _ from hi.symm▸h.at)) (λox T z=>?_) λZ Z x=>x;obtain⟨rfl,z⟩:=z;have y:=h.out z.1 z.2;exact wpAny_execs_nil ⟨j,_,_,_,y.1,y.2,.next,hm.2⟩
 |cons v r=>
  obtain⟨U,V⟩:=mY R;subst hn;refine i6<|bU (K.next A t o j c i v hh kT U hm.1 h.at) (λox T z=>?_) λZ Z x=>x;obtain⟨x,rfl,z⟩:=z;refine i6<|bU z (λZ ag g=>?_) λZ Z x=>x;refine oK M (h.given g).i5 g.vr hm.2 λW l₂ X aa Z ab ac hm=>i6<|bU (k W aa l₂ X _ ab hm) (λf ah z=>?_) λZ Z x=>x;cases z with|mk E fl G I J ad fr hm=>
  have L:=(h.given g).own K J<|ac.trans ad;cases fr with
  |next=>exact⟨r.length,eg _,r,i+1,E,G,I,rfl,hi.trans<|d0 i r.length 1,V,L,hm⟩
  |ret w y q=>exact⟨E,_,G,I,J,L.leave,.ret w y q,hm⟩
end
inductive Acc(S:aN)(Γ:bl)(env:Env)(D:Addr)(a:Lay)(vs:List V)(h:Heap):Prop
 |mk (xs:Array Value) (n:Nat):h.get? D=some (dM xs n)->aA a h vs xs.toList->¬foot a D->S.B.objs.size<=D->(∀b,Fa Γ env b->b≠D)->Acc S Γ env D a vs h
structure hS(ss:List Nat)(l l':au):Prop where
 len:l'.length=l.length
 same:∀i,i∉ss->l'[i]? =l[i]?
noncomputable def hj(ss:List Nat)(l:au):Prop:=∀i∈ss,∀v,l[i]?≠some (some v)
noncomputable abbrev i7(Γ:bl)(env:Env)(D:Addr)(b:Addr):Prop:=gz Γ env b\/b=D
noncomputable abbrev Mg:=au->List V->ai->(List V->ai->Prop)->Prop
noncomputable abbrev Mb:=au->ai->(Bool->ai->Prop)->Prop
noncomputable def jS(ss:List Nat)(m:Mt):Prop:=∀v l b P P',m v l b P->(∀a c,hS ss l a->P a c->P' a c)->m v l b P'
noncomputable def q7(elt:Expr)(gens:List Comprehension)(scope:Scope)(pos:Pos)(d:Nat)(acc:Value)(env:Env)(c:Code):Sem PySem.Fin:=
 match gens[d+1]? with
 |some g'=>do
  let x←eval g'.iter env
  standAt g'.iter.pos
  if(g'.is_async !=0)=true then do
    let x←foldedIterable g'.iter x;let __do_lift←holding [x] (if(g'.is_async !=0)=true then asyncIter x else pyIter x);let _←runOwn (Code.compStart (elt.ListComp gens scope pos) (d+1) __do_lift acc env) env
    again c
   else do
    let x←foldedSetIterable g'.iter env x;let __do_lift←holding [x] (if(g'.is_async !=0)=true then asyncIter x else pyIter x);let _←runOwn (Code.compStart (elt.ListComp gens scope pos) (d+1) __do_lift acc env) env
    again c
 |none=>Bind.bind (do
   let __do_lift←eval elt env;let _←call (Value.builtin "list.append") [acc,__do_lift]
   pure ():Sem Unit) λZ=>again c
inductive Rc(S:aN)(Γ:bl)(env:Env)(D:Addr)(ss:List Nat)(c:Lay)(s:Shared)(l:au)(P:List V->ai->Prop)(a:Shared):Prop
 |mk (b:Lay) (l':au) (acc:List V) (d:ai):In S Γ env b a l' d->hS ss l l'->bQ (i7 Γ env D) c s b a->Acc S Γ env D b acc a.heap->P acc d->Rc S Γ env D ss c s l P a
noncomputable def BodyOk(S:aN)(Γ:bl)(env:Env)(A:Around)(elt:Expr)(gens:List Comprehension)(scope:Scope)(pos:Pos)(d:Nat)(ss:List Nat)(m:Mg):Prop:=∀D a s l b acc P c,In S Γ env a s l b->Acc S Γ env D a acc s.heap->hj ss l->m l acc b P->wpAny (model S.prog S.w) A (q7 elt gens scope pos d (.ref D) env c) (λa7 e=>a7= .again c/\Rc S Γ env D ss a s l P e) bq s
noncomputable def kU(S:aN)(Γ:bl)(env:Env)(A:Around)(d:List Expr)(m:Mb):Prop:=
 ∀a s l b P,In S Γ env a s l b->m l b P->wpAny (model S.prog S.w) A (forIn d true λc __s=>if __s=true then do
           let ok←PySem.isTrue c env (eval c env)
           pure (ForInStep.yield ok)
          else pure (ForInStep.yield __s)) (iS S a s P) bq s
noncomputable def aR(e:M):Mg:=λl acc a P=>e l a λv b=>acc.length<aF/\P (acc++[v]) b
noncomputable def aK:Mb:=λZ a P=>P true a
noncomputable def c1(c:M)(r:Mb):Mb:=λl d P=>iZ c l d λb a=>bif b then r l a P else P false a
noncomputable def jT(body:V->List V->ai->(List V->ai->Prop)->Prop)(ok:ai->Prop):List V->List V->ai->(List V->ai->Prop)->Prop
 |[],acc,a,P=>ok a/\P acc a
 |v::r,acc,a,P=>ok a/\body v acc a λb c=>jT body ok r b c P
noncomputable def gI(t:Mt)(c:Mb)(b:Mg)(l:au)(v:V)(acc:List V)(e:ai)(P:List V->ai->Prop):Prop:=t v l e λa f=>c a f λq d=>bif q then b a acc d P else P acc d
noncomputable def e9(src:cK)(t:Mt)(c:Mb)(b:Mg):Mg:=λl acc a P=>src l a λitems ok d=>jT (gI t c b l) ok items acc d P
section
variable{S:aN}{Γ:bl}{env:Env}{A:Around}{μ f N:Lay}{O aa C ab:ai}{s B J:Shared}{l l' G U X:au}{D:Addr}{d:hb}{tup:Bool}{v:V}{y:Value}{elt:Expr}{gens:List Comprehension}{scope:Scope}{pos:Pos}{k:Nat}{ss st:List Nat}{vs:List V}
theorem hS.refl(ss:List Nat)(l:au):hS ss l l:=⟨rfl,λZ Z=>rfl⟩
theorem hS.trans(a:hS st l U)(b:hS ss U X):hS (st++ss) l X:=⟨b.len.trans a.len,λi hi=>(b.same i λq=>hi<|dS _ q).trans<|a.same i λq=>hi<|dJ _ q⟩
theorem hj.app(a:hj st l)(b:hj ss l):hj (st++ss) l:=λi hi=>(cD.mp hi).elim (a i)<|b i
theorem hj.sub(hd:∀i∈st,i∉ss)(u:hj ss l)(b:hS st l l'):hj ss l':=λi hi=>b.same i (λz=>hd i z hi)▸u i hi
theorem VO.weaken{h:Heap}{i:Nat}{a:Option Value}(hs:∀v:V,l[i]? =some (some v)->l'[i]? =some (some v))(q:VO μ h l' i a):VO μ h l i a:=λv e=>q v<|hs v e
theorem In.weaken(I:In S Γ env μ s l' O)(hs:hS ss l l')(a:hj ss l):In S Γ env μ s l O:=by have w:∀(i:Nat)(v:V),l[i]? =some (some v)->l'[i]? =some (some v):=λi v q=>(hs.same i λhi=>a i hi v q).trans q;exact⟨I.st,⟨hs.len.symm.trans I.fr.len,I.fr.own,I.fr.ns.imp λm q=>⟨q.1,λi n e k=>(q.2 i n e k).weaken<|w i⟩,λi n c e k q=>(I.fr.cell i n c e k q).imp λb z=>⟨z.1,z.2.weaken<|w i⟩⟩⟩
theorem Acc.keep{P:Addr->Prop}(a:Acc S Γ env D f vs s.heap)(x:bQ P f s N B)(h:¬P D):Acc S Γ env D N vs B.heap:=by cases a with|mk xs n g r b c d=>exact⟨xs,n,x.keep _ _ g b h,x.bV r,x.jG (bA g) b,c,d⟩
theorem Acc.lt(a:Acc S Γ env D f vs s.heap):D<s.heap.objs.size:=by cases a with|mk xs n g Z Z Z Z=>exact bA g
theorem Acc.BN(F:cG Γ env)(a:Acc S Γ env D f vs s.heap):¬gz Γ env D:=λq=>by cases a with|mk xs n g r c d b=>exact b D (q.fU F) rfl
theorem BO(I:In S Γ env f s l C)(a:Acc S Γ env D f vs s.heap)(vr:VR f s.heap v y)(hz:vs.length<aF){Q:Value->Shared->Prop}{E:Value->Shared->Prop}
  (h:∀B,In S Γ env f B l C->bQ (i7 Γ env D) f s f B->Acc S Γ env D f (vs++[v]) B.heap->Q .none B):wpAny (model S.prog S.w) A (call (.builtin "list.append") [.ref D,y]) Q E s:=by
 cases a with|mk xs n g r d j k=>
 refine da slot_list_append ⟨_,g,rfl⟩ entry_list_append ?_<|args_list_append _ _;show wpAny _ _ (updateSeq D (·.push y)>>=λZ=>ret .none) _ _ s;have m:xs.size+1<=sizeLine:=eH<|r.sz▸hz;refine ae<|wpAny_updateSeq g rfl (hz:=jr m) (_hz':=ah (bF<|Array.size_push _)<|gp m)<|aq ⟨.none,rfl,?_⟩;have hs:Heap.SameBut D s.heap (s.heap.update D (Obj.mapSeq (·.push y))):=kB ..
 have hi:∀o,s.heap.get? D=some o->cS o->False:=λo e i=>by obtain rfl:=aT<|g.symm.trans e;exact kQ (T:="list") rfl af af i
 have c:=λt=>step_at (μ:=f) (P:=i7 Γ env D) hs hi (.inr rfl) t;refine h _ ⟨I.st.mJ hs hi ⟨d,j⟩,I.fr.step (step_at (P:=λb=>b=D) hs hi rfl s.toks) k⟩ (c s.toks) ⟨_,_,get?_update_seq g (·.push y),?_,d,j,k⟩;exact Y jt<|((c s.toks).bV r).append<|.one<|(c s.toks).vr vr
theorem vg{m:M}(b:gens[k+1]? =none)(h:ej S Γ env A elt m):BodyOk S Γ env A elt gens scope pos k [] (aR m):=λD f s l C acc P c I a p hm=>by unfold q7;refine Y b<|ae<|ae<|b4 h I hm λd w e y s₁ g t r hm=>ae<|BO g (a.keep t id) r hm.1 λq i j n=>aq<|aq ⟨rfl,?_⟩;exact⟨d,l,_,e,i,.refl _ _,(Step.o t).trans j,n,hm.2⟩
theorem BP(a:List Expr){Q:Bool->Shared->Prop}{E:Value->Shared->Prop}(h:Q false s):wpAny (model S.prog S.w) A (forIn a false λc __s=>if __s=true then do
           let ok←PySem.isTrue c env (eval c env)
           pure (ForInStep.yield ok)
          else pure (ForInStep.yield __s)) Q E s:=by
 induction a with
 |nil=>exact Y jz<|aq h
 |cons c r b=>exact Y (jy ..)<|Y (ay eB)<|bO b
theorem vh:kU S Γ env A [] aK:=λf s l C P I hm=>by exact Y jz<|aq ⟨f,C,I.st,.refl _ _,hm⟩
theorem vi{c:Expr}{r:List Expr}{m:M}{a:Mb}(h:iT S Γ env A c m)(i:kU S Γ env A r a):kU S Γ env A (c::r) (c1 m a):=λf s l C P I hm=>by
 refine Y (jy ..)<|Y (az rfl)<|ae<|ae<|hJ h I hm λd b e s₁ g t p=>aq ?_;cases b with
 |false=>exact BP r ⟨d,e,g.st,t,p⟩
 |true=>exact qm t<|i d s₁ l e P g p
inductive Lc(S:aN)(Γ:bl)(env:Env)(D:Addr)(d:hb)(μ:Lay)(s:Shared)(l:au)(L:List V->List V->ai->Prop)(n:Nat)(B:Shared):Prop
 |mk (r:List V) (i:Nat) (f:Lay) (acc:List V) (C:ai):r.length=n->d.items.length=i+n->d.items.drop i=r->eK S Γ env (i7 Γ env D) d μ s f l C B i->Acc S Γ env D f acc B.heap->L r acc C->Lc S Γ env D d μ s l L n B
theorem eK.acc{i:Nat}(t:eK S Γ env (i7 Γ env D) d μ s f l C B i)(x:bQ d.W f B N J)(a:Acc S Γ env D f vs B.heap):Acc S Γ env D N vs J.heap:=a.keep x λb=>t.apart D b<|.inr<|.inr rfl
theorem vj{t iter:Expr}{L:List Expr}{mt:Mt}{m:Mb}{u:Mg}{R:Result->Shared->Prop}(F:cG Γ env)(hh:A.handled=none)(aj:gens[k]? =some ⟨t,iter,L,0⟩)(kT:tup=true->i4 t=true)(ak:g9 S Γ env A t mt)(m5:jS st mt)(al:kU S Γ env A L m)(am:BodyOk S Γ env A elt gens scope pos k ss u)
  (K:hc S tup d) (M:hj st G) (N:hj ss G) (m6:∀i∈st,i∉ss) {P:List V->ai->Prop} (an:eK S Γ env (i7 Γ env D) d μ s f G C B 0) (ao:Acc S Γ env D f vs B.heap) (hm:jT (gI mt m u G) d.ok d.items vs C P)
  (ap:∀J,Rc S Γ env D [] μ s G P J->R (.ok .next) J):codeAny (model S.prog S.w) A (.compLoop (.ListComp elt gens scope pos) k (.ref d.I) (.ref D) env) R B:=by
 refine codeAny_loop rfl (Lc S Γ env D d μ s G λr acc C=>jT (gI mt m u G) d.ok r acc C P) (λn e z=>?_) d.items.length ⟨_,0,f,vs,C,rfl,(eE _).symm,rfl,an,ao,hm⟩;cases z with|mk r i h acc l hn hi ar b O hm=>
 show wpAny _ A ((compTurn (.ListComp elt gens scope pos) k (.ref d.I) (.ref D) env).onRaise (λx=>do noteFrame x env;theTreesLotGoes x)) _ _ e;refine wpAny_noted ?_;unfold compTurn;simp only[aj];refine d4 ?_;refine ck af ?_;cases r with
 |nil=>obtain rfl:n=0:=hn.symm;refine ae<|i6<|bU (K.done A e h l hh hm.1 (show At S d h l e _ from hi.symm▸b.at)) (λox Q z=>?_) λZ Z x=>x;obtain⟨rfl,z⟩:=z;have y:=b.out z.1 z.2;exact aq<|ap Q ⟨h,_,acc,l,y.1,.refl _ _,y.2,b.acc z.2 O,hm.2⟩
 |cons v r=>
  obtain⟨as,T⟩:=mY ar;subst hn;refine ae<|i6<|bU (K.next A t e h l i v hh kT as hm.1 b.at) (λox Q z=>?_) λZ Z x=>x;obtain⟨x,rfl,z⟩:=z;refine ae<|i6<|bU z (λZ aH g=>?_) λZ Z x=>x;have U:=b.acc g.step O;have W:=b.given g;refine ae<|oK ak W.i5 g.vr (m5 _ _ _ _ _ hm.2 λaI aJ q p=>And.intro q p) λau l₂ av aw Z X ax hm=>ae<|i6<|bU (al au aw l₂ av _ X hm.2) (λay az z=>?_) λZ Z x=>x;cases z with|mk aa ab aA ac p=>
  have ad:=ax.trans<|Step.o ac;have ag:=U.keep ad<|U.BN F;have E:=X.step aA ac;have a:=W.own K E<|ad.mono λZ=> .inl;cases ay with
  |false=>exact aq ⟨rfl,r.length,eg _,r,i+1,aa,acc,ab,rfl,hi.trans<|d0 i r.length 1,T,⟨E.weaken hm.1 M,a.step,a.free,a.ctx,a.j,a.size,a.apart⟩,ag,p⟩
  |true=>
   refine gZ rfl ?_;refine i6<|bU (am D aa az l₂ ab acc _ _ E ag (N.sub m6 hm.1) p) (λa7 aK z=>?_) λZ Z x=>x;obtain⟨rfl,z⟩:=z;cases z with|mk aB aL aC aD ah aE aF aG p=>
   have c:=a.own K ah aF;exact⟨rfl,r.length,eg _,r,i+1,aB,aC,aD,rfl,hi.trans<|d0 i r.length 1,T,⟨ah.weaken (hm.1.trans aE)<|M.app N,c.step,c.free,c.ctx,c.j,c.size,c.apart⟩,aG,p⟩
end
section
variable{S:aN}{Γ:bl}{env:Env}{A:Around}{μ g n:Lay}{o r f u:ai}{s v y:Shared}{l l' B:au}{D:Addr}{tup:Bool}{elt:Expr}{gens:List Comprehension}{scope:Scope}{pos:Pos}{k:Nat}{ss st:List Nat}{vs:List V}
theorem vk{t iter:Expr}{a:List Expr}{acc:Value}{R:Result->Shared->Prop}(b:gens[k]? =some ⟨t,iter,a,0⟩){d:hb}(K:hc S tup d){i:Nat}(j:d.J i s.heap)
  (h:codeAny (model S.prog S.w) A (.compLoop (.ListComp elt gens scope pos) k (.ref d.I) acc env) R s):codeAny (model S.prog S.w) A (.compStart (.ListComp elt gens scope pos) k (.ref d.I) acc env) R s:=by
 refine codeAny_of_tree ?_;refine wpAny_notedAt ?_;unfold compStart;have c:(clausesOf<|.ListComp elt gens scope pos)[k]? =some ⟨t,iter,a,0⟩:=b;refine Y c<|ae<|wpAny_askSetting<|wpAny_ite ?_;split
 .exact bO<|aq<|And.intro rfl h
 .exact e5<|ae (m:=standAt iter.pos)<|wpAny_standAt<|ae<|K.self _ _ _ _ i j<|aq<|And.intro rfl h
theorem BQ{t iter:Expr}{m:List Expr}{n:cK}{mt:Mt}{o:Mb}{r:Mg}(F:cG Γ env)(hh:A.handled=none)(h:gens[k+1]? =some ⟨t,iter,m,0⟩)(hg:∀x,foldedSetIterable iter env x=pure x)(kT:tup=true->i4 t=true)(hs:jR S Γ env A iter tup n)(w:g9 S Γ env A t mt)(m5:jS st mt)
  (y:kU S Γ env A m o) (m6:∀i∈st,i∉ss) (B:BodyOk S Γ env A elt gens scope pos (k+1) ss r):BodyOk S Γ env A elt gens scope pos k (st++ss) (e9 n mt o r):=λD g s l f acc P c I a u hm=>by
 unfold q7;refine Y h<|ae<|bU (hs g s l f _ I hm) (λN s₁ C=>d4 ?_) λZ Z x=>x;dsimp only;refine Y (ay af)<|Y (hg ..)<|bO<|c0<|bU C (λit Q E=>?_) λZ Z x=>x;cases E with|mk d R T e K v bL G hm=>
 subst e;have J:=vf (O:=i7 Γ env D) I v bL G λb q=>q.elim (λq=>I.lt<|q.fU F) λq=>q▸a.lt;refine ae<|wpAny_runOwn<|vk h K v.j<|vj F hh h kT w m5 y B K (λi q=>u i<|dJ _ q) (λi q=>u i<|dS _ q) m6 J (a.keep bL id) hm λU z=>?_;cases z with|mk L l' acc f M sub x a' p=>
 exact aq ⟨rfl,L,l',acc,f,M,⟨sub.len,λi Z=>sub.same i (nomatch ·)⟩,x,a',p⟩
end
structure iq(Γ:bl)(scope:Scope)(Γc:bl)(js:List Nat):Prop where
 kind:scope.kind= .function
 kinds:∀x∈scope.names,x.2= .local\/x.2= .free\/x.2= .globalImplicit
 loc:∀x∈scope.names,x.2= .local->scope.names.lookup x.1=some .local
 free:∀x∈scope.names,x.2= .free->x.1∈Γ.cells
 names:∀n∈Γc.names,scope.names.lookup n=some .local\/scope.names.lookup n=some .free
 nd:Γc.names.Nodup
 n0:∀n∈Γc.names,(n==("__debug__":Str))=false
 gl:∀n∈Γc.globals,scope.names.lookup n=some .globalImplicit/\(n==("__debug__":Str))=false
 cells:Γc.cells=[]
 q8:∀p∈js.zip Γc.names,Γ.names[p.1]? =some p.2/\scope.names.lookup p.2=some .free
structure oO(env:Env)(scope:Scope)(cl:List (Str×Addr)):Prop where
 ok:closureFor scope env=pure cl
 look:∀n c,cl.lookup n=some c->env.cells.lookup n=some c
 has:∀n,scope.names.lookup n=some .free->∃c,cl.lookup n=some c
noncomputable def cH(js:List Nat)(k:Nat)(l:au):au:=js.map (λj=>(l[j]?).join)++List.replicate k none
noncomputable def q9(k:NameKind):NameKind:=if k== .free then .cell else k
section
variable{S:aN}{Γ Γc:bl}{env:Env}{A:Around}{μ d p:Lay}{o t:ai}{s f:Shared}{l:au}{scope:Scope}{js:List Nat}{cl:List (Str×Addr)}
theorem vl{g:NameKind->NameKind}:∀(l:List (Str×NameKind))(n:Str),(l.map λx=>(x.1,g x.2)).lookup n=(l.lookup n).map g
 |[],_=>rfl
 |(m,k)::r,n=>by
  refine Y jC<|Y iK<|Y iK ?_;cases n==m
  .exact vl r n
  .rfl
theorem BR(F:cG Γ env)(K:iq Γ scope Γc js)(n:Str):(relabel scope env).names.lookup n=(scope.names.lookup n).map q9:=by
 have q:(relabel scope env).names=scope.names.map λx=>(x.1,q9 x.2):=dZ λx a=>by
  obtain⟨m,k⟩:=x;show(if(k== .free&&env.scope.kind== .function&&env.kindOf m==some .cell)=true then(m,NameKind.cell) else(m,k))=_;refine Y F.kind ?_;cases k with
  |free=>refine Y (F.cl _<|K.free _ a rfl).2 ?_;rfl
  |_=>rfl
 exact Y q<|Y (vl ..) rfl
theorem mem_lookup{b:Type}{l:List (Str×b)}{n:Str}{m:b}(h:l.lookup n=some m):(n,m)∈l:=by
 induction l with
 |nil=>exact a4 h
 |cons a r c=>
  rw[iK] at h;cases e:n==a.1 with
  |false=>rw[e] at h;exact .tail _<|c h
  |true=>rw[e] at h;obtain rfl:=eq_of_beq e;clear c;cases h;exact .head _
theorem ra(env:Env):∀(names:List (Str×NameKind))(cs:List (Str×Addr)),(∀x∈names,x.2= .free->∃c,env.cells.lookup x.1=some c)->(∀n c,cs.lookup n=some c->env.cells.lookup n=some c)->
  ∃cl,(forIn names cs λ(x:Str×NameKind) cs=>(if x.2== .free then do let c←cellOf env x.1;pure (.yield<|(x.1,c)::cs) else pure (.yield cs):Sem (ForInStep<|List<|Str×Addr)))=pure cl/\(∀n c,cl.lookup n=some c->env.cells.lookup n=some c)/\∀n,(∃c,cs.lookup n=some c)\/(n,NameKind.free)∈names->∃c,cl.lookup n=some c
 |[],cs,_,h=>⟨cs,Y jz rfl,h,λn q=>q.elim id ((bw ·))⟩
 |(m,k)::r,cs,hf,h=>by
  have g:∀x∈r,x.2= .free->∃c,env.cells.lookup x.1=some c:=λx j=>hf x<|.tail _ j;refine Y (jy ..) ?_;cases e:k==NameKind.free with
  |false=>
   refine bE (ra env r cs g h) λcl a b d=>?_;refine⟨cl,Y (ay eB)<|Y (pure_bind ..) a,b,λn q=>d n<|q.imp id λq=>?_⟩;clear hf;cases q with
   |head=>exact e4 e
   |tail _ q=>exact q
  |true=>
   refine jE (hf (m,k) (.head _)<|eq_of_beq e) λc f=>?_;have i:cellOf env m=pure c:=by unfold cellOf;exact Y (show env.cells.lookup m=some c from f) rfl
   have look:∀n,((m,c)::cs).lookup n=bif n==m then some c else cs.lookup n:=λn=>by refine Y iK ?_;cases n==m<;>rfl
   refine bE (ra env r ((m,c)::cs) g λn c' q=>by
    rw[look] at q;cases z:n==m with
    |false=>rw[z] at q;exact h n c' q
    |true=>rw[z] at q;cases q;clear i look;obtain rfl:=eq_of_beq z;exact f) λcl a b d=>?_
   refine⟨cl,by rw[az rfl,i,pure_bind,pure_bind];exact a,b,λn q=>d n ?_⟩;cases z:n==m with
   |true=>exact .inl ⟨c,by refine Y (look ..)<|Y z ?_;rfl⟩
   |false=>
    refine q.imp (λq=>Y (look ..)<|Y z q) λq=>?_;clear e f;cases q with
    |head=>rw[d1] at z;exact e4 z
    |tail _ q=>exact q
theorem BS(F:cG Γ env)(K:iq Γ scope Γc js):∃cl,oO env scope cl:=by
 refine bE (ra env scope.names [] (λx a b=>by have z:=F.cl _<|K.free x a b;exact(F.kinds _ z.1).elim (λq=>nomatch z.2.symm.trans q) λq=>q.2) λn c h=>((a4 h))) λcl d e f=>?_
 refine⟨cl,?_,e,λn q=>f n<|.inr<|mem_lookup q⟩;unfold closureFor;exact Y (bind_pure ..) d
theorem kV(F:cG Γ env)(K:iq Γ scope Γc js)(C:Addr){n:Str}{k:NameKind}(h:scope.names.lookup n=some k):(compEnvC scope cl C env).kindOf n=some (q9 k):=(BR F K n).trans<|ar _ h
theorem BU(F:cG Γ env)(K:iq Γ scope Γc js)(X:oO env scope cl)(C:Addr):cG Γc (compEnvC scope cl C env):=
 ⟨K.kind,F.glob,F.bi,K.nd,K.n0,λn hn=>(K.names n hn).imp (λh=>kV F K C h) λh=>⟨kV F K C h,X.has n h⟩,λn hn=>kV F K C (K.gl n hn).1,λn hn=>(K.gl n hn).2,
  λn hn=>(by rw[K.cells] at hn;exact bw hn),λn a c h b=>F.inj n a c (X.look _ _ h) (X.look _ _ b)⟩
theorem rb(F:cG Γ env)(K:iq Γ scope Γc js)(X:oO env scope cl){C:Addr}{m:Str}{c:Addr}(hm:m∈Γc.names)(a:(compEnvC scope cl C env).kindOf m=some .cell)(b:cl.lookup m=some c):m∈Γ.names/\env.kindOf m=some .cell/\env.cells.lookup m=some c:=by
 refine Or.elim (K.names m hm) (λh=>?_) λh=>?_
 .exact nomatch (kV F K C h).symm.trans a
 .have z:=F.cl _ (K.free _ (mem_lookup h) rfl);exact⟨z.1,z.2,X.look _ _ b⟩
theorem rf{k:Nat}{i:Nat}{v:V}(h:(cH js k l)[i]? =some (some v)):∃j,js[i]? =some j/\l[j]? =some (some v):=by
 unfold cH at h;by_cases q:i<(js.map λj=>(l[j]?).join).length
 .rw[fP q,b9] at h;refine ak (dY.mp h) λj a h=>?_;exact⟨j,a,Option.join_eq_some_iff.mp h⟩
 .rw[h5<|eS q,List.getElem?_replicate] at h;split at h<;>cases h
theorem BV(F:cG Γ env)(K:iq Γ scope Γc js)(X:oO env scope cl){k:Nat}(hn:js.length+k=Γc.names.length)(I:In S Γ env μ s l o)(x:Step μ s d f){C:Addr}{m:Str->Option Value}(g:¬foot d C)(h:S.B.objs.size<=C)(n:f.heap.Ns C m):
  FR S Γc (compEnvC scope cl C env) d f.heap (cH js k l):=by
 have fr:=I.fr.step x λZ Z=>id;refine⟨by unfold cH;exact Y List.length_append<|Y (List.length_map ..)<|Y List.length_replicate<|Y hn rfl,λb p=>?_,⟨m,n,λi nm e kd v q=>?_⟩,λi nm c e kd q=>?_⟩
 .cases p with
  |loc=>exact⟨g,h⟩
  |cell nm c r t u=>have z:=rb F K X r t u;exact fr.own b<|.cell nm _ z.1 z.2.1 z.2.2
 .refine ak (rf q) λj a Z=>?_;have hz:(js.zip Γc.names)[i]? =some (j,nm):=List.getElem?_zip_eq_some.mpr ⟨a,e⟩;exact nomatch (kV F K C (K.q8 _<|bI hz).2).symm.trans kd
 .have z:=rb F K X (bI e) kd q;refine jE (fy.mp z.1) λj a=>?_;refine(fr.cell j nm c a z.2.1 z.2.2).imp λG w=>⟨w.1,λv y=>?_⟩;refine ak (rf y) λA D E=>?_;have hz:(js.zip Γc.names)[i]? =some (A,nm):=List.getElem?_zip_eq_some.mpr ⟨D,e⟩;exact w.2 v<|ql F a (K.q8 _<|bI hz).1▸E
end
noncomputable def aS(src:cK)(js:List Nat)(k:Nat)(t:Mt)(c:Mb)(b:Mg):M:=λl d P=>src l d λitems ok e=>jT (gI t c b<|cH js k l) ok items [] e λvs a=>P (.ref a.length)<|a++[.list vs]
inductive vm(S:aN)(Γ:bl)(env:Env)(μ:Lay)(s:Shared)(l:au)(P:V->ai->Prop)(x:Value)(C:Addr)(a:Shared):Prop
 |mk (b:Lay) (v:V) (c:ai) (m:Str->Option Value):In S Γ env b a l c->Step μ s b a->VR b a.heap v x->¬foot b C->s.heap.objs.size<=C->a.heap.Ns C m->P v c->vm S Γ env μ s l P x C a
section
variable{S:aN}{Γ Γc:bl}{env:Env}{A:Around}{μ B T:Lay}{M N O U:ai}{s u W:Shared}{l l' aa:au}{D C:Addr}{tup:Bool}{elt t iter:Expr}{gens:List Comprehension}{E:List Expr}{scope:Scope}{pos R:Pos}{k:Nat}{ss st js:List Nat}{vs:List V}{cl:List (Str×Addr)}{G:cK}{mt:Mt}{J:Mb}{L:Mg}{P:V->ai->Prop}
theorem vn{h:Heap}{D:Addr}{xs:Array Value}{n:Nat}{o:Obj}(g:h.get? D=some (dM xs n))(e:h.get? D=some o)(i:cS o):False:=by obtain rfl:=aT<|g.symm.trans e;exact ow i
theorem St.BW(st:St S B M u.heap)(a:Acc S Γ env D B vs u.heap)(x:Step μ s B u)(c:s.heap.objs.size<=D):St S (B++[(D,D)]) (M++[.list vs]) u.heap/\Step μ s (B++[(D,D)]) u:=by
 cases a with|mk xs n g r d h k=>
 have j:Move B u.heap (B++[(D,D)]) u.heap:=⟨λZ Z=>fG,λb o e Z Z=>e,λb o e f im q=>(g4 q).elim f λq=>vn g (q.elim (·▸e) (·▸e)) im⟩
 exact⟨(st.new (λZ Z e=>e) (aM _) d d h h (λo e im=>vn g (e.elim id id) im) (.list vs xs n g (r.move j) rfl)).1,
  λi p e=>fG (x.lay i p e),λb f=>(g4 f).elim (x.new b) λq=> .inr (q.elim (·▸c) (·▸c)),x.keep,x.jF,x.grow,x.gens,x.os⟩
structure oP(S:aN)(Γ:bl)(env:Env)(A:Around)(elt t iter:Expr)(gens:List Comprehension)(E:List Expr)(scope:Scope)(pos:Pos)(Γc:bl)(tup:Bool)(js:List Nat)(k:Nat)(st ss:List Nat)(G:cK)(mt:Mt)(J:Mb)(L:Mg):Prop where
 F:cG Γ env
 hh:A.handled=none
 K:iq Γ scope Γc js
 hn:js.length+k=Γc.names.length
 jU:∀i∈st++ss,js.length<=i
 hg:∀x,foldedSetIterable iter env x=pure x
 kT:tup=true->i4 t=true
 hs:jR S Γ env A iter tup G
 m5:jS st mt
 m6:∀i∈st,i∉ss
 inner:∀cl C,cG Γc (compEnvC scope cl C env)->g9 S Γc (compEnvC scope cl C env) A t mt/\kU S Γc (compEnvC scope cl C env) A E J/\BodyOk S Γc (compEnvC scope cl C env) A elt (⟨t,iter,E,0⟩::gens) scope pos 0 ss L
theorem vo(h:∀i∈ss,js.length<=i):hj ss (cH js k l):=λi hi v q=>(rf q).elim λj z=>cJ.mpr (h i hi) (cN.mp z.1).1
theorem vp(X:oP S Γ env A elt t iter gens E scope pos Γc tup js k st ss G mt J L)(I:In S Γ env μ s l M)(hm:aS G js k mt J L l M P){use:Option (Value->Sem Unit)}{Q:Value->Shared->Prop}
  (ai:∀x C u,vm S Γ env μ s l P x C u->compPost (model S.prog S.w) A bq use Q x C (.ok .next) u):
  wpAny (model S.prog S.w) A (comprehension (.ListComp elt (⟨t,iter,E,0⟩::gens) scope pos) scope env R (newList []) false (eval iter env) use) Q bq s:=by
 have F:=X.F;refine jE (BS F X.K) λcl B=>?_;refine wpAny_comprehension_free (cl:=cl) rfl X.hg B.ok X.K.kind X.K.loc<|bU (X.hs μ s l M _ I hm) (λaC s₁ h=>bU h (λit a aj=>?_) λZ Z x=>x) λZ Z x=>x;cases aj with|mk d r O e K v bL V hm=>
 subst e;refine ib<|wpAny_newFunctionEnv (λx ak=>?_) (λy al=>(bw al)) (λh am T=>?_) X.K.kind
 .refine Or.elim (X.K.kinds x ak) (λq=>?_) λan=>Or.elim an (λq=>?_) λq=>?_<;>refine Y q ?_<;>decide
 generalize ao:(a.heap.push {cls:= .type "list",dict:=none,data:= .seq ([]:List Value).toArray}).objs.size=C at*;have ap:C=a.heap.objs.size+1:=ao.symm.trans<|eT _ _;have n:a.heap.objs.size<C:=ap▸eg _;have k₁:∀b o,a.heap.get? b=some o->h.get? b=some o:=λb o e=>(T.2 b<|bk<|ei (bA e) n).trans<|bZ _<|bZ _ e;have W:a.heap.objs.size+2<=h.objs.size:=by rw[T.1,eT,eT];exact aM _
 have aq:h.get? a.heap.objs.size=some (dM #[] 0):=(T.2 _<|bk n).trans<|bZ _<|cy _ rfl;have aa:Step r a r {a with heap:=h,toks:=a.toks+([]:List (Str×Value)).length}:= .keeps k₁ (ah (cp _ 2) W) _;have ab:=bL.trans aa;have ac:∀b,a.heap.objs.size<=b->¬foot r b:=λb q f=>cJ.mpr q<|v.st.lt f;have new:∀{b},a.heap.objs.size<=b->s.heap.objs.size<=b:=λq=>ah bL.grow q;have ad:=BU F X.K B C
 have ar:In S Γc (compEnvC scope cl C env) r {a with heap:=h,toks:=a.toks+([]:List (Str×Value)).length} (cH js k l) O:=
  ⟨v.st.keeps k₁<|ah (cp _ 2) W,BV F X.K B X.hn I ab (ac C<|c2 n) (ah I.st.size<|new<|c2 n) am⟩
 have fU:∀b,Fa Γc (compEnvC scope cl C env) b->b=C\/b<s.heap.objs.size:=λb g=>by
  cases g with
  |loc=>exact .inl rfl
  |cell m c D as au=>have z:=rb F X.K B D as au;exact .inr<|I.lt<|.cell m _ z.1 z.2.1 z.2.2
 have ae:∀b,i7 Γc (compEnvC scope cl C env) a.heap.objs.size b->a.heap.objs.size<=b:=λb g=>g.elim (λq=>by
  clear g;cases q with
  |loc=>exact c2 n
  |cell m c D _=>rw[X.K.cells] at D;exact bw D) λq=>bF q.symm
 have av:Acc S Γc (compEnvC scope cl C env) a.heap.objs.size r [] h:=⟨#[],0,aq,.nil,ac _<|aM _,ah I.st.size bL.grow,λb g=>(fU b g).elim (λq=>q▸du n) λq=>bk<|bt q bL.grow⟩
 have af:eK S Γc (compEnvC scope cl C env) (i7 Γc (compEnvC scope cl C env) a.heap.objs.size) d μ s r (cH js k l) O {a with heap:=h,toks:=a.toks+([]:List (Str×Value)).length} 0:=
  ⟨ar,Step.o ab,λb g=>⟨(v.free b g).1,V b g⟩,λq aw=>aa.vr (v.ctx q aw),K.f3 _ _ _ v.j λb o Z e=>k₁ b o e,I.st.size,λb g q=>by have lt:b<a.heap.objs.size:=(K.live _ _ v.j b g).elim λo e=>bA e;exact q.elim (λq=>(fU b q).elim (λq=>Nat.lt_asymm lt (q▸n)) λq=>cJ.mpr (V b g) q) λq=>cJ.mpr (ae b q) lt⟩
 have U:=X.inner cl C ad;refine vk rfl K af.j<|vj ad X.hh rfl X.kT U.1 X.m5 U.2.1 U.2.2 K (vo λi q=>X.jU i<|dJ _ q) (vo λi q=>X.jU i<|dS _ q) X.m6 af av hm λax z=>ai _ C ax ?_;cases z with|mk aD aE vs ay N Z az aA p=>
 refine jA (N.st.BW (μ:=μ) (s:=s) aA ((az.mono (P':=λb=>False\/_) λZ=> .inr).drop λb q=>new<|ae b q) bL.grow) λaB ag=>?_;refine N.fr.ns.elim λm q=>⟨_,.ref ay.length,_,m,I.step aB ag,ag,.ref _ _ _<|N.st.len▸fq _ _,λf=>(g4 f).elim (N.fr.own C .loc).1 λq=>du n<|q.elim id id,new<|c2 n,q.1,p⟩
theorem vq(X:oP S Γ env A elt t iter gens E scope pos Γc tup js k st ss G mt J L):bh S Γ env A (.ListComp elt (⟨t,iter,E,0⟩::gens) scope pos) (aS G js k mt J L):=
 .value (λμ s l M P I hm=>by
  refine Y (arm_eval_ListComp ..)<|vp X I hm λx C u f=>?_;cases f with|mk B v N m i t r c new ns p=>
  exact⟨m,ns,λd a=>⟨B,v,N,i.st.mJ a (λZ=>jI ns) ⟨c,ah I.st.size new⟩,((Step.o t).trans (step_at (P:=λb=>False\/b=C) a (λZ=>jI ns) (.inr rfl) u.toks)).drop λb q=>q▸new,(step_at (P:=λb=>b=C) a (λZ=>jI ns) rfl u.toks).vr r,p⟩⟩) rfl
theorem BX{x:Str}{g h:Pos}{ix:Nat}(X:oP S Γ env A elt t iter gens E scope pos Γc tup js k st ss G mt J L)(z:swapsWithSole [.Name x g] (.ListComp elt (⟨t,iter,E,0⟩::gens) scope pos) h.line env=pure true)(D:Γ.names[ix]? =some x)(K:lJ Γ env x):
  ha S Γ env A (.Assign [.Name x g] (.ListComp elt (⟨t,iter,E,0⟩::gens) scope pos) h) (aB (aj ix)<|aS G js k mt J L):=λμ s l M P I hm=>by
 have F:=X.F;refine Y (exec_Assign ..)<|Y z<|d4<|bO ?_;refine gZ rfl ?_;refine ae<|ae<|vp X I hm λy C u f=>?_;cases f with|mk B v N m i t r j new ns p=>
 refine assign_Name<|n1 F D K i r λc n w=>?_;have O:¬gz Γ env C:=λq=>cJ.mpr new<|I.lt<|q.fU F;have a:c.heap.Ns C m:=ns.at' λo e=>w.keep _ _ e j O;refine⟨m,a,λR d=>aq<|aq ⟨B,_,_,N,⟨n.st.mJ d (λZ=>jI a) ⟨j,ah I.st.size new⟩,n.fr.step (step_at (P:=λb=>b=C) d (λZ=>jI a) rfl c.toks) λb Q q=>cJ.mpr new<|q▸I.lt Q⟩,?_,.next,p⟩⟩;exact(((Step.o t).trans<|w.mono λZ=> .inl).trans<|step_at (P:=λb=>gz Γ env b\/b=C) d (λZ=>jI a) (.inr rfl) c.toks).drop λb q=>q▸new
end
noncomputable def BY(b:ai)(a:V)(k:List V->(ai->Prop)->Prop):Prop:=(gA a λl=>k l λZ=>True)\/(dj b a λr l=>k l λc=>c[r]? =some (.list l))\/qD a λlo hi st=>lO lo hi st/\k (gD lo hi st) λZ=>True
noncomputable def aI(e:M):cK:=λl c k=>e l c λa b=>BY b a λitems ok=>k items ok b
noncomputable abbrev owners:List String:=["enumerate","zip","dict_itemiterator","dict_reverseitemiterator","odict_iterator","itertools.zip_longest","itertools.pairwise"]
section
variable{S:aN}{Γ:bl}{env:Env}{A:Around}{μ d D:Lay}{u F C G:ai}{s B L:Shared}{l l':au}{h f:Heap}
theorem BZ{I:Addr}{o:Obj}{n:String}{t:Expr}{x:Value}{Q:Unit->Shared->Prop}{E:Value->Shared->Prop}(g:s.heap.get? I=some o)(b:o.cls= .type n)(hn:owners.contains n=false)(h:Q () s):wpAny (model S.prog S.w) A (letOwnedTupleGo t (.ref I) x) Q E s:=by
 have main:wpAny (model S.prog S.w) A (do
  let(.ref r,.ref a):=(Value.ref I,x)|return
  let o←load r
  match o.cls,o.data with
  | .type n,.fields vs=>
   if owners.contains n&&vs[0]? ==some (rawInt a) then
    rule "for.unpacks-the-owned-tuple"
    updateField r 0 .none
  |_,_=>pure ():Sem Unit) Q E s:=by
  cases x with
  |ref a=>
   refine ae<|wpAny_load g ?_;refine Y b ?_;cases o.data with
   |fields vs=>show wpAny _ _ (if(owners.contains n&&vs[0]? ==some (rawInt a))=true then _ else _) _ _ _;exact Y hn<|aq h
   |_=>exact aq h
  |_=>exact aq h
 cases t with
 |Tuple=>exact main
 |List=>exact main
 |_=>exact aq h
theorem oQ{X:List (V×Value)}{I:Addr}{items:List V}{ok:ai->Prop}{J:Nat->Heap->Prop}{n:String}{tup:Bool}(l:n≠"tuple")(m:n≠"range")(hn:owners.contains n=false)(cls:∀i h,J i h->∃o,h.get? I=some o/\o.cls= .type n)
  (f3:∀i h f,J i h->(∀o,h.get? I=some o->f.get? I=some o)->J i f) (self:∀(A:Around)(E:Value->Shared->Prop)(Q:Value->Shared->Prop)(s:Shared)(i:Nat),J i s.heap->Q (.ref I) s->wpAny (model S.prog S.w) A (pyIter<|.ref I) Q E s)
  (item:∀A s d u i v Q,A.handled=none->items[i]? =some v->ok u->At S ⟨X,I,λb=>b=I,items,ok,J⟩ d u s i->(∀x f tk,Heap.SameBut I s.heap f->VR d s.heap v x->J (i+1) f->Q (some x) {s with heap:=f,toks:=tk})->wpAny (model S.prog S.w) A (pyNext<|.ref I) Q bq s)
  (p:∀A s d u Q(E:Value->Shared->Prop),A.handled=none->ok u->At S ⟨X,I,λb=>b=I,items,ok,J⟩ d u s items.length->(∀f,Heap.ExtBut I s.heap f->Q none {s with heap:=f})->wpAny (model S.prog S.w) A (pyNext<|.ref I) Q E s):hc S tup ⟨X,I,λb=>b=I,items,ok,J⟩:=by
 have ni:∀i h,J i h->∃o,h.get? I=some o/\(cS o->False):=λi h j=>(cls i h j).imp λo e=>⟨e.1,kQ e.2 l m⟩;refine⟨λA t s d u i v hh Z y c a=>item A s d u i v _ hh y c a λx f tk hs r j=>⟨x,rfl,?_⟩,λA s d u hh c a=>d7<|p A s d u _ _ hh c a λf hs hz=>⟨rfl,?_⟩,self,λi h f j k=>f3 i h f j λo=>k I o rfl,λi h j b e=>(cls i h j).imp λo z=>e▸z.1⟩
 .refine ak (cls _ _ j) λo B C=>?_;have z:=oC a.st (a.free I rfl).1 (a.free I rfl).2 (ni _ _ a.j) (λb o g e=>(hs.2 b λq=>g<|q▸.head _).trans e) (bF hs.1.symm) tk;exact BZ B C hn ⟨z.1,z.2,z.2.vr r,j⟩
 .exact oC a.st (a.free I rfl).1 (a.free I rfl).2 (ni _ _ a.j) (λb o g e=>hs b o (λq=>g<|q▸.head _) e) hz s.toks
theorem rg{r:Nat}{a:Addr}{c:List V}(st:St S d u h)(vr:VR d h (.ref r) (.ref a))(ok:u[r]? =some (.list c)):∃vs n,h.get? a=some (dM vs n)/\aA d h c vs.toList:=by refine jE vr.nY λb e=>?_;have f:=st.obj _ _ _ _ ok e;cases f with|list Z vs n g q Z=>exact⟨vs,n,g,q⟩
theorem lW{a:Addr}{b:List V}(vr:VR d h (.tup b) (.ref a)):∃vs n,h.get? a=some (fE vs n)/\aA d h b vs.toList:=by cases vr with|tup Z Z vs n Z g q=>exact⟨vs,n,g,q⟩
theorem m7{a:List V}{vs:Array Value}(q:aA d h a vs.toList){i:Nat}{v:V}(b:a[i]? =some v):∃x,vs[i]? =some x/\VR d h v x:=(q.get b).imp λx z=>⟨(cE ..).symm.trans z.1,z.2⟩
theorem vt{a:List V}{vs:Array Value}(q:aA d h a vs.toList):vs[a.length]? =none:=by exact Y (propext Array.getElem?_eq_none_iff)<|bF q.sz
theorem B0{r:Nat}{a I:Addr}{m:List V}{tup:Bool}:hc S tup ⟨[(.ref r,.ref a)],I,λb=>b=I,m,λC=>C[r]? =some (.list m),λi h=>h.IsListIter I a i⟩:=
 oQ (n:="list_iterator") af af af (λi h j=>j.imp λo e=>⟨e.1,e.2.1⟩) (λi h f j k=>j.at k) (λA E Q s i j h=>wpAny_pyIter_listiter j h)
  (λA s d u i v Q hh p c a l=>by refine cq (rg a.st (a.ctx _<|.head _) c) λvs n g q=>?_;refine ak (m7 q p) λx t w=>?_;exact wpAny_pyNext_list_item a.j ⟨_,g,rfl,n,rfl⟩ t λf y hs=>l x f s.toks hs w y)
  λA s d u Q E hh c a l=>by refine cq (rg a.st (a.ctx _<|.head _) c) λvs n g q=>?_;exact wpAny_pyNext_list_end hh a.j ⟨_,g,rfl,n,rfl⟩ (vt q) l
theorem iter_tuple{a I:Addr}{l:List V}{tup:Bool}:hc S tup ⟨[(.tup l,.ref a)],I,λb=>b=I,l,λZ=>True,λi h=>h.IsTupleIter I a i⟩:=
 oQ (n:="tuple_iterator") af af af (λi h j=>j.imp λo e=>⟨e.1,e.2.1⟩) (λi h f j k=>j.at k) (λA E Q s i j h=>wpAny_pyIter_tupleiter j h)
  (λA s d u i v Q hh m p a c=>by refine cq (lW<|a.ctx _<|.head _) λvs n g q=>?_;refine ak (m7 q m) λx r t=>?_;exact wpAny_pyNext_tuple_item a.j ⟨_,g,rfl,n,rfl⟩ r λf w hs=>c x f s.toks hs t w)
  λA s d u Q E hh p a c=>by refine cq (lW<|a.ctx _<|.head _) λvs n g q=>?_;exact wpAny_pyNext_tuple_end hh a.j ⟨_,g,rfl,n,rfl⟩ (vt q) c
theorem B1{I:Addr}{lo c:Int}{n:Nat}{tup:Bool}:hc S tup ⟨[],I,λb=>b=I,(List.range n).map λ(k:Nat)=>V.int (lo+(k:Int)*c),λZ=>True,λi h=>IsRangeIter h I (lo+(i:Int)*c) ((n:Int)-(i:Int)) c⟩:=
 oQ (n:="range_iterator") af af af (λi h j=>⟨_,j,rfl⟩) (λi h f j k=>k _ j) (λA E Q s i j h=>wpAny_pyIter_rangeiter j h)
  (λA s d u i v Q hh g m a l=>by
   rw[b9] at g;refine ak (dY.mp g) λk e o=>?_;obtain rfl:=o;refine jE (cN.mp e) λhi e=>?_;rw[List.getElem_range] at e;clear g;subst e;rw[cF] at hi
   exact wpAny_pyNext_range_item a.j (Int.sub_pos_of_lt (ij.mpr hi)) λf p hs=>l _ f _ hs (.int _ _) (by
    have q:lo+((i+1:Nat):Int)*c=lo+(i:Int)*c+c:=(ar (lo+ ·) ((Int.add_mul (i:Int) 1 c).trans (ar ((i:Int)*c+ ·)<|Int.one_mul c))).trans (Int.add_assoc ..).symm;have r:(n:Int)-((i+1:Nat):Int)=(n:Int)-(i:Int)-1:=(Int.sub_sub (n:Int) (i:Int) 1).symm;show IsRangeIter _ _ _ _ _;exact Y q (Y r p)))
  λA s d u Q E hh m a l=>wpAny_pyNext_range_end hh a.j (by show(n:Int)-_<=0;exact Y (aV ..)<|Y cF<|Int.le_of_eq<|Int.sub_self _) l
theorem oR{tup:Bool}{k:List V->(ai->Prop)->ai->Prop}{o:Obj}{X:List (V×Value)}{items:List V}{ok:ai->Prop}{J:Nat->Heap->Prop}(st:St S d u B.heap)(x:Step μ s d B)(K:hc S tup ⟨X,B.heap.objs.size,λb=>b=B.heap.objs.size,items,ok,J⟩)(ctx:∀q∈X,VR d B.heap q.1 q.2)(j:J 0 (B.heap.push o))(p:k items ok u):
  Made S tup μ s k (.ref B.heap.objs.size) {B with heap:=B.heap.push o}:=
 have t:Step d B d {B with heap:=B.heap.push o}:= .push o B.toks
 ⟨⟨X,B.heap.objs.size,λb=>b=B.heap.objs.size,items,ok,J⟩,d,u,rfl,K,⟨st.push o,λq a=>t.vr<|ctx q a,j,λb e=>e▸⟨st.kK,st.size⟩⟩,x.trans t,λb e=>e▸x.grow,p⟩
theorem B2{e:Expr}{m:M}{tup:Bool}(h:ej S Γ env A e m):jR S Γ env A e tup (aI m):=λμ s l u k I hm=>
 b4 h I hm λd v B x s₁ j t r hm=>by
  rcases hm with hm|hm|hm
  .exact hL r hm λl a vs n o g va p=>lG ⟨_,g,rfl,n,rfl⟩<|oR j.st t iter_tuple (λq f=>a3.mp f▸.tup l a vs n o g va) ⟨_,cy _ rfl,rfl,rfl⟩ p
  .exact dU j.st r hm λi a l vs n C w D g va p=>wpAny_pyIter_list ⟨_,g,rfl,n,rfl⟩<|oR j.st t B0 (λq f=>a3.mp f▸.ref i a a w) ⟨_,cy _ rfl,rfl,rfl⟩ p
  .refine uh r hm λlo hi c a x y z g p=>wpAny_pyIter_range (a:=lo) (b:=hi) (c:=c) g (uo p.1) (oR j.st t (B1 (lo:=lo) (c:=c)) (λq f=>(bw f)) ?_ p.2);show IsRangeIter _ _ (lo+((0:Nat):Int)*c) (((if c=1 then(hi-lo).toNat else(lo-hi).toNat:Nat):Int)-((0:Nat):Int)) c
   have e:((if c=1 then(hi-lo).toNat else(lo-hi).toNat:Nat):Int)=Builtin.Range.rangeSize lo hi c:=by refine Y (qG p.1) ?_;unfold gD;exact Y (List.length_map ..)<|Y List.length_range rfl
   exact Y e<|Y Int.natCast_zero<|Y (Int.zero_mul ..)<|Y (Int.add_zero ..)<|Y (Int.sub_zero ..)<|cy _ rfl
end
open AutoSeq1 (wpAny_loadPart')
noncomputable def fa(n:Nat):List V->List V
 |[]=>[]
 |a::l=> .tup [.int (n:Int),a]::fa (n+1) l
noncomputable def B3(b:ai)(a:V)(k:List V->(ai->Prop)->Prop):Prop:=(gA a λl=>k (fa 0 l) λZ=>True)\/dj b a λr l=>k (fa 0 l) λc=>c[r]? =some (.list l)
noncomputable def enumSrc(e:M):cK:=λl c k=>e l c λa b=>B3 b a λitems ok=>k items ok b
section
variable{S:aN}{Γ:bl}{env:Env}{A:Around}{μ C L:Lay}{J K N O:ai}{s G U:Shared}{l l':au}{h u:Heap}{prog:Program}{w:World}{E:Value->Shared->Prop}
theorem m8{W:Addr->Prop}(st:St S C J s.heap)(a:∀b,W b->¬foot C b/\S.B.objs.size<=b)(d:∀b,W b->∃o,s.heap.get? b=some o/\(cS o->False))(hm:∀b o,¬W b->s.heap.get? b=some o->u.get? b=some o)(hz:s.heap.objs.size<=u.objs.size)(t:Nat):
  St S C J u/\bQ W C s C {s with heap:=u,toks:=t}:=by
 have im:∀b o,s.heap.get? b=some o->cS o->¬W b:=λb o e i q=>(d b q).elim λo' z=>z.2<|aT (z.1.symm.trans e)▸i;exact⟨st.same (λb o e c=>hm b o (λq=>c.elim (a b q).1 λc=>c.elim (λi=>im b o e i q) λc=>hH.mpr c (a b q).2) e) hz,λZ Z e=>e,λZ f=> .inl f,λb o e Z q=>hm b o q e,λb o e Z i=>hm b o (im b o e i) e,hz,rfl,rfl⟩
theorem rh{it t:Addr}{i:Nat}{items:Array Value}{x:Value}{Q:Value->Shared->Prop}(b:s.heap.IsTupleIter it t i)(c:s.heap.IsTuple t items)(d:items[i]? =some x)
  (e:∀u,u.IsTupleIter it t (i+1)->Heap.SameBut it s.heap u->Q x {s with heap:=u}):wpAny (model prog w) A (Builtin.SmallTypes.nextOf<|.ref it) Q E s:=by
 refine bE (id b) λo a f hd=>?_;refine bE c λk g Z h=>?_;refine jE h λnl j=>?_
 refine ae (gk (name:=Str.ofString "__next__") b.typeIs nU
  (da nU b.typeIs PySem.F.entry_tuple_iterator_next ?_ (PySem.F.args_tuple_iterator_next_1 _)))
 refine ae (m:=field (.ref it) 0)<|eU a hd (x:= .ref t) rfl ?_;refine ae (m:=field (.ref it) 1)<|eU a hd (x:= .int i 0) rfl ?_;refine ae (m:=seqItems?<|.ref t)<|gv g j ?_;refine Y (fR ..) ?_;dsimp only;refine Y d<|ae<|wpAny_setField a hd (eg 1)<|aq ⟨x,rfl,aq<|e _ ?_<|kB ..⟩;exact⟨_,h6 _ a<|Obj.isFreed_of_fields<|Obj.data_mapFields hd _,(Obj.cls_mapFields ..).trans f,Obj.data_mapFields hd _⟩
theorem vu{it t:Addr}{i:Nat}{items:Array Value}{Q:Value->Shared->Prop}(hh:A.handled=none)(b:s.heap.IsTupleIter it t i)(d:s.heap.IsTuple t items)(f:items[i]? =none)
  (g:∀u e,Heap.ExtBut it s.heap u->(∃o,u.get? e=some o/\o.cls= .type "StopIteration")->E (.ref e) {s with heap:=u}):wpAny (model prog w) A (Builtin.SmallTypes.nextOf<|.ref it) Q E s:=by
 refine bE (id b) λo c l hd=>?_;refine bE d λn h Z j=>?_;refine jE j λnl k=>?_
 refine ae (gk (name:=Str.ofString "__next__") b.typeIs nU
  (da nU b.typeIs PySem.F.entry_tuple_iterator_next ?_ (PySem.F.args_tuple_iterator_next_1 _)))
 refine ae (m:=field (.ref it) 0)<|eU c hd (x:= .ref t) rfl ?_;refine ae (m:=field (.ref it) 1)<|eU c hd (x:= .int i 0) rfl ?_;refine ae (m:=seqItems?<|.ref t)<|gv h k ?_;refine Y (fR ..) ?_;dsimp only;refine Y f<|e5<|ae<|wpAny_setField c hd (fj 1) ?_;refine ae ?_;refine ae<|ib ?_ (by size_fits);refine ae (m:=firstArgMember _ _)<|wpAny_of_eq (a:=Value.none) (by first|rfl|(simp only[firstArgMember];rfl)) ?_;refine ib ?_ (by size_fits);refine ae<|wpAny_handled ?_;refine Y (show A.in1.handled=none from hh)<|bO<|wpAny_throw ?_;exact g _ _ (((kB ..).extBut.push _).push _) ⟨_,cy _ rfl,rfl⟩
theorem B4(hh:A.handled=none)(it t:Addr)(c:t≠it)(items:Array Value):
  Draws prog w A it [it,t] items.size (λi v=>items[i]? =some v) (λi h=>h.IsTupleIter it t i/\h.IsTuple t items) where
 live:=λZ Z st=>let⟨o,d,_⟩:=st.1;⟨o,d⟩
 frame:=λZ Z Z st a=>⟨st.1.at λo e=>a it (.head _) o e,st.2.at λo e=>a t (.tail _<|.head _) o e⟩
 item:=λi s Q E hi st f=>rh st.1 st.2 (dI hi) λu g b=>f _ u s.toks (dI hi) ⟨g,st.2.extBut b.extBut c⟩ b
 done:=λs Q E st j=>vu hh st.1 st.2 (kz<|aM _) j
theorem vv:∀(l:List V)(n i:Nat)(v:V),(fa n l)[i]? =some v->∃x,l[i]? =some x/\v= .tup [.int ((n+i:Nat):Int),x]
 |a::l,n,0,v,h=>⟨a,rfl,(aT h).symm⟩
 |a::l,n,i+1,v,h=>by refine ak (vv l (n+1) i v h) λx c b=>?_;exact⟨x,c,by rw[dD,d3 1] at b;exact b⟩
theorem vw:∀(l:List V)(n:Nat),(fa n l).length=l.length
 |[],n=>rfl
 |a::l,n=>ar Nat.succ<|vw l<|n+1
theorem ri{e:Addr}{vs:Array Value}(g:h.get? e=some {cls:= .type "enumerate",dict:=none,data:= .fields vs,slots:= #[]}):∃o,h.get? e=some o/\(cS o->False):=⟨_,g,kQ (T:="enumerate") rfl af af⟩
theorem m9{it:Addr}{T:String}(a:T≠"tuple")(b:T≠"range"){P:Obj->Prop}(g:∃o,h.get? it=some o/\o.cls= .type T/\P o):∃o,h.get? it=some o/\(cS o->False):=g.imp λo z=>⟨z.1,kQ z.2.1 a b⟩
structure vx(S:aN)(q:V×Value)(e it:Addr)(c:List V)(ok:ai->Prop)(JI:Nat->Heap->Prop):Prop where
 ni:∀i h,JI i h->∃o,h.get? it=some o/\(cS o->False)
 f3:∀i h u,JI i h->(∀o,h.get? it=some o->u.get? it=some o)->JI i u
 draw:∀(A:Around)(s:Shared)(C:Lay)(J:ai),A.handled=none->St S C J s.heap->VR C s.heap q.1 q.2->ok J->
  ∃(b:Addr)(vs:Array Value)(a:Nat->Heap->Prop),Draws S.prog S.w A it [it,b] vs.size (λi v=>vs[i]? =some v) a/\e≠b/\aA C s.heap c vs.toList/\(∀i h,a i h->JI i h)/\∀i,JI i s.heap->a i s.heap
theorem B5{q:V×Value}{e it:Addr}{n:List V}{ok:ai->Prop}{JI:Nat->Heap->Prop}(w:e≠it)(D:vx S q e it n ok JI):
  hc S true ⟨[q],e,λb=>b=e\/b=it,fa 0 n,ok,λi h=>(∃old,IsEnum h e it i old)/\JI i h⟩ where
 next A t s C J i v hh P K B a:=by
  refine ak (vv n 0 i v K) λx R T=>?_;clear K;obtain rfl:=T;refine jA a.j λU g=>?_;refine jE U λold c=>?_;refine hI (D.draw A.in1 s C J hh a.st (a.ctx _<|.head _) B) λX vs aa F L bV l=>?_;refine ak (m7 bV R) λy M ab=>?_;refine d7<|wpAny_pyNext_enum_itemD F c (l.2 i g) (gT.mp M).1 w (λm=>(ba.mp m).elim w λm=>L<|a3.mp m) λah u tk ac N O ad aj p hz=>⟨_,rfl,?_⟩;obtain rfl:=aT<|M.symm.trans ac;have G:=m8 (W:=λb=>b=e\/b=it) a.st a.free (λb d=>d.elim (λq=>q▸ri c) λq=>q▸D.ni _ _ g) (λb o f e'=>p b o (λq=>f<|.inl q) (λq=>f<|.inr q) e') hz<|tk+1;cases t with
  |Tuple al k pos=>
   refine wpAny_letOwnedTupleGo_enum N λam ae r=>?_;have I:=m8 (s:={s with heap:=u,toks:=tk+1}) (W:=λb=>b=e\/b=it) G.1 a.free (λb d=>d.elim (λq=>q▸ri N) λq=>q▸D.ni _ _ (l.1 _ _ O)) (λb o f e'=>(r.2 b λq=>f<|.inl q).trans e') (bF r.1.symm)<|tk+1;refine⟨I.1,G.2.trans I.2,.tup _ _ _ _ a.st.kK ((r.2 _ ?_).trans ad)<|.cons _ _ _ _ (Y (eE ..)<|.int _ _)<|.one<|I.2.vr<|G.2.vr ab,⟨_,ae⟩,D.f3 _ _ _ (l.1 _ _ O) λo e'=>(r.2 it λq=>w q.symm).trans e'⟩
   exactλq=>eh _<|q▸bA c
  |_=>exact(b3<|P rfl)
 done A s C J hh B a:=by refine jA a.j λaf g=>?_;refine jE af λold c=>?_;refine hI (D.draw A.in1 s C J hh a.st (a.ctx _<|.head _) B) λX vs aa F L bV l=>?_;have ag:(fa 0 n).length=vs.size:=(vw _ _).trans bV.sz.symm;refine d7<|wpAny_pyNext_enum_endD F c (ag▸l.2 _ g) λu hs hz=>⟨rfl,?_⟩;exact m8 (W:=λb=>b=e\/b=it) a.st a.free (λb d=>d.elim (λq=>q▸ri c) λq=>q▸D.ni _ _ g) (λb o f e'=>hs b o (λq=>f<|.inr q) e') hz s.toks
 self A E Q s i j h:=j.1.elim λold c=>wpAny_pyIter_enum c h
 f3 i h u j p:=⟨j.1.imp λold c=>p e _ (.inl rfl) c,D.f3 _ _ _ j.2 λo=>p it o<|.inr rfl⟩
 live i h j b d:=d.elim (λq=>j.1.elim λold c=>⟨_,q▸c⟩) λq=>(D.ni _ _ j.2).imp λo z=>q▸z.1
theorem B6{c:Type}{M:Model}{A:Around}{Q:c->Shared->Prop}{E:Value->Shared->Prop}{s:Shared}{a:c}(h:∀b,Q b s):wpAny M A (pure a) Q E s:=aq<|h a
theorem B7(a:Addr)(items:Array Value)(n:Nat):
  Meets (Builtin.«enumerate.__new__» ⟨[.type "enumerate",.ref a],[]⟩) (λZ R s=>s.heap.get? a=some {cls:= .type "tuple",data:= .seq items n}/\
   R (.ok<|.ret<|.ref (s.heap.push {cls:= .type "tuple_iterator",data:= .fields #[.ref a,.int 0 0]}).objs.size)
    {s with heap:=(s.heap.push {cls:= .type "tuple_iterator",data:= .fields #[.ref a,.int 0 0]}).push {cls:= .type "enumerate",data:= .fields #[.none,.bool false,.ref s.heap.objs.size,rawInt 0,.none,.none]}}):=
 .of_wp λprog w A R s h=>by
  obtain⟨hp,g,d,tk,os⟩:=s;refine jA h λc h=>?_;have f:=sub_enumerate;have e:Heap.IsTuple (Shared.heap ⟨hp,g,d,tk,os⟩) a items:=⟨_,c,rfl,n,rfl⟩
  wp_walk using wpAny_loadPart' c
  refine wpAny_stack_any λst=>B6 λb=>?_;cases b
  .wp_walk using wpAny_loadPart' c,lG e
   exact⟨_,rfl,h⟩
  .wp_walk using wpAny_loadPart' c,lG e
   exact⟨_,rfl,h⟩
theorem B8{a:Addr}{items:Array Value}{n:Nat}{Q:Value->Shared->Prop}(d:s.heap.get? a=some {cls:= .type "tuple",data:= .seq items n})
  (h:∀u,IsEnum u (s.heap.objs.size+1) s.heap.objs.size 0 .none->u.IsTupleIter s.heap.objs.size a 0->u.objs.size=s.heap.objs.size+2->
   (∀b o,s.heap.get? b=some o->u.get? b=some o)->Q (.ref (s.heap.objs.size+1)) {s with heap:=u}):
  wpAny (model prog w) A (call (.type "enumerate") [.ref a]) Q E s:=by
 refine callType_new PySem.F.called_enumerate af (PySem.F.typeCall_enumerate_1 _) (PySem.F.newCall_enumerate_1 _) (λobj=>PySem.F.args_object_init_2 obj _) PySem.F.entry_enumerate_new
  (B7 a items n) ⟨d,?_⟩
 have hz:(s.heap.push {cls:= .type "tuple_iterator",data:= .fields #[.ref a,.int 0 0]}).objs.size=s.heap.objs.size+1:=eT ..;refine Y hz ?_
 have c:IsEnum ((s.heap.push {cls:= .type "tuple_iterator",data:= .fields #[.ref a,.int 0 0]}).push
   {cls:= .type "enumerate",data:= .fields #[.none,.bool false,.ref s.heap.objs.size,rawInt 0,.none,.none]}) (s.heap.objs.size+1) s.heap.objs.size 0 .none:=hz▸cy _ rfl
 exact⟨⟨_,c,rfl⟩,h _ c ⟨_,bZ _<|cy _ rfl,rfl,rfl⟩ (Y (eT ..)<|Y hz rfl) λb o x=>bZ _<|bZ _ x⟩
theorem vy{k:List V->(ai->Prop)->ai->Prop}{q:V×Value}{a:List V}{ok:ai->Prop}{JI:Nat->Heap->Prop}(st:St S C J G.heap)(x:Step μ s C G)(c:∀b o,G.heap.get? b=some o->u.get? b=some o)(hz:u.objs.size=G.heap.objs.size+2)(d:IsEnum u (G.heap.objs.size+1) G.heap.objs.size 0 .none)
  (D:vx S q (G.heap.objs.size+1) G.heap.objs.size a ok JI) (ctx:VR C G.heap q.1 q.2) (j:JI 0 u) (p:k (fa 0 a) ok J):wpAny (model S.prog S.w) A (pyIter<|.ref<|G.heap.objs.size+1) (Made S true μ s k) E {G with heap:=u}:=by
 have z:=ah (cp _ 2)<|bF hz.symm;have t:Step C G C {G with heap:=u}:= .keeps c z G.toks;have big:∀b,b=G.heap.objs.size+1\/b=G.heap.objs.size->G.heap.objs.size<=b:=λb q=>q.elim (λq=>q▸fk _) λq=>bF q.symm;exact wpAny_pyIter_enum d ⟨_,C,J,rfl,B5 (Nat.succ_ne_self _) D,⟨st.keeps c z,λq e=>a3.mp e▸t.vr ctx,⟨⟨_,d⟩,j⟩,λb q=>⟨λf=>cJ.mpr (big b q)<|st.lt f,ah st.size<|big b q⟩⟩,x.trans t,λb q=>ah x.grow<|big b q,p⟩
theorem B9{e:Expr}{E pos:Pos}{m:M}(F:cG Γ env)(L:d8 e=false)(N:("enumerate":Str)∈Γ.globals)(O:S.mg "enumerate"=none)(P:S.mb "enumerate"=some (.type "enumerate"))(h:ej S Γ env A e m):
  jR S Γ env A (.Call (.Name "enumerate" E) [e] [] pos) true (enumSrc m):=λμ s l J k I hm=>by
 refine ju<|lV F N O P I ?_;refine Y (show backTo pos (starEach [e] env)=[(false,eval e env)] by rw[lT L];rfl)<|jQ (.t _) rfl<|hQ rfl<|kD<|b4 h I hm λC v U x s₁ d t r hm=>lH ?_;rcases hm with hm|hm
 .exact hL r hm λl a vs n Q g va p=>B8 g λu f o hz b=>vy (JI:=λi h=>h.IsTupleIter s₁.heap.objs.size a i) (q:=(.tup l,.ref a)) d.st t b hz f ⟨λi h j=>m9 af af j,λi h u j b=>j.at b,λA G R K hh B w D=>by refine cq (lW w) λc y g' z=>?_;exact⟨a,c,_,B4 hh _ a (bk (bA g)) c,du (gn (bA g)),z,λi h j=>j.1,λi j=>⟨j,⟨_,g',rfl,y,rfl⟩⟩⟩⟩ (.tup l a vs n Q g va) o p
 .exact dU d.st r hm λi a l vs n V T W g va p=>call_enumerate_list ⟨_,g,rfl,n,rfl⟩ λu f o hz b=>vy (JI:=λi h=>h.IsListIter s₁.heap.objs.size a i) (q:=(.ref i,.ref a)) d.st t b hz f ⟨λi h j=>m9 af af j,λi h u j b=>j.at b,λA G R K hh B w D=>by refine cq (rg B w D) λc y g' z=>?_;exact⟨a,c,_,Draws.list hh _ a (bk (bA g)) c,du (gn (bA g)),z,λi h j=>j.1,λi j=>⟨j,⟨_,g',rfl,y,rfl⟩⟩⟩⟩ (.ref i a a T) o p
end
open AutoSeq1 (wpAny_loadPart')
noncomputable def ir:List V->List V->List V
 |a::l,b::r=> .tup [a,b]::ir l r
 |_,_=>[]
noncomputable def zipSrc(e f:M):cK:=λl d k=>e l d λa g=>f l g λb c=>gA a λx=>gA b λy=>x.length=y.length/\k (ir x y) (λh=>h[c.length]? =some .pair) (c++[.pair])
section
variable{S:aN}{Γ:bl}{env:Env}{A:Around}{μ r t:Lay}{u B C G:ai}{s g I:Shared}{l l':au}{h d:Heap}{E:Value->Shared->Prop}{prog:Program}{w:World}{z TI TO i1 i2 f i:Addr}{k:Nat}{xs j:Array Value}{x y p q:Value}
theorem Ca{Q:Option Value->Shared->Prop}(D:ZipApart z TI TO i1 i2 f i)(hz:IsZip s.heap z TI TO .none)(aj:IsPair s.heap TI (.ref i1) (.ref i2))(ak:IsPair s.heap TO p q)
  (r:s.heap.IsTupleIter i1 f k) (I:s.heap.IsTupleIter i2 i k) (al:s.heap.IsTuple f xs) (am:s.heap.IsTuple i j) (an:xs[k]? =some x) (ao:j[k]? =some y)
  (ap:∀d,IsZip d z TI TO (rawInt s.heap.objs.size)->IsPair d TO x y->d.IsTupleIter i1 f (k+1)->d.IsTupleIter i2 i (k+1)->IsPair d s.heap.objs.size x y->
   (∀c o,c≠z->c≠TO->c≠i1->c≠i2->s.heap.get? c=some o->d.get? c=some o)->Q (some (.ref s.heap.objs.size)) {s with heap:=d}):
  wpAny (model prog w) A (pyNext<|.ref z) Q E s:=by
 have T:s.TypeIs (.ref z) "zip":=⟨_,hz,rfl⟩
 have body:wpAny (model prog w) A.in1 (Builtin.«zip.__next__» ⟨[.ref z],[]⟩) (λa7 g=>∃v,a7= .done (.ret v)/\v= .ref s.heap.objs.size/\Q (some<|.ref s.heap.objs.size) g) (λZ Z=>False) s:=by
  refine ae (m:=field (.ref z) 2)<|eU hz rfl (x:= .bool false) rfl ?_;refine ae (m:=field (.ref z) 3)<|eU hz rfl (x:= .ref TI) rfl ?_;refine ae<|gv aj rfl ?_;refine ae (m:=Builtin.SmallTypes.ownedTupleIsFree<|.ref z) ?_;refine ae<|eU hz rfl (x:= .none) rfl<|aq ?_;refine e5 ?_;refine ae<|eU hz rfl (x:= .ref TO) rfl ?_;refine ae<|fz hz (by simp) λU J s₁=>?_
  replace J:IsZip U z TI TO .ellipsis:=J
  have K:∀c o,c≠z->s.heap.get? c=some o->U.get? c=some o:=λc o n e=>(s₁.2 c n).trans e;refine ae ?_;simp only[List.zipIdx_cons,List.zipIdx_nil,List.forIn_cons,List.forIn_nil];refine ae<|ae<|wpAny_onRaise ?_;refine ae (m:=Builtin.SmallTypes.nextOf<|.ref i1)<|rh (r.at λo e=>K i1 o D.i1z e) (al.at λo e=>K f o D.l1z e) an λV ar L=>aq ?_;have W:∀c o,c≠z->c≠i1->s.heap.get? c=some o->V.get? c=some o:=λc o n M e=>(L.2 c M).trans<|K c o n e;have X:IsPair V TO p q:=W TO _ D.TOz D.TOi1 ak;refine ae<|gv X rfl ?_;refine ae<|wpAny_updateSeq_pair X λaa N t=>?_
  replace N:IsPair aa TO x q:=N
  refine ae<|wpAny_letGo<|aq ?_;have O:∀c o,c≠z->c≠i1->c≠TO->s.heap.get? c=some o->aa.get? c=some o:=λc o n M as e=>(t.2 c as).trans<|W c o n M e;refine ae<|ae<|wpAny_onRaise ?_;refine ae (m:=Builtin.SmallTypes.nextOf<|.ref i2)<|rh (I.at λo e=>O i2 o D.i2z D.i12.symm D.TOi2.symm e) (am.at λo e=>O i o D.l2z D.l2i1 D.l2TO e) ao λau av h=>aq ?_;have ab:IsPair au TO x q:=(h.2 TO D.TOi2).trans N;refine ae<|gv ab rfl ?_;refine ae<|wpAny_updateSeq_pair ab λa u l=>?_
  replace u:IsPair a TO x y:=u
  refine ae<|wpAny_letGo<|aq<|aq ?_;refine ae<|gv u rfl ?_;refine ae<|wpAny_newTuple ?_;have ac:a.objs.size=s.heap.objs.size:=l.1.trans<|h.1.trans<|t.1.trans<|L.1.trans s₁.1;have ad:IsZip a z TI TO .ellipsis:=(l.2 z D.TOz.symm).trans<|(h.2 z D.i2z.symm).trans<|(t.2 z D.TOz.symm).trans<|(L.2 z D.i1z.symm).trans J;have aw:∀c o,c≠z->c≠TO->c≠i1->c≠i2->s.heap.get? c=some o->a.get? c=some o:=λc o b B P R e=>(l.2 c B).trans<|(h.2 c R).trans<|O c o b P B e;have ax:a.IsTupleIter i1 f (k+1):=ar.at λo e=>(l.2 i1 D.TOi1.symm).trans<|(h.2 i1 D.i12).trans<|(t.2 i1 D.TOi1.symm).trans e;have ay:a.IsTupleIter i2 i (k+1):=av.at λo e=>(l.2 i2 D.TOi2.symm).trans e;have af:z<a.objs.size:=bA ad;refine ae (m:=Builtin.SmallTypes.ownedTupleHandOut (.ref z)<|.ref a.objs.size) ?_;have az:IsZip (a.push {cls:= .type "tuple",data:= .seq #[x,y]}) z TI TO .ellipsis:=bZ _ ad;refine ae<|fz az (by simp) λaA S ag=>?_
  replace S:IsZip aA z TI TO (rawInt a.objs.size):=S
  refine fz S (by simp) λC G ah=>?_
  replace G:IsZip C z TI TO (rawInt a.objs.size):=G
  have up:∀c o,c≠z->a.get? c=some o->C.get? c=some o:=λc o b e=>(ah.2 c b).trans<|(ag.2 c b).trans<|bZ _ e;have ai:IsPair C a.objs.size x y:=(ah.2 _<|du af).trans<|(ag.2 _<|du af).trans<|cy _ rfl;rw[ac] at G ai;refine aq ⟨_,rfl,?_,?_⟩
  .show Value.ref a.objs.size=_;exact Y ac rfl
  .exact ap C G (up _ _ D.TOz u) (ax.at λo e=>up _ o D.i1z e) (ay.at λo e=>up _ o D.i2z e) ai λc o b B P R e=>up c o b<|aw c o b B P R e
 exact ae (jB (gk (name:=Str.ofString "__next__") T PySem.F.slot_zip_next
  (da PySem.F.slot_zip_next T PySem.F.entry_zip_next (bU body (λa7 g ⟨v,r,I,aB⟩=>⟨v,r,by clear r;subst I;exact aq aB⟩) λZ Z e=>e.elim) (PySem.F.args_zip_next_1 _))))
theorem Cb{Q:Option Value->Shared->Prop}(hh:A.handled=none)(D:ZipApart z TI TO i1 i2 f i)(hz:IsZip s.heap z TI TO .none)(C:IsPair s.heap TI (.ref i1) (.ref i2))
  (G:s.heap.IsTupleIter i1 f k) (I:s.heap.IsTuple f xs) (J:xs[k]? =none)
  (p:∀d,(∀c o,c≠z->c≠i1->s.heap.get? c=some o->d.get? c=some o)->Q none {s with heap:=d}):
  wpAny (model prog w) A (pyNext<|.ref z) Q E s:=by
 have l:s.TypeIs (.ref z) "zip":=⟨_,hz,rfl⟩
 have body:wpAny (model prog w) A.in1 (Builtin.«zip.__next__» ⟨[.ref z],[]⟩) (λZ Z=>False) (λe g=>(∃o,(∃a,e= .ref a/\g.heap.get? a=some o)/\o.cls= .type "StopIteration")/\Q none g) s:=by
  refine ae (m:=field (.ref z) 2)<|eU hz rfl (x:= .bool false) rfl ?_;refine ae (m:=field (.ref z) 3)<|eU hz rfl (x:= .ref TI) rfl ?_;refine ae<|gv C rfl ?_;refine ae (m:=Builtin.SmallTypes.ownedTupleIsFree<|.ref z) ?_;refine ae<|eU hz rfl (x:= .none) rfl<|aq ?_;refine e5 ?_;refine ae<|eU hz rfl (x:= .ref TO) rfl ?_;refine ae<|fz hz (by simp) λK h s₁=>?_
  replace h:IsZip K z TI TO .ellipsis:=h
  refine ae ?_;refine ae<|ae<|wpAny_onRaise ?_;refine ae (m:=Builtin.SmallTypes.nextOf<|.ref i1)<|vu hh (G.at λo e=>(s₁.2 i1 D.i1z).trans e) (I.at λo e=>(s₁.2 f D.l1z).trans e) J λL e q j=>?_;refine ak j λM n r=>?_;have t:IsZip L z TI TO .ellipsis:=q _ _ D.i1z.symm h;have N:e≠z:=λx=>by clear D hz p l s₁ h;subst x;rw[t] at n;obtain rfl:=aT n;exact absurd (Value.type.inj r) af
  refine fz t (by simp) λO Z u=>⟨⟨M,⟨e,rfl,(u.2 e N).trans n⟩,r⟩,p O λc o v P x=>(u.2 c v).trans<|q _ _ P<|(s₁.2 c v).trans x⟩
 refine ae (jB (gk (name:=Str.ofString "__next__") l PySem.F.slot_zip_next
  (da PySem.F.slot_zip_next l PySem.F.entry_zip_next (bU body (λZ Z e=>e.elim) λe g j=>?_) (PySem.F.args_zip_next_1 _))))
 refine jA j λy R=>?_;refine ak y λo B S=>?_;refine ak B λa U V=>?_;clear j y B;obtain rfl:=U;refine ae<|kF (T:="StopIteration") (b:=true) ⟨o,V,S⟩ isSubtype_stop ?_;exact aq R
end
open AutoSeq1 (wpAny_loadPart')
section
variable{S:aN}{Γ:bl}{env:Env}{A:Around}{μ C P:Lay}{K U O X:ai}{s aa ab:Shared}{l l':au}{h m:Heap}{E:Value->Shared->Prop}{prog:Program}{w:World}{z TI TO i1 i2 G J:Addr}{k:Nat}{xs L:Array Value}{x y p q:Value}
noncomputable abbrev rj(h:Heap)(a:Addr):Heap:=h.push {cls:= .type "tuple_iterator",data:= .fields #[.ref a,.int 0 0]}
noncomputable abbrev rm(h:Heap)(a b:Addr):Heap:=(rj h a).push {cls:= .type "tuple_iterator",data:= .fields #[.ref b,.int 0 0]}
noncomputable abbrev nc(h:Heap)(a b:Addr):Heap:=(rm h a b).push {cls:= .type "tuple",data:= .seq #[.ref h.objs.size,.ref (rj h a).objs.size]}
noncomputable abbrev ro(h:Heap)(a b:Addr):Heap:=(nc h a b).push {cls:= .type "tuple",data:= .seq #[.none,.none]}
noncomputable abbrev vz(h:Heap)(a b:Addr):Heap:=(ro h a b).push {cls:= .type "zip",data:= .fields #[.none,.bool false,.bool false,.ref (rm h a b).objs.size,.ref (nc h a b).objs.size]}
theorem Cc(a b:Addr)(xs L:Array Value):
  Meets (Builtin.«zip.__new__» ⟨[.type "zip",.ref a,.ref b],[]⟩) (λZ R s=>s.heap.IsTuple a xs/\s.heap.IsTuple b L/\
   R (.ok (.ret (.ref (ro s.heap a b).objs.size))) {s with heap:=vz s.heap a b}):=
 .of_wp λprog w A R s h=>by
  obtain⟨hp,g,d,tk,os⟩:=s;refine b1 h λc e h=>?_;have j:=sub_zip;have f:Heap.IsTuple (Shared.heap ⟨hp,g,d,tk,os⟩) a xs:=c;have i:Heap.IsTuple (Shared.heap ⟨hp.push {cls:= .type "tuple_iterator",data:= .fields #[.ref a,.int 0 0]},g,d,tk,os⟩) b L:=Heap.IsTuple.push e _
  wp_walk using lG f,lG i
  exact⟨_,rfl,h⟩
structure Cd(N:Nat)(G J:Addr)(m:Heap):Prop where
 z:IsZip m (N+4) (N+2) (N+3) .none
 TI:IsPair m (N+2) (.ref N) (.ref<|N+1)
 TO:IsPair m (N+3) .none .none
 i1:m.IsTupleIter N G 0
 i2:m.IsTupleIter (N+1) J 0
 size:m.objs.size=N+5
theorem nf{h:Heap}{o:Obj}{n:Nat}(e:h.objs.size=n)(hf:o.isFreed=false):(h.push o).get? n=some o/\(h.push o).objs.size=n+1:=e▸⟨cy _ hf,eT _ _⟩
theorem Ce{a b:Addr}{Q:Value->Shared->Prop}(p:s.heap.IsTuple a xs)(q:s.heap.IsTuple b L)(h:∀m,Cd s.heap.objs.size a b m->(∀c o,s.heap.get? c=some o->m.get? c=some o)->Q (.ref (s.heap.objs.size+4)) {s with heap:=m}):
  wpAny (model prog w) A (call (.type "zip") [.ref a,.ref b]) Q E s:=by
 refine callType_new PySem.F.called_zip af (PySem.F.typeCall_zip_2 _ _) (PySem.F.newCall_zip_2 _ _) (λobj=>PySem.F.args_object_init_3 obj _ _) PySem.F.entry_zip_new
  (Cc a b xs L) ⟨p,q,?_⟩
 have up:∀{g:Heap}{o o':Obj}{n:Nat},g.get? n=some o'->(g.push o).get? n=some o':=λe=>bZ _ e;have d:=nf (h:=s.heap) (o:={cls:= .type "tuple_iterator",data:= .fields #[.ref a,.int 0 0]}) rfl rfl;have f:=nf (o:={cls:= .type "tuple_iterator",data:= .fields #[.ref b,.int 0 0]}) d.2 rfl;have i:=nf (o:={cls:= .type "tuple",data:= .seq #[.ref s.heap.objs.size,.ref (rj s.heap a).objs.size]}) f.2 rfl;have j:=nf (o:={cls:= .type "tuple",data:= .seq #[.none,.none]}) i.2 rfl;have k:=nf (o:={cls:= .type "zip",data:= .fields #[.none,.bool false,.bool false,.ref (rm s.heap a b).objs.size,.ref (nc s.heap a b).objs.size]}) j.2 rfl;refine Y (show(ro s.heap a b).objs.size=s.heap.objs.size+4 from j.2) ?_;have r:IsPair (nc s.heap a b) (s.heap.objs.size+2) (.ref s.heap.objs.size) (.ref<|s.heap.objs.size+1):=i.1.trans<|ar (λn=>some {cls:= .type "tuple",data:= .seq #[.ref s.heap.objs.size,.ref n]:Obj}) d.2;have l:IsZip (vz s.heap a b) (s.heap.objs.size+4) (s.heap.objs.size+2) (s.heap.objs.size+3) .none:=k.1.trans<|(ar (λn=>some {cls:= .type "zip",data:= .fields #[.none,.bool false,.bool false,.ref n,.ref (nc s.heap a b).objs.size]:Obj}) f.2).trans<|ar (λn=>some {cls:= .type "zip",data:= .fields #[.none,.bool false,.bool false,.ref<|s.heap.objs.size+2,.ref n]:Obj}) i.2;exact⟨⟨_,l,rfl⟩,h _ ⟨l,up<|up r,up j.1,⟨_,up<|up<|up<|up d.1,rfl,rfl⟩,⟨_,up<|up<|up f.1,rfl,rfl⟩,k.2⟩ λc o x=>up<|up<|up<|up<|up x⟩
theorem vA:∀(a b:List V)(i:Nat)(v:V),(ir a b)[i]? =some v->∃u w,a[i]? =some u/\b[i]? =some w/\v= .tup [u,w]
 |[],_,i,v,h=>(a4 h)
 |_::_,[],i,v,h=>(a4 h)
 |u::a,w::b,0,v,h=>⟨u,w,rfl,rfl,(aT h).symm⟩
 |u::a,w::b,i+1,v,h=>vA a b i v h
theorem vB:∀(a b:List V),a.length=b.length->(ir a b).length=a.length
 |[],_,_=>rfl
 |_::_,[],h=>nomatch h
 |u::a,w::b,h=>ar Nat.succ<|vB a b<|Nat.succ.inj h
theorem rq{e:Addr}{T:String}{d:Data}(a:T≠"tuple")(b:T≠"range")(g:h.get? e=some {cls:= .type T,dict:=none,data:=d,slots:= #[]}):∃o,h.get? e=some o/\(cS o->False):=⟨_,g,kQ (T:=T) rfl a b⟩
theorem St.Cf{W:Addr->Prop}{j:Nat}{tk:Nat}(st:St S C K s.heap)(h:C[j]? =some (TO,TO))(v:K[j]? =some .pair)(k:∀b o,b≠TO->¬W b->s.heap.get? b=some o->m.get? b=some o)(l:∀b,W b->¬foot C b/\S.B.objs.size<=b)(hi:∀b o,W b->s.heap.get? b=some o->cS o->m.get? b=some o)(hz:s.heap.objs.size<=m.objs.size)
  (r:IsPair m TO x y):St S C K m/\bQ W C s C {s with heap:=m,toks:=tk}:=by
 have f:=(jH h).1;have p:∀b o,s.heap.get? b=some o->¬foot C b->¬W b->m.get? b=some o:=λb o e a w=>k b o (λq=>a<|q▸f) w e;have im:∀b o,s.heap.get? b=some o->¬foot C b->cS o->m.get? b=some o:=λb o e a i=>(Classical.em<|W b).elim (λq=>hi b o q e i)<|p b o e a;refine⟨⟨st.len,λb o e=>p b o (st.base b o e) (st.qk<|bA e) λq=>hH.mpr (bA e) (l b q).2,ah st.size hz,st.fresh,st.sep,λi o c d t g=>?_⟩,λZ Z e=>e,λZ f=> .inl f,p,im,hz,rfl,rfl⟩;by_cases u:i=j
 .subst u;obtain rfl:=aT<|v.symm.trans t;refine jA (Prod.mk.inj<|aT<|h.symm.trans g) λz A=>?_;obtain rfl:=z;clear g;obtain rfl:=A;exact .pair x y r rfl
 .have n:=st.others h g (cO u);have ff:=jH g;exact d6.move ⟨λZ Z e=>e,λb o e a i=>im b o e a i,λZ Z Z f Z=>f⟩ (λo' e=>k c o' n.1 (λq=>(l c q).1 ff.1) e) (λo' e=>k d o' n.2.2.1 (λq=>(l d q).1 ff.2) e)<|st.obj i o c d t g
inductive ZW(z i1 i2 TI:Addr):Addr->Prop
 |z:ZW z i1 i2 TI z
 |i1:ZW z i1 i2 TI i1
 |i2:ZW z i1 i2 TI i2
 |TI:ZW z i1 i2 TI TI
structure ZJ(z TI TO i1 i2 G J:Addr)(f:Value)(i:Nat)(h:Heap):Prop where
 z:IsZip h z TI TO f
 TI:IsPair h TI (.ref i1) (.ref i2)
 i1:h.IsTupleIter i1 G i
 i2:h.IsTupleIter i2 J i
theorem ZJ.live{f:Value}{i:Nat}(j:ZJ z TI TO i1 i2 G J f i h){b:Addr}(q:ZW z i1 i2 TI b):∃o,h.get? b=some o/\(cS o->b=TI):=by
 cases q with
 |z=>exact(rq af af j.z).imp λo z=>⟨z.1,λi=>(z.2 i).elim⟩
 |i1=>exact(m9 af af j.i1).imp λo z=>⟨z.1,λi=>(z.2 i).elim⟩
 |i2=>exact(m9 af af j.i2).imp λo z=>⟨z.1,λi=>(z.2 i).elim⟩
 |TI=>exact⟨_,j.TI,λZ=>rfl⟩
theorem ZJ.im{f:Value}{i:Nat}(j:ZJ z TI TO i1 i2 G J f i h)(e:m.get? TI=h.get? TI){b:Addr}{o:Obj}(q:ZW z i1 i2 TI b)(g:h.get? b=some o)(i:cS o):m.get? b=some o:=by refine ak (j.live q) λo' g' k=>?_;obtain rfl:=aT<|g.symm.trans g';clear j q;obtain rfl:=k i;exact e.trans g
theorem Cg{j:Nat}{xl yl:List V}(D:ZipApart z TI TO i1 i2 G J)(X:xl.length=yl.length):
  hc S true ⟨[(.tup xl,.ref G),(.tup yl,.ref J),(.ref j,.ref TO)],z,ZW z i1 i2 TI,ir xl yl,λO=>O[j]? =some .pair,ZJ z TI TO i1 i2 G J .none⟩ where
 next A t s C K i v hh aa L p a:=by
  refine b6 (vA xl yl i v L) λu ay ab ac ad=>?_;clear L;obtain rfl:=ad;have c:=a.j;refine cq (lW<|a.ctx _<|.head _) λM r w x=>?_;refine cq (lW<|a.ctx _<|.tail _<|.head _) λaz ae g2 ag=>?_;refine ak (m7 x ab) λaA ah ai=>?_;refine ak (m7 ag ac) λaB aj al=>?_
  obtain⟨am,p1,p2,an⟩:C[j]? =some (TO,TO)/\∃a b,IsPair s.heap TO a b:=by have ao:=a.ctx _<|.tail _<|.tail _<|.head _;refine jE ao.nY λb e=>?_;have o:=a.st.obj j _ TO b p e;cases o with|pair p1 p2 g e'=>exact⟨e'▸e,p1,p2,g⟩
  cases t with
  |Tuple aC k pos=>refine d7<|Ca D c.z c.TI an c.i1 c.i2 ⟨_,w,rfl,r,rfl⟩ ⟨_,g2,rfl,ae,rfl⟩ ah aj λm y ap N P aq f B=>⟨_,rfl,?_⟩;have R:m.get? TI=s.heap.get? TI:=(f TI _ D.TIz D.TITO D.TIi1 D.TIi2 c.TI).trans c.TI.symm;have d:=St.Cf (tk:=s.toks) (W:=ZW z i1 i2 TI) a.st am p (λb o n F e=>f b o (λq=>F<|q▸.z) n (λq=>F<|q▸.i1) (λq=>F<|q▸.i2) e) a.free (λb o q g i=>c.im R q g i) B ap;have ar:ZJ z TI TO i1 i2 G J (rawInt s.heap.objs.size) (i+1) m:=⟨y,R.trans c.TI,N,P⟩;refine wpAny_letOwnedTupleGo_zip y λas au T=>?_;have ne:∀{b o},b≠z->m.get? b=some o->as.get? b=some o:=λn e=>(T.2 _ n).trans e;have U:=m8 (s:={s with heap:=m}) (W:=λb=>b=z) d.1 (λb q=>a.free b<|q▸.z) (λb q=>q▸rq af af y) (λb o n e=>ne n e) (bF T.1.symm) s.toks;have av:s.heap.objs.size≠z:=du<|bA c.z;have I:=d.2.trans<|U.2.mono (P':=ZW z i1 i2 TI) λb q=>q▸.z;exact⟨U.1,I,.tup _ _ _ _ a.st.kK (ne av aq)<|.cons _ _ _ _ (I.vr ai)<|.one<|I.vr al,⟨au,ne D.TIz ar.TI,N.at λo e=>ne D.i1z e,P.at λo e=>ne D.i2z e⟩⟩
  |_=>exact(b3<|aa rfl)
 done A s C K hh p a:=by have c:=a.j;refine cq (lW<|a.ctx _<|.head _) λM r w x=>?_;have aw:(ir xl yl).length=M.size:=(vB _ _ X).trans x.sz.symm;refine d7<|Cb hh D c.z c.TI c.i1 ⟨_,w,rfl,r,rfl⟩ (Y aw<|kz<|aM _) λm f B=>⟨rfl,?_⟩;have d:=m8 (W:=λb=>b=z\/b=i1) a.st (λb q=>a.free b (q.elim (·▸.z) (·▸.i1))) (λb q=>q.elim (λq=>q▸rq af af c.z) λq=>q▸m9 af af c.i1) (λb o n e=>f b o (λq=>n<|.inl q) (λq=>n<|.inr q) e) B s.toks;exact⟨d.1,d.2.mono λb q=>q.elim (·▸.z) (·▸.i1)⟩
 self A E Q s i j h:=wpAny_pyIter_zip j.z h
 f3 i h m j l:=⟨l z _ .z j.z,l TI _ .TI j.TI,j.i1.at λo e=>l i1 o .i1 e,j.i2.at λo e=>l i2 o .i2 e⟩
 live i h j b ax:=(j.live ax).imp λo z=>z.1
theorem iu{N i j:Nat}(h:i≠j):N+i≠N+j:=λe=>h<|Nat.add_left_cancel e
theorem jV{N c:Nat}(h:c<N)(i:Nat):c≠N+i:=bk<|bt h<|cp _ _
theorem Ci{N c d:Nat}(a:c<N)(b:d<N):ZipApart (N+4) (N+2) (N+3) N (N+1) c d:=⟨iu af,iu af,iu (i:=0) af,iu af,iu af,iu (j:=0) af,iu af,iu (j:=0) af,iu af,iu (i:=0) af,jV a 4,jV a 3,jV a 0,jV a 1,jV b 4,jV b 3,jV b 0,jV b 1⟩
theorem ZW.big{N:Nat}{b:Addr}(q:ZW (N+4) N (N+1) (N+2) b):N<=b/\b≠N+3:=by
 cases q with
 |z=>exact⟨cp _ 4,du<|eg _⟩
 |i1=>exact⟨aM _,bk<|kx af⟩
 |i2=>exact⟨cp _ 1,bk<|Nat.add_lt_add_left af _⟩
 |TI=>exact⟨cp _ 2,bk<|Nat.add_lt_add_left af _⟩
theorem Cj{e f:Expr}{L pos:Pos}{B D:M}(F:cG Γ env)(N:d8 e=false)(hf:d8 f=false)(O:("zip":Str)∈Γ.globals)(P:S.mg "zip"=none)(Q:S.mb "zip"=some (.type "zip"))(h:ej S Γ env A e B)(R:ej S Γ env A f D):
  jR S Γ env A (.Call (.Name "zip" L) [e,f] [] pos) true (zipSrc B D):=λμ s l K k I hm=>by
 refine ju<|lV F O P Q I ?_;refine Y (show backTo pos (starEach [e,f] env)=[(false,eval e env),(false,eval f env)] by rw[lT N,lT hf];rfl)<|jQ (.t _) rfl<|hQ rfl<|kD<|b4 h I hm λC v ai x s₁ T t r hm=>kD<|b4 R T hm λi aj U y a g n V hm=>lH ?_;refine hL (n.vr r) hm λxl W X E aa p ab hm=>hL V hm λyl ac ad G ae g2 af hm=>?_;refine Ce ⟨_,p,rfl,E,rfl⟩ ⟨_,g2,rfl,G,rfl⟩ λm c u=>wpAny_pyIter_zip c.z ?_;have hz:a.heap.objs.size<=m.objs.size:=c.size▸cp _ 5;have J:¬foot i (a.heap.objs.size+3):=λf=>cJ.mpr (cp _ 3)<|g.st.lt f;have bs:=ah g.st.size<|cp a.heap.objs.size 3;have lI:∀o,a.heap.get? (a.heap.objs.size+3)=some o->False:=λo e=>cJ.mpr (cp _ 3)<|bA e;have ag:=(g.st.new u hz J J bs bs (λo e Z=>lI o<|e.elim id id)<|.pair .none .none c.TO rfl).1;have w:Step i a (i++[(a.heap.objs.size+3,a.heap.objs.size+3)]) {a with heap:=m}:=⟨λZ Z=>fG,λb f=>(g4 f).imp id λq=>q.elim (λq=>q▸cp _ 3) λq=>q▸cp _ 3,λb o e Z Z=>u b o e,λb o e Z Z=>u b o e,hz,rfl,rfl⟩;refine⟨_,_,_,rfl,Cg (j:=U.length) (xl:=xl) (yl:=yl) (Ci (bA p)<|bA g2) hm.1,⟨ag,?_,⟨c.z,c.TI,c.i1,c.i2⟩,λb q=>⟨λf=>(g4 f).elim (λf=>cJ.mpr q.big.1<|g.st.lt f) λe=>q.big.2<|e.elim id id,ah g.st.size q.big.1⟩⟩,(t.trans n).trans w,λb q=>ah (t.trans n).grow q.big.1,hm.2⟩
 .intro q d;cases d with
  |head=>exact w.vr<|.tup xl W X E aa p ab
  |tail _ d=>cases d with
   |head=>exact w.vr<|.tup yl ac ad G ae g2 af
   |tail _ d=>cases d with
    |head=>exact .ref _ _ _<|g.st.len▸fq _ _
    |tail _ d=>cases d
end
structure rt(S:aN)(f:Addr)(D:FuncData)(Γ:bl)(a rest:List Str)(body:List Stmt):Prop where
 obj:∃o,S.B.get? f=some o/\o.data= .func D
 code:S.B.CodeRec D.code D.qualname
 Ck:D.body= .stmts body
 d9:D.closure=[]
 co:D.scope.isCoroutine=false
 gen:D.scope.isGenerator=false
 kind:D.scope.kind= .function
 bind:∀vals:List Value,vals.length=a.length->bindArgs D ⟨vals,[]⟩=pure (a.zip vals)
 env:∀L,cG Γ<|callEnvC D L f
 names:Γ.names=a++rest
noncomputable def dw(args:List V)(k:Nat):au:=args.map some++List.replicate k none
noncomputable def eX(fl:Fl):V:=match fl with| .next=> .none| .ret v=>v
section
variable{S:aN}{Γ:bl}{A:Around}{a:Lay}{d:ai}{s:Shared}
theorem rv(B:List (Str×Value)->(Str->Option Value)->Str->Option Value)(c:∀m,B [] m=m){y:Str}(h:∀k v r m,∃b,B ((k,v)::r) m=B r b/\(y≠k->b y=m y)/\(y=k->b y=some v)):
  ∀(a:List Str)(xs:List Value)(m:Str->Option Value),(y∉a->B (a.zip xs) m y=m y)/\∀(i:Nat)(x:Value),a.Nodup->a[i]? =some y->xs[i]? =some x->B (a.zip xs) m y=some x
 |[],xs,m=>⟨λZ=>congrFun (c m) y,λi x Z e=>(a4 e)⟩
 |p::a,[],m=>⟨λZ=>congrFun (c m) y,λi x Z Z e=>(a4 e)⟩
 |p::a,v::xs,m=>by
  refine bE (h p v (a.zip xs) m) λb e f n=>?_;have d:=rv B c h a xs b;refine Y List.zip_cons_cons<|Y e ⟨λq=>(d.1 λz=>q<|.tail _ z).trans<|f λz=>q<|z▸.head _,λi x nd g j=>?_⟩;have l:=gX.mp nd;cases i with
  |zero=>clear h f;obtain rfl:=aT g;obtain rfl:=aT j;exact(d.1 l.1).trans<|n rfl
  |succ i=>exact d.2 i x l.2 g j
theorem Cm{kindOf:Str->Option NameKind}{y:Str}(b:kindOf y=some .local)(k:Str)(v:Value)(r:List (Str×Value))(m:Str->Option Value):∃a,bindL kindOf ((k,v)::r) m=bindL kindOf r a/\(y≠k->a y=m y)/\(y=k->a y=some v):=by
 refine⟨_,rfl,λn=>?_,λe=>?_⟩
 .split
  .exact ay n
  .rfl
 .rw[az<|e▸b];exact az e
theorem Cn{kindOf:Str->Option NameKind}{y:Str}(b:kindOf y=some .cell)(k:Str)(v:Value)(r:List (Str×Value))(m:Str->Option Value):∃a,bindC kindOf ((k,v)::r) m=bindC kindOf r a/\(y≠k->a y=m y)/\(y=k->a y=some v):=by
 refine⟨_,rfl,λn=>?_,λe=>?_⟩
 .split
  .rfl
  .exact ay n
 .rw[ay λq=>nomatch (e▸b).symm.trans q];exact az e
theorem Co{args:List V}{k i:Nat}{v:V}(h:(dw args k)[i]? =some (some v)):args[i]? =some v:=by
 unfold dw at h;by_cases q:i<(args.map some).length
 .rw[fP q,b9] at h;refine ak (dY.mp h) λw a h=>?_;exact a.trans h
 .rw[h5<|eS q,List.getElem?_replicate] at h;split at h<;>cases h
theorem vC{f:Addr}{D:FuncData}{h rest:List Str}{body:List Stmt}{n:Nat}(X:rt S f D Γ h rest body)(aa:m1 A (n+1)){m:aE}
  (j:∀L,ip S Γ (callEnvC D L f) (A.deeper<|callEnvC D L f) body m) {vs:List V} {xs:List Value} {P:V->ai->Prop} {R:Result->Shared->Prop} (st:St S a d s.heap) (vr:aA a s.heap vs xs) (C:vs.length=h.length)
  (hm:m (dw vs rest.length) d λfl Z u=>P (eX fl) u) (M:∀x N,Rs S a s P x N->R (.ok<|.ret x) N):codeAny (model S.prog S.w) A (.call (.ref f) ⟨xs,[]⟩) R s:=by
 refine ak X.obj λo ab hd=>?_;have F:=X.env s.heap.objs.size;have ac:xs.length=h.length:=vr.length.trans C;have nd:h.Nodup:=(List.nodup_append.mp<|X.names▸F.nd).1;have ad:∀n∈h,n∈Γ.names:=λn hn=>X.names▸dJ _ hn
 have at_:∀{i:Nat}{n:Str}{v:V},Γ.names[i]? =some n->(dw vs rest.length)[i]? =some (some v)->h[i]? =some n/\∃x,xs[i]? =some x/\VR a s.heap v x:=λ{i n v} e q=>by have z:=Co q;have lt:i<h.length:=C▸(cN.mp z).1;rw[X.names,fP lt] at e;exact⟨e,vr.get z⟩
 refine codeAny_call_cells (binds:=h.zip xs) (bt (bt (eg _)<|bz (Nat.le_add_left 1<|2*n+1) _) aa.depth) (st.base _ _ ab) hd (S.T.nolimit.keeps st.base) (X.code.keeps st.base) X.Ck (X.bind xs ac) X.d9 (λy ae=>?_) (λs₁ t=>?_) X.co X.gen X.kind
 .exact(F.kinds y.1<|ad _ (List.of_mem_zip ae).1).imp id λq=>⟨q.1,Option.isSome_iff_exists.mpr q.2⟩
 .refine cj t.toInCall.same λB tk af=>?_;obtain rfl:=af;have keep:=t.toInCall.keep;have O:=t.toInCall.ns;have Q:s.heap.objs.size<=B.objs.size:=c2 O.lt;have E:Step a s a {s with heap:=B,toks:=tk}:= .keeps keep Q tk
  have big:∀b,Fa Γ (callEnvC D s.heap.objs.size f) b->s.heap.objs.size<=b:=λb j=>by
   cases j with
   |loc=>exact aM _
   |cell nm c _ _ q=>exact c2<|t.above nm b<|mem_lookup q
  have fr:FR S Γ (callEnvC D s.heap.objs.size f) a B (dw vs rest.length):=by
   refine⟨?_,λb j=>⟨λq=>cJ.mpr (big b j)<|st.lt q,ah st.size<|big b j⟩,⟨_,O,λi nm e k v q=>?_⟩,λi nm c e k q=>⟨_,t.cell nm c q,λv ag=>?_⟩⟩
   .unfold dw;exact Y List.length_append<|Y (List.length_map ..)<|Y List.length_replicate<|Y C<|Y X.names<|Y List.length_append rfl
   .refine jA (at_ e q) λG aj=>?_;refine ak aj λx I J=>?_;exact⟨x,(rv (bindL _) (λZ=>rfl) (Cm k) h xs _).2 i x nd G I,E.vr J⟩
   .refine jA (at_ e ag) λG al=>?_;refine ak al λx I J=>?_;exact⟨x,(rv (bindC _) (λZ=>rfl) (Cn k) h xs _).2 i x nd G I,E.vr J⟩
  refine bU (j s.heap.objs.size a {s with heap:=B,toks:=tk} _ d _ ⟨st.keeps keep Q,fr⟩ hm) (λg am z=>?_) λZ Z x=>x.elim;cases z with|mk K fl l u U an q p=>
  have W:Step a s K am:=((Step.o E).trans<|an.mono (P':=λb=>False\/gz Γ (callEnvC D s.heap.objs.size f) b) λZ=> .inr).drop λb j=>big b<|j.fU F;cases q with
  |next=>exact M _ _ ⟨K,_,u,U.st,W,.none,p⟩
  |ret v x r=>exact M _ _ ⟨K,_,u,U.st,W,r,p⟩
end
noncomputable def rx(l:List V)(k:List V->Prop):Prop:=(∃kk,∀v∈l,bK kk v)/\l.length<=64/\∀d:List V,d.Nodup->(∀v,v∈d↔v∈l)->k d
noncomputable def hk(a:ai)(v:V)(P:V->ai->Prop):Prop:=dj a v λZ l=>rx l λd=>lR a d P
noncomputable def lX(a:ai)(v:V)(P:V->ai->Prop):Prop:=dj a v λZ l=>rx l λd=>P (.int d.length) a
noncomputable def kW(S:aN)(A:Around)(f:Str)(C:ai->V->(V->ai->Prop)->Prop):Prop:=∀(Γ:bl)(env:Env)(a:Expr)(m:M)(b c p p2:Pos),cG Γ env->f∈Γ.globals->("set":Str)∈Γ.globals->d8 a=false->ej S Γ env A a m->
 bh S Γ env A (.Call (.Name f b) [.Call (.Name "set" c) [a] [] p2] [] p) (dV C m)
structure Tb where
 attrs:List Str
 fns:Str->Option Addr
 ry:Str->Option (Addr×Addr)
 vals:Str->Option V
 el:Addr->Str->Option Addr
structure Wd(T:Tb)(S:aN)(fn:aG)(n:Nat)(A:Around):Prop where
 attr:∀x∈T.attrs,x∈S.attrs
 kX:∀x a,T.fns x=some a->S.mg x=some (.ref a)/\keepIn S.K (.ref a)=true
 oS:∀x c f,T.ry x=some (c,f)->S.mg x=some (.ref c)/\S.cls c=true/\findIn S.K (.ref c) "__init__"=some (some<|.ref f)/\typeIn S.K (.ref f)=some (.type "function")/\keepIn S.K (.ref c)=true
 oT:∀x v,T.vals x=some v->∃y,S.mg x=some y/\VR [] S.B v y
 oU:qY S T.el
 pb:∀b,S.mg (ek b)=none/\S.mb (ek b)=some (i0 b)
 enum:S.mg "enumerate"=none/\S.mb "enumerate"=some (.type "enumerate")
 zip:S.mg "zip"=none/\S.mb "zip"=some (.type "zip")
 sset:kW S A "sorted" hk
 oV:kW S A "len" lX
 spec:hP S fn n
 room:fV A n
structure CE where
 Γ:bl
 locs:List Str
 js:List Nat
structure f5(c:CE)(env:Env):Prop where
 f:cG c.Γ env
 loc:∀n∈c.locs,env.kindOf n=some .local
noncomputable abbrev XE(T:Tb)(c:CE)(e:Expr):Type:={m:aG->M//∀{S:aN}{fn:aG}{n:Nat}{A:Around}{env:Env},Wd T S fn n A->f5 c env->bh S c.Γ env A e (m fn)}
noncomputable abbrev XT(T:Tb)(c:CE)(e:Expr):Type:={m:aG->M//∀{S:aN}{fn:aG}{n:Nat}{A:Around}{env:Env},Wd T S fn n A->f5 c env->iT S c.Γ env A e (m fn)}
noncomputable abbrev Cp(T:Tb)(c:CE)(es:List Expr):Type:={m:aG->Ms//∀{S:aN}{fn:aG}{n:Nat}{A:Around}{env:Env}(pos:Pos),Wd T S fn n A->f5 c env->e7 S c.Γ env A pos es (m fn)}
noncomputable abbrev Cq(T:Tb)(c:CE)(es:List Expr):Type:={m:aG->Mb//∀{S:aN}{fn:aG}{n:Nat}{A:Around}{env:Env},Wd T S fn n A->f5 c env->kU S c.Γ env A es (m fn)}
noncomputable abbrev i8(T:Tb)(c:CE)(t:Expr):Type:={m:(aG->Mt)×Option (List Nat)//(∀{S:aN}{fn:aG}{n:Nat}{A:Around}{env:Env},Wd T S fn n A->f5 c env->g9 S c.Γ env A t (m.1 fn))/\∀fn ss,m.2=some ss->jS ss (m.1 fn)}
noncomputable def kY(ss:List Nat)(m:hR):Prop:=∀v l b P P',m v l b P->(∀a c,hS ss l a->P a c->P' a c)->m v l b P'
noncomputable abbrev Cr(T:Tb)(c:CE)(t:List Expr):Type:={m:(aG->hR)×Option (List Nat)//(∀{S:aN}{fn:aG}{n:Nat}{A:Around}{env:Env},Wd T S fn n A->f5 c env->m4 S c.Γ env A t (m.1 fn))/\∀fn ss,m.2=some ss->kY ss (m.1 fn)}
noncomputable abbrev jW(T:Tb)(c:CE)(e:Expr)(tup:Bool):Type:={m:aG->cK//∀{S:aN}{fn:aG}{n:Nat}{A:Around}{env:Env},Wd T S fn n A->f5 c env->(∀x,foldedSetIterable e env x=pure x)/\jR S c.Γ env A e tup (m fn)}
noncomputable abbrev XS(T:Tb)(c:CE)(s:Stmt):Type:={m:aG->aE//∀{S:aN}{fn:aG}{n:Nat}{A:Around}{env:Env},Wd T S fn n A->f5 c env->ha S c.Γ env A s (m fn)}
noncomputable abbrev rz(T:Tb)(c:CE)(s:List Stmt):Type:={m:aG->aE//∀{S:aN}{fn:aG}{n:Nat}{A:Around}{env:Env},Wd T S fn n A->f5 c env->ip S c.Γ env A s (m fn)}
section
variable{T:Tb}{c:CE}{S:aN}{fn:aG}{n:Nat}{A:Around}{env:Env}{e:Expr}
theorem Wd.hh(W:Wd T S fn n A):A.handled=none:=W.room.handled
theorem Wd.u(W:Wd T S fn n A):A.units+150<cLine:=W.room.u af
theorem Wd.vD(W:Wd T S fn n A):A.units+60<cLine:=W.room.u af
theorem Wd.vE(W:Wd T S fn n A):A.units+50<cLine:=W.room.u af
theorem Wd.vF(W:Wd T S fn n A):A.units+40<cLine:=W.room.u af
noncomputable def cI:XE T c e:=⟨λZ Z Z Z=>False,λZ Z=>⟨λZ Z Z Z Z Z h=>h.elim,λZ Z Z Z Z Z h=>h.elim⟩⟩
noncomputable def dy{s:Stmt}:XS T c s:=⟨λZ Z Z Z=>False,λZ Z Z Z Z Z Z Z h=>h.elim⟩
noncomputable abbrev kZ(p:Prop):Type:=Option<|PLift p
noncomputable def dk{C:Expr->Type}(d:∀e,C e)(e:Expr)(bo:∀op vs p,C (.BoolOp op vs p):=λZ Z Z=>d _)(bi:∀x op y p,C (.BinOp x op y p):=λZ Z Z Z=>d _)(un:∀op x p,C (.UnaryOp op x p):=λZ Z Z=>d _)(ie:∀a b c p,C (.IfExp a b c p):=λZ Z Z Z=>d _)
  (dc:∀k v p,C (.Dict k v p):=λZ Z Z=>d _) (lc:∀e g s p,C (.ListComp e g s p):=λZ Z Z Z=>d _) (cm:∀x o y p,C (.Compare x o y p):=λZ Z Z Z=>d _) (cl:∀f a k p,C (.Call f a k p):=λZ Z Z Z=>d _) (ct:∀c k p,C (.Constant c k p):=λZ Z Z=>d _)
  (ab:∀o n p,C (.Attribute o n p):=λZ Z Z=>d _) (sb:∀o i p,C (.Subscript o i p):=λZ Z Z=>d _) (nm:∀n p,C (.Name n p):=λZ Z=>d _) (ls:∀es p,C (.List es p):=λZ Z=>d _) (tp:∀es k p,C (.Tuple es k p):=λZ Z Z=>d _) (sl:∀a b c p,C (.Slice a b c p):=λZ Z Z Z=>d _):C e:=
 match e with
 | .BoolOp op vs p=>bo op vs p
 | .BinOp x op y p=>bi x op y p
 | .UnaryOp op x p=>un op x p
 | .IfExp a b c p=>ie a b c p
 | .Dict k v p=>dc k v p
 | .ListComp e g s p=>lc e g s p
 | .Compare x o y p=>cm x o y p
 | .Call f a k p=>cl f a k p
 | .Constant c k p=>ct c k p
 | .Attribute o n p=>ab o n p
 | .Subscript o i p=>sb o i p
 | .Name n p=>nm n p
 | .List es p=>ls es p
 | .Tuple es k p=>tp es k p
 | .Slice a b c p=>sl a b c p
 |e=>d e
noncomputable def jX{a:Type}{C:List a->Type}(d:∀l,C l)(l:List a)(f:C []):C l:=match l with|[]=>f|x::r=>d<|x::r
noncomputable def lY{a:Type}{C:List a->Type}(d:∀l,C l)(l:List a)(f:∀x,C [x]):C l:=match l with|[x]=>f x|l=>d l
noncomputable def lZ{a:Type}{C:List a->Type}(d:∀l,C l)(l:List a)(f:∀x y,C [x,y]):C l:=match l with|[x,y]=>f x y|l=>d l
noncomputable def ng{b C:Type}(o:Option b)(d:C)(f:∀a,o=some a->C):C:=match o with|some a=>f a rfl|none=>d
noncomputable def idxOf(n:Str):(l:List Str)->Option {i:Nat//l[i]? =some n}
 |[]=>none
 |m::l=>if h:m=n then some ⟨0,ar some h⟩ else(idxOf n l).map λi=>⟨i.1+1,i.2⟩
noncomputable def rA(o:Expr):kZ (∀a env w,attributeBase o a env w=w):=
 dk (C:=λo=>kZ (∀a env w,attributeBase o a env w=w)) (λZ=>none) o (nm:=λZ Z=>some ⟨λZ Z Z=>rfl⟩) (ab:=λZ Z Z=>some ⟨λZ Z Z=>rfl⟩) (sb:=λZ Z Z=>some ⟨λZ Z Z=>rfl⟩)
  (cl:=λf as ks p=>dk (C:=λf=>kZ (∀a env w,attributeBase (.Call f as ks p) a env w=w)) (λZ=>none) f (ab:=λZ Z Z=>some ⟨λZ Z Z=>rfl⟩) (nm:=λn q=>match as with|_::_=>some ⟨λZ Z Z=>rfl⟩|[]=>none))
noncomputable def oW(e:Expr):kZ ((∀env x,foldedSetIterable e env x=pure x)/\∀op,behindInMarks op e=false):=
 dk (C:=λe=>kZ ((∀env x,foldedSetIterable e env x=pure x)/\∀op,behindInMarks op e=false)) (λZ=>none) e (cm:=λZ Z Z Z=>some ⟨λZ Z=>rfl,λZ=>rfl⟩) (nm:=λZ Z=>some ⟨λZ Z=>rfl,λZ=>rfl⟩) (ab:=λZ Z Z=>some ⟨λZ Z=>rfl,λZ=>rfl⟩) (cl:=λZ Z Z Z=>some ⟨λZ Z=>rfl,λZ=>rfl⟩) (sb:=λZ Z Z=>some ⟨λZ Z=>rfl,λZ=>rfl⟩)
  (ct:=λZ Z Z=>some ⟨λZ Z=>rfl,λZ=>rfl⟩) (ls:=λZ Z=>some ⟨λZ Z=>rfl,λZ=>rfl⟩) (tp:=λZ Z Z=>some ⟨λZ Z=>rfl,λZ=>rfl⟩) (bi:=λZ Z Z Z=>some ⟨λZ Z=>rfl,λZ=>rfl⟩) (lc:=λZ Z Z Z=>some ⟨λZ Z=>rfl,λZ=>rfl⟩)
end
section
variable{S:aN}{fn:aG}{n:Nat}{A:Around}{env:Env}{Γ:bl}
theorem Cs{T:Tb}{x:Str}{v:V}{pos:Pos}(W:Wd T S fn n A)(F:cG Γ env)(c:x∈Γ.globals)(d:T.vals x=some v):bh S Γ env A (.Name x pos) (λZ a P=>P v a):=.value (λμ s l a P I hm=>(W.oT x v d).elim λy z=>qZ F c z.1 I ⟨μ,v,a,I.st,.refl _ _,z.2.move ⟨λi p e=>((a4<|List.getElem?_nil.symm.trans e)),λb o e Z Z=>I.st.base b o e,λb o e Z Z=>I.st.qk<|bA e⟩,hm⟩) rfl
theorem Ct{j:Int}{k:Nat}{p pos:Pos}:bh S Γ env A (.UnaryOp .USub (.Constant (.int j) k p) pos) (λZ a P=>P (.int (-j)) a):=.value (λμ s l a P I hm=>wpAny_UnaryOp<|wpAny_Constant_int<|PySem.P.neg_int ⟨μ,_,a,I.st,(bQ.toks _).trans<|.toks _,.int _ _,hm⟩) rfl
theorem Cu{x:Expr}{m:M}{pos:Pos}(h:iT S Γ env A x m):iT S Γ env A (.UnaryOp .Not x pos) (notM m):=λμ s l c P I hm=>wpAny_isTrue_Not<|hJ h I hm λd b e s₁ a t p=>g8 a.st t p
theorem K6{j:Int}{P:Nat->Prop}(hn:∀k:Nat,j=(k:Int)->P k)(h:0<=j):P j.toNat:=hn _ (Int.toNat_of_nonneg h).symm
end
section
variable{T:Tb}{c:CE}(r:∀e,XE T c e)
noncomputable def nh:∀es:List Expr,Option (Cp T c es)
 |[]=>some ⟨λZ=>aa,λZ Z Z=>qT⟩
 |e::es=>if h:d8 e=false then(nh es).map λa=>⟨λfn=>H ((r e).1 fn)<|a.1 fn,λp W O=>A8 h ((r e).2 W O)<|a.2 p W O⟩ else none
noncomputable def k0:∀es:List Expr,Cq T c es
 |[]=>⟨λZ=>aK,λZ Z=>vh⟩
 |e::es=>⟨λfn=>c1 ((r e).1 fn)<|(k0 es).1 fn,λW O=>vi ((r e).2 W O).tr<|(k0 es).2 W O⟩
noncomputable def Cv(k:Const)(kd:Nat)(pos:Pos):XE T c (.Constant k kd pos):=match k with
 | .none=>⟨λZ Z a P=>P .none a,λZ Z=>ze⟩
 | .bool b=>⟨λZ Z a P=>P (.bool b) a,λZ Z=>zf⟩
 | .int i=>⟨λZ Z a P=>P (.int i) a,λZ Z=>zg⟩
 | .str x=>if h:PyData.strOk x=true then⟨λZ Z a P=>P (.str x) a,λZ Z=>qn h⟩ else cI
 |_=>cI
noncomputable def Cw(n:Str)(pos:Pos):XE T c (.Name n pos):=match idxOf n c.Γ.names with
 |some i=>⟨λZ l a P=>kI l i.1 λv=>P v a,λW O=>qo O.f i.2⟩
 |none=>ng (T.vals n) cI λv b=>if d:n∈c.Γ.globals then⟨λZ Z a P=>P v a,λW O=>Cs W O.f d b⟩ else cI
noncomputable def rB(ks:List (Option Expr))(vs:List Expr)(pos:Pos):XE T c (.Dict ks vs pos):=match ks,vs with
 |[],[]=>⟨λZ=>gF,λZ Z=>Bk⟩
 |[some k],[v]=>⟨λfn=>lU ((r k).1 fn)<|(r v).1 fn,λW O=>Bl W.vF ((r k).2 W O)<|(r v).2 W O⟩
 |[some k,some a],[v,v']=>⟨λfn=>oG ((r k).1 fn) ((r v).1 fn) ((r a).1 fn)<|(r v').1 fn,λW O=>Bm W.vF ((r k).2 W O) ((r v).2 W O) ((r a).2 W O)<|(r v').2 W O⟩
 |_,_=>cI
noncomputable def Cy(op:UnaryOp)(x:Expr)(pos:Pos):XE T c (.UnaryOp op x pos):=match op with
 | .Not=>⟨λfn=>notM<|(r x).1 fn,λW O=>A4<|(r x).2 W O⟩
 | .USub=>dk (C:=λx=>XE T c (.UnaryOp .USub x pos)) (λZ=>cI) x (ct:=λk kd p=>match k with
  | .int j=>⟨λZ Z a P=>P (.int<|-j) a,λZ Z=>Ct⟩
  |_=>cI)
 |_=>cI
noncomputable def Cz(op:BoolOp)(vs:List Expr)(pos:Pos):XE T c (.BoolOp op vs pos):=lZ (C:=λvs=>XE T c<|.BoolOp op vs pos) (λZ=>cI) vs λx y=>match op with
 | .And=>⟨λfn=>andM ((r x).1 fn)<|(r y).1 fn,λW O=>uT ((r x).2 W O)<|(r y).2 W O⟩
 | .Or=>⟨λfn=>orM ((r x).1 fn)<|(r y).1 fn,λW O=>uV ((r x).2 W O)<|(r y).2 W O⟩
noncomputable def CA(x:Expr)(cX:List CmpOp)(a:List Expr)(pos:Pos):XE T c (.Compare x cX a pos):=lY (C:=λcX=>XE T c<|.Compare x cX a pos) (λZ=>cI) cX λop=>lY (C:=λa=>XE T c<|.Compare x [op] a pos) (λZ=>cI) a λy=>
 (oW y).elim cI λq=>⟨λfn=>aH op ((r x).1 fn)<|(r y).1 fn,λW O=>qS W.vD (q.down.2 op) ((r x).2 W O)<|(r y).2 W O⟩
noncomputable def CB(o:Expr)(n:Str)(pos:Pos):XE T c (.Attribute o n pos):=(rA o).elim cI λq=>if hn:n∈T.attrs then⟨λfn=>aw ((r o).1 fn) n,λW O=>Ba (W.attr n hn) (q.down _ _ _)<|(r o).2 W O⟩ else cI
noncomputable def CC(o:Expr)(k:Expr)(p2 pos:Pos):XE T c (.Subscript o (.Slice (some k) none none p2) pos):=dk (C:=λk=>XE T c (.Subscript o (.Slice (some k) none none p2) pos)) (λZ=>cI) k (ct:=λk kd p=>match k with
  | .int (.ofNat k)=>⟨λfn=>c4 ((r o).1 fn) k,λW O=>Bh<|(r o).2 W O⟩
  |_=>cI)
noncomputable def CD(o:Expr)(k:Expr)(p2 pos:Pos):XE T c (.Subscript o (.Slice none (some k) none p2) pos):=dk (C:=λk=>XE T c (.Subscript o (.Slice none (some k) none p2) pos)) (λZ=>cI) k (ct:=λk kd p=>match k with
  | .int (.ofNat k)=>⟨λfn=>kR ((r o).1 fn) k,λW O=>Bi<|(r o).2 W O⟩
  |_=>cI)
noncomputable def CF(o:Expr)(k:Expr)(p2 pos:Pos):XE T c (.Subscript o (.Slice none none (some k) p2) pos):=dk (C:=λk=>XE T c (.Subscript o (.Slice none none (some k) p2) pos)) (λZ=>cI) k (un:=λop x a=>match op with
  | .USub=>dk (C:=λx=>XE T c (.Subscript o (.Slice none none (some (.UnaryOp .USub x a)) p2) pos)) (λZ=>cI) x (ct:=λk kd p=>match k with
   | .int (.ofNat 1)=>⟨λfn=>oE<|(r o).1 fn,λW O=>Bj<|(r o).2 W O⟩
   |_=>cI)
  |_=>cI)
noncomputable def CG(o i:Expr)(pos:Pos):XE T c (.Subscript o i pos):=⟨λfn=>ax ((r o).1 fn)<|(r i).1 fn,λW O=>Bb W.vE ((r o).2 W O)<|(r i).2 W O⟩
noncomputable def CH(o i:Expr)(pos:Pos):XE T c (.Subscript o i pos):=dk (C:=λi=>XE T c (.Subscript o i pos)) (λi=>CG r o i pos) i (sl:=λa b s p2=>match a,b,s with
 |some k,none,none=>CC r o k p2 pos
 |none,some k,none=>CD r o k p2 pos
 |none,none,some k=>CF r o k p2 pos
 |_,_,_=>cI)
noncomputable def CI:List PB:=[.len,.sorted,.dict,.list,.tuple,.range,.sum,.max,.abs,.str]
noncomputable def vG(n:Str):List PB->Option {b:PB//ek b=n}
 |[]=>none
 |b::l=>if h:ek b=n then some ⟨b,h⟩ else vG n l
noncomputable def CJ:MB->Nat
 | .append=>1
 | .extend=>1
 | .pop=>0
 | .gH=>1
 |_=>2
noncomputable def rC(n:Str)(k:Nat):List MB->Option {b:MB//oJ b=n}
 |[]=>none
 |b::l=>if h:oJ b=n then if CJ b=k then some ⟨b,h⟩ else rC n k l else rC n k l
noncomputable def jY(x:Str)(g:Pos)(es:List Expr)(pos:Pos):XE T c (.Call (.Name x g) es [] pos):=if e:x∈c.Γ.globals then(nh r es).elim cI λd=>match vG x CI with
  |some ⟨b,h⟩=>⟨λfn=>aC (aD b) (d.1 fn),λW O=>by subst h;exact Bp O.f W.hh W.u e (W.pb b).1 (W.pb b).2 (d.2 pos W O)⟩
  |none=>ng (T.fns x) (ng (T.ry x) cI λq i=>⟨λfn=>gG fn q.1 q.2<|d.1 fn,λW O=>have z:=W.oS x q.1 q.2 i;Bv O.f W.spec W.room e z.1 z.2.1 z.2.2.1 z.2.2.2.1 z.2.2.2.2 (d.2 pos W O)⟩)
   λa j=>⟨λfn=>aC (λk vs P=>fn a vs k P)<|d.1 fn,λW O=>have z:=W.kX x a j;Bs O.f W.spec W.room e z.1 z.2 (d.2 pos W O)⟩
 else cI
noncomputable def CK(o:Expr)(n:Str)(e:Pos)(es:List Expr)(pos:Pos):XE T c (.Call (.Attribute o n e) es [] pos):=(rA o).elim cI λq=>(nh r es).elim cI λa=>if d:(e.endLine==pos.line)=true/\es.length<20 then match rC n es.length [.append,.extend,.pop,.gH,.get,.eJ] with
  |some ⟨b,h⟩=>⟨λfn=>bB (bG b) (bH b) ((r o).1 fn) (a.1 fn),λW O=>by subst h;exact Br b W.vD (q.down _ _ _) d.2 d.1 ((r o).2 W O) (a.2 pos W O)⟩
  |none=>⟨λfn=>aX fn T.el ((r o).1 fn) n<|a.1 fn,λW O=>Bt W.oU W.spec W.room (q.down _ _ _) d.2 d.1 ((r o).2 W O)<|a.2 pos W O⟩
 else cI
theorem vH{a:ai}{v:V}{k:Nat->KK->List (V×V)->Prop}(h:eV a v k):qX a v:=by
 cases v with
 |ref i=>exact h.imp λkk h=>h.imp λes h=>⟨h.1,trivial⟩
 |_=>exact h
noncomputable def CL(x:Str)(l:Pos)(o:Expr)(n:Str)(a b pos:Pos)(d:XE T c (.Call (.Name x l) [.Call (.Attribute o n a) [] [] b] [] pos)):XE T c (.Call (.Name x l) [.Call (.Attribute o n a) [] [] b] [] pos):=
 (rA o).elim d λq=>if h:n="items"/\(a.endLine==b.line)=true/\x∈c.Γ.globals then if g:ek .sorted=x then⟨λfn=>dV oy ((r o).1 fn),λW O=>by refine b1 h λm i j=>?_;obtain rfl:=m;clear d h;subst g;exact u5 O.f j (W.pb .sorted).1 (W.pb .sorted).2 (λst r e=>⟨vH e,λk=>AR W.hh (W.room.u af) st r e k⟩) (q.down _ _ _) i ((r o).2 W O)⟩
  else if g:ek .list=x then⟨λfn=>dV lS ((r o).1 fn),λW O=>by refine b1 h λp i j=>?_;obtain rfl:=p;clear d h;subst g;exact u5 O.f j (W.pb .list).1 (W.pb .list).2 (λst r e=>⟨vH e,λk=>AS W.hh st r e k⟩) (q.down _ _ _) i ((r o).2 W O)⟩
  else d else d
noncomputable def CM(x:Str)(j:Pos)(y:Str)(k:Pos)(a:Expr)(p2 pos:Pos)(d:XE T c (.Call (.Name x j) [.Call (.Name y k) [a] [] p2] [] pos)):XE T c (.Call (.Name x j) [.Call (.Name y k) [a] [] p2] [] pos):=
 if h:y="set"/\y∈c.Γ.globals/\x∈c.Γ.globals/\d8 a=false then if b:x="sorted" then⟨λfn=>dV hk ((r a).1 fn),λW O=>by refine dK h λl e g i=>?_;obtain rfl:=l;clear d h;subst b;exact W.sset _ _ a _ _ _ _ _ O.f g e i ((r a).2 W O).ev⟩
  else if b:x="len" then⟨λfn=>dV lX ((r a).1 fn),λW O=>by refine dK h λm e g i=>?_;obtain rfl:=m;clear d h;subst b;exact W.oV _ _ a _ _ _ _ _ O.f g e i ((r a).2 W O).ev⟩
  else d else d
noncomputable def CN(f:Expr)(es:List Expr)(ks:List Keyword)(pos:Pos):XE T c (.Call f es ks pos):=jX (C:=λks=>XE T c (.Call f es ks pos)) (λZ=>cI) ks (dk (C:=λf=>XE T c (.Call f es [] pos)) (λZ=>cI) f (ab:=λo n h=>CK r o n h es pos)
 (nm:=λx b=>lY (C:=λes=>XE T c (.Call (.Name x b) es [] pos)) (λes=>jY r x b es pos) es λe=>dk (C:=λe=>XE T c (.Call (.Name x b) [e] [] pos)) (λe=>jY r x b [e] pos) e (cl:=λg gs ks d=>jX (C:=λks=>XE T c (.Call (.Name x b) [.Call g gs ks d] [] pos)) (λZ=>jY r x b _ pos) ks
  (dk (C:=λg=>XE T c (.Call (.Name x b) [.Call g gs [] d] [] pos)) (λZ=>jY r x b _ pos) g
   (ab:=λo n h=>jX (C:=λgs=>XE T c<|.Call (.Name x b) [.Call (.Attribute o n h) gs [] d] [] pos) (λZ=>jY r x b _ pos) gs<|CL r x b o n h d pos<|jY r x b _ pos)
   (nm:=λy i=>lY (C:=λgs=>XE T c (.Call (.Name x b) [.Call (.Name y i) gs [] d] [] pos)) (λZ=>jY r x b _ pos) gs λa=>CM r x b y i a d pos (jY r x b _ pos))))))
end
section
theorem vI{i:Nat}:jS [i] (aj i):=λv l b P P' hm h=>h _ _ ⟨gu,λj a=>hB λq=>a<|a3.mpr q.symm⟩ hm
theorem CO:kY [] cu:=λv l a P P' hm h=>⟨hm.1,h _ _ (.refl _ _) hm.2⟩
theorem CP{s1 s2:List Nat}{t:Mt}{r:hR}(a:jS s1 t)(b:kY s2 r):kY (s1++s2) (bb t r):=λv l d P P' hm h=>by refine cq hm λw ws e hm=>?_;exact⟨w,ws,e,a _ _ _ _ _ hm λf g q hm=>b _ _ _ _ _ hm λl₂ i c=>h _ _<|q.trans c⟩
theorem CQ{ss:List Nat}{n:Nat}{r:hR}(a:kY ss r):jS ss (cB n r):=λv l b P P' hm h=>by
 have m:∀vs:List V,vs.length=n/\r vs l b P->vs.length=n/\r vs l b P':=λvs q=>⟨q.1,a _ _ _ _ _ q.2 h⟩;rcases hm with hm|hm
 .cases v with
  |tup vs=>exact .inl<|m vs hm
  |_=>exact hm.elim
 .cases v with
  |ref i=>exact .inr<|hm.imp λvs q=>⟨q.1,m vs q.2⟩
  |_=>exact hm.elim
end
section
variable{T:Tb}{c:CE}(r:∀e,XE T c e)
noncomputable def l0{t:Expr}:i8 T c t:=⟨(λZ Z Z Z Z=>False,none),⟨λZ Z Z Z Z Z Z Z Z Z Z h=>h.elim,(λZ Z=>a4)⟩⟩
noncomputable def CR(n:Str)(pos:Pos):i8 T c (.Name n pos):=match idxOf n c.Γ.names with
 |some i=>if h:n∈c.locs\/n∈c.Γ.cells then⟨(λZ=>aj i.1,some [i.1]),⟨λW O=>q4 O.f i.2<|h.imp (O.loc n) id,λfn ss q=>aT q▸vI⟩⟩ else l0
 |none=>l0
noncomputable def CS(o:Expr)(n:Str)(pos:Pos):i8 T c (.Attribute o n pos):=if hn:n∈T.attrs then⟨(λfn=>cA ((r o).1 fn) n,none),⟨λW O=>Bw (W.attr n hn) ((r o).2 W O).ev,(λZ Z=>a4)⟩⟩ else l0
noncomputable def CT(o i:Expr)(pos:Pos):i8 T c (.Subscript o i pos):=⟨(λfn=>e8 ((r o).1 fn)<|(r i).1 fn,none),⟨λW O=>Bx W.vE ((r o).2 W O).ev ((r i).2 W O).ev,(λZ Z=>a4)⟩⟩
noncomputable def vJ(a b:Option (List Nat)):Option (List Nat):=match a,b with
 |some a,some b=>some<|a++b
 |_,_=>none
theorem CU{a b:Option (List Nat)}{t:Mt}{r:hR}(c:∀ss,a=some ss->jS ss t)(d:∀ss,b=some ss->kY ss r):∀ss,vJ a b=some ss->kY ss (bb t r):=λss q=>by
 cases a with
 |none=>exact a4 q
 |some a=>cases b with
  |none=>exact a4 q
  |some b=>exact aT q▸CP (c a rfl) (d b rfl)
noncomputable def vK(a:∀t,i8 T c t):∀ts:List Expr,Option (Cr T c ts)
 |[]=>some ⟨(λZ=>cu,some []),⟨λZ Z=>By,λZ ss q=>aT q▸CO⟩⟩
 |t::ts=>if h:d8 t=false then(vK a ts).map λb=>⟨(λfn=>bb ((a t).1.1 fn)<|b.1.1 fn,vJ (a t).1.2 b.1.2),⟨λW O=>Bz h ((a t).2.1 W O)<|b.2.1 W O,λfn=>CU ((a t).2.2 fn)<|b.2.2 fn⟩⟩ else none
noncomputable def rD(b:∀t,i8 T c t)(t:Expr):i8 T c t:=dk (C:=i8 T c) (λZ=>l0) t (nm:=CR) (ab:=CS r) (sb:=CT r) (tp:=λts k pos=>(vK b ts).elim l0 λa=>⟨(λfn=>cB ts.length<|a.1.1 fn,a.1.2),⟨λW O=>BB W.hh<|a.2.1 W O,λfn ss q=>CQ<|a.2.2 fn ss q⟩⟩)
noncomputable def gJ(t:Expr):i8 T c t:=rD r (rD r<|rD r λZ=>l0) t
noncomputable def rE(e:Expr)(tup:Bool):Option (jW T c e tup):=(oW e).map λq=>⟨λfn=>aI<|(r e).1 fn,λW O=>⟨q.down.1 _,B2 ((r e).2 W O).ev⟩⟩
noncomputable def CV(x:Str)(a:Pos)(es:List Expr)(pos:Pos)(tup:Bool):Option (jW T c (.Call (.Name x a) es [] pos) tup):=
 if h:x="enumerate"/\x∈c.Γ.globals/\tup=true then lY (C:=λes=>Option (jW T c (.Call (.Name x a) es [] pos) tup)) (λZ=>none) es λe=>if hs:d8 e=false then some ⟨λfn=>enumSrc ((r e).1 fn),λW O=>by refine b1 h λd b g=>?_;obtain rfl:=d;clear h;obtain rfl:=g;exact⟨λZ=>rfl,B9 O.f hs b W.enum.1 W.enum.2 ((r e).2 W O).ev⟩⟩ else none
 else if h:x="zip"/\x∈c.Γ.globals/\tup=true then lZ (C:=λes=>Option (jW T c (.Call (.Name x a) es [] pos) tup)) (λZ=>none) es λe f=>if hs:d8 e=false/\d8 f=false then some ⟨λfn=>zipSrc ((r e).1 fn) ((r f).1 fn),λW O=>by refine b1 h λi b j=>?_;obtain rfl:=i;clear h;obtain rfl:=j;exact⟨λZ=>rfl,Cj O.f hs.1 hs.2 b W.zip.1 W.zip.2 ((r e).2 W O).ev ((r f).2 W O).ev⟩⟩ else none
 else rE r _ tup
noncomputable def rF(e:Expr)(tup:Bool):Option (jW T c e tup):=dk (C:=λe=>Option<|jW T c e tup) (λe=>rE r e tup) e (cl:=λf es ks pos=>dk (C:=λf=>Option<|jW T c (.Call f es ks pos) tup) (λZ=>rE r _ tup) f (nm:=λx a=>jX (C:=λks=>Option<|jW T c (.Call (.Name x a) es ks pos) tup) (λZ=>none) ks<|CV r x a es pos tup))
end
noncomputable abbrev XG(T:Tb)(c:CE)(elt:Expr)(all:List Comprehension)(scope:Scope)(pos:Pos)(d:Nat)(rest:List Comprehension):Type:={m:(aG->Mg)×List Nat//∀{S:aN}{fn:aG}{n:Nat}{A:Around}{env:Env},Wd T S fn n A->f5 c env->all.drop (d+1)=rest->BodyOk S c.Γ env A elt all scope pos d m.2 (m.1 fn)}
section
variable{T:Tb}{c:CE}(r:∀e,XE T c e)
noncomputable def vL(elt:Expr)(all:List Comprehension)(scope:Scope)(pos:Pos):∀(rest:List Comprehension)(d:Nat),Option (XG T c elt all scope pos d rest)
 |[],d=>some ⟨(λfn=>aR<|(r elt).1 fn,[]),λW O hd=>vg (ez<|List.drop_eq_nil_iff.mp hd) ((r elt).2 W O).ev⟩
 |⟨t,iter,b,a⟩::rest,d=>(vL elt all scope pos rest<|d+1).bind λg=>(rF r iter<|i4 t).bind λsrc=>ng (gJ r t).1.2 none λst jU=>if h:a=0/\∀i∈st,i∉g.1.2 then
   some ⟨(λfn=>e9 (src.1 fn) ((gJ r t).1.1 fn) ((k0 r b).1 fn) (g.1.1 fn),st++g.1.2),λW O hd=>by have z:=mY hd;rw[h.1] at z;exact BQ O.f W.hh z.1 (src.2 W O).1 id (src.2 W O).2 ((gJ r t).2.1 W O) ((gJ r t).2.2 _ st jU) ((k0 r b).2 W O) h.2 (g.2 W O z.2)⟩ else none
noncomputable def CW(t:Expr):List Str:=dk (C:=λZ=>List Str) (λZ=>[]) t (nm:=λn Z=>[n]) (tp:=λts Z Z=>ts.flatMap λt=>dk (C:=λZ=>List Str) (λZ=>[]) t (nm:=λn Z=>[n]))
noncomputable def fI(c:CE)(scope:Scope)(gens:List Comprehension):CE:=
 let a:=(scope.names.filter λx=>x.2== .free).map λx=>x.1;let tn:=gens.flatMap λg=>CW g.target
 {Γ:={names:=a++tn,globals:=(scope.names.filter λx=>x.2== .globalImplicit).map λx=>x.1,cells:=[]},locs:=tn,js:=a.map λn=>c.Γ.names.idxOf n}
noncomputable def vM(Γ:bl)(scope:Scope)(Γc:bl)(js:List Nat):Decidable (iq Γ scope Γc js):=
 decidable_of_iff (scope.kind= .function/\(∀x∈scope.names,x.2= .local\/x.2= .free\/x.2= .globalImplicit)/\(∀x∈scope.names,x.2= .local->scope.names.lookup x.1=some .local)/\(∀x∈scope.names,x.2= .free->x.1∈Γ.cells)/\(∀n∈Γc.names,scope.names.lookup n=some .local\/scope.names.lookup n=some .free)/\Γc.names.Nodup/\
   (∀n∈Γc.names,(n==("__debug__":Str))=false)/\(∀n∈Γc.globals,scope.names.lookup n=some .globalImplicit/\(n==("__debug__":Str))=false)/\Γc.cells=[]/\∀p∈js.zip Γc.names,Γ.names[p.1]? =some p.2/\scope.names.lookup p.2=some .free)
  ⟨λh=>⟨h.1,h.2.1,h.2.2.1,h.2.2.2.1,h.2.2.2.2.1,h.2.2.2.2.2.1,h.2.2.2.2.2.2.1,h.2.2.2.2.2.2.2.1,h.2.2.2.2.2.2.2.2.1,h.2.2.2.2.2.2.2.2.2⟩,λh=>⟨h.kind,h.kinds,h.loc,h.free,h.names,h.nd,h.n0,h.gl,h.cells,h.q8⟩⟩
noncomputable abbrev XC(T:Tb)(c:CE)(e:Expr):Type:={m:aG->M//∀{S:aN}{fn:aG}{n:Nat}{A:Around}{env:Env},Wd T S fn n A->f5 c env->bh S c.Γ env A e (m fn)/\
 ∀(x:Str)(a b:Pos)(ix:Nat),swapsWithSole [.Name x a] e b.line env=pure true->c.Γ.names[ix]? =some x->lJ c.Γ env x->ha S c.Γ env A (.Assign [.Name x a] e b) (aB (aj ix) (m fn))}
theorem CX{c c':CE}{scope:Scope}{env:Env}{cl:List (Str×Addr)}{C:Addr}(O:f5 c env)(K:iq c.Γ scope c'.Γ c'.js)(a:∀n∈c'.locs,scope.names.lookup n=some .local)(F:cG c'.Γ (compEnvC scope cl C env)):f5 c' (compEnvC scope cl C env):=⟨F,λn hn=>kV O.f K C<|a n hn⟩
noncomputable def CY{T:Tb}(r:∀c e,XE T c e)(c:CE)(elt t iter:Expr)(b:List Expr)(a:Int)(gens:List Comprehension)(scope:Scope)(pos:Pos):Option (XC T c (.ListComp elt (⟨t,iter,b,a⟩::gens) scope pos)):=
 if h:a=0 then by
  subst h
  exact(vL (c:=fI c scope<|⟨t,iter,b,0⟩::gens) (r _) elt (⟨t,iter,b,0⟩::gens) scope pos gens 0).bind λg=>(rF (r c) iter<|i4 t).bind λsrc=>ng (gJ (r<|fI c scope<|⟨t,iter,b,0⟩::gens) t).1.2 none λst jU=>
   match vM c.Γ scope (fI c scope<|⟨t,iter,b,0⟩::gens).Γ (fI c scope<|⟨t,iter,b,0⟩::gens).js with
   | .isFalse _=>none
   | .isTrue K=>if q:(fI c scope<|⟨t,iter,b,0⟩::gens).js.length+(fI c scope<|⟨t,iter,b,0⟩::gens).locs.length=(fI c scope<|⟨t,iter,b,0⟩::gens).Γ.names.length/\(∀i∈st++g.1.2,(fI c scope<|⟨t,iter,b,0⟩::gens).js.length<=i)/\(∀i∈st,i∉g.1.2)/\∀n∈(fI c scope<|⟨t,iter,b,0⟩::gens).locs,scope.names.lookup n=some .local then
     some ⟨λfn=>aS (src.1 fn) (fI c scope (⟨t,iter,b,0⟩::gens)).js (fI c scope (⟨t,iter,b,0⟩::gens)).locs.length ((gJ (r (fI c scope (⟨t,iter,b,0⟩::gens))) t).1.1 fn) ((k0 (r (fI c scope (⟨t,iter,b,0⟩::gens))) b).1 fn) (g.1.1 fn),λ{S fn n A env} W O=>by
      have X:oP S c.Γ env A elt t iter gens b scope pos _ (i4 t) _ _ st g.1.2 (src.1 fn) ((gJ (r<|fI c scope<|⟨t,iter,b,0⟩::gens) t).1.1 fn) ((k0 (r<|fI c scope<|⟨t,iter,b,0⟩::gens) b).1 fn) (g.1.1 fn):=
       ⟨O.f,W.hh,K,q.1,q.2.1,(src.2 W O).1,id,(src.2 W O).2,(gJ (r _) t).2.2 _ st jU,q.2.2.1,λcl C F=>by have E:=CX O K q.2.2.2 F;exact⟨(gJ (r _) t).2.1 W E,(k0 (r _) b).2 W E,g.2 W E rfl⟩⟩
      exact⟨vq X,λx d j ix=>BX X⟩⟩
    else none
 else none
end
section
variable{T:Tb}(r:∀c e,XE T c e)(c:CE)
noncomputable def vN(elt:Expr)(gens:List Comprehension)(scope:Scope)(pos:Pos):Option (XC T c (.ListComp elt gens scope pos)):=match gens with
 |[]=>none
 |⟨t,iter,b,a⟩::gens=>CY r c elt t iter b a gens scope pos
noncomputable def CZ(e:Expr):XE T c e:=dk (C:=XE T c) (λZ=>cI) e (bo:=Cz<|r c) (bi:=λx op y pos=>⟨λfn=>a9 op ((r c x).1 fn)<|(r c y).1 fn,λW O=>A3 ((r c x).2 W O)<|(r c y).2 W O⟩) (un:=Cy<|r c)
 (ie:=λa x y pos=>⟨λfn=>eI ((r c a).1 fn) ((r c x).1 fn)<|(r c y).1 fn,λW O=>A5 ((r c a).2 W O) ((r c x).2 W O)<|(r c y).2 W O⟩) (dc:=rB<|r c) (lc:=λelt gens scope pos=>(vN r c elt gens scope pos).elim cI λm=>⟨m.1,λW O=>(m.2 W O).1⟩) (cm:=CA<|r c) (cl:=CN<|r c) (ct:=Cv)
 (ab:=CB<|r c) (sb:=CH<|r c) (nm:=Cw) (ls:=λes pos=>(nh (r c) es).elim cI λb=>⟨λfn=>cg<|b.1 fn,λW O=>uX<|b.2 pos W O⟩) (tp:=λes k pos=>(nh (r c) es).elim cI λb=>⟨λfn=>bj<|b.1 fn,λW O=>A9<|b.2 pos W O⟩)
end
noncomputable def comp(T:Tb)(n:Nat):∀c e,XE T c e:=Nat.rec (λZ Z=>cI) (λZ r=>CZ r) n
section
variable{T:Tb}{c:CE}(r:∀e,XE T c e)
noncomputable def k1(e:Expr):XT T c e:=⟨(r e).1,λW O=>((r e).2 W O).tr⟩
noncomputable def C0(x:Expr)(cX:List CmpOp)(a:List Expr)(pos:Pos):XT T c (.Compare x cX a pos):=lZ (C:=λcX=>XT T c<|.Compare x cX a pos) (λZ=>k1 r _) cX λb d=>lZ (C:=λa=>XT T c<|.Compare x [b,d] a pos) (λZ=>k1 r _) a λy z=>match b,d with
 | .LtE,.Lt=>(oW y).elim (k1 r _) λq=>(oW z).elim (k1 r _) λe=>⟨λfn=>oD ((r x).1 fn) ((r y).1 fn)<|(r z).1 fn,λW O=>A6 (q.down.2 _) (e.down.2 _) ((r x).2 W O).ev ((r y).2 W O).ev ((r z).2 W O).ev⟩
 |_,_=>k1 r _
noncomputable def rG(e:Expr):XT T c e:=dk (C:=XT T c) (k1 r) e (cm:=C0 r)
noncomputable def oX(e:Expr):XT T c e:=dk (C:=XT T c) (rG r) e (un:=λop x pos=>match op with
 | .Not=>⟨λfn=>notM<|(rG r x).1 fn,λW O=>Cu<|(rG r x).2 W O⟩
 |_=>k1 r _)
end
section
variable{env:Env}
noncomputable def oY(e:Expr):kZ ((∀t a env,swapsWithSole [t] e a env=pure false)/\∀ts k p env,swappedStores [.Tuple ts k p] e env=pure none):=
 dk (C:=λe=>kZ ((∀t a env,swapsWithSole [t] e a env=pure false)/\∀ts k p env,swappedStores [.Tuple ts k p] e env=pure none)) (λZ=>none) e (nm:=λZ Z=>some ⟨λZ Z Z=>rfl,λZ Z Z Z=>rfl⟩) (ab:=λZ Z Z=>some ⟨λZ Z Z=>rfl,λZ Z Z Z=>rfl⟩) (cl:=λZ Z Z Z=>some ⟨λZ Z Z=>rfl,λZ Z Z Z=>rfl⟩)
  (sb:=λZ Z Z=>some ⟨λZ Z Z=>rfl,λZ Z Z Z=>rfl⟩) (ct:=λZ Z Z=>some ⟨λZ Z Z=>rfl,λZ Z Z Z=>rfl⟩) (ls:=λZ Z=>some ⟨λZ Z Z=>rfl,λZ Z Z Z=>rfl⟩) (bi:=λZ Z Z Z=>some ⟨λZ Z Z=>rfl,λZ Z Z Z=>rfl⟩) (dc:=λZ Z Z=>some ⟨λZ Z Z=>rfl,λZ Z Z Z=>rfl⟩)
  (ie:=λZ Z Z Z=>some ⟨λZ Z Z=>rfl,λZ Z Z Z=>rfl⟩) (cm:=λZ Z Z Z=>some ⟨λZ Z Z=>rfl,λZ Z Z Z=>rfl⟩) (un:=λZ Z Z=>some ⟨λZ Z Z=>rfl,λZ Z Z Z=>rfl⟩) (bo:=λZ Z Z=>some ⟨λZ Z Z=>rfl,λZ Z Z Z=>rfl⟩)
theorem C1{Γ:bl}(F:cG Γ env):env.blockKind= .function:=by unfold Env.blockKind;refine Y F.kind ?_;rfl
theorem C2{Γ:bl}(F:cG Γ env):interactive env=false:=by unfold interactive;refine Y F.kind ?_;rfl
theorem C3{a b:Str}{p q tp c:Pos}{k d:Nat}{u v:Expr}(hf:env.blockKind= .function)(e:env.kindOf a=some .local)(g:env.kindOf b=some .local)(i:q.line=p.line)(j:[a,b].eraseDups=[a,b])(hs:d8 u=false/\d8 v=false)(l:[u,v].all (foldedForSure 8)=false)(m:[u,v].all (constantsAlone 8)=false):
  swappedStores [.Tuple [.Name a p,.Name b q] k tp] (.Tuple [u,v] d c) env=pure (some [a,b]):=by
 unfold swappedStores;dsimp only[pure_bind];generalize n:List.filterMap _ [Expr.Name a p,Expr.Name b q]=N
 obtain rfl:N=[a,b]:=by refine Y n.symm<|Y lF<|Y lF<|Y List.filterMap_nil ?_;dsimp only;refine Y e<|Y g<|Y i<|Y (show(some NameKind.local==some NameKind.local)=true from rfl)<|Y (show(p.line==(Option.map (λx:Expr=>x.pos.line) [Expr.Name a p,Expr.Name b q].head?).getD 0)=true from d1 p.line) ?_;rfl
 have o:∀f:Expr->Bool,(∀u,d8 u=false->f u=false)->[u,v].any f=false:=λf h=>by refine Y List.any_cons<|Y List.any_cons<|Y List.any_nil<|Y (h u hs.1)<|Y (h v hs.2) ?_;rfl
 refine Y hf<|Y (o _ (λu h=>by cases u<;>first|rfl|exact e4 h))<|Y j<|Y l<|Y m ?_;rfl
theorem C4{a:Str}{p tp b:Pos}{k c:Nat}{vs:List Expr}{xs:List Expr}{x:Nat}{y:Pos}:swappedStores [.Tuple [.Name a p,.Tuple xs x y] k tp] (.Tuple vs c b) env=pure none:=by
 unfold swappedStores;dsimp only[pure_bind];generalize d:List.filterMap _ [Expr.Name a p,Expr.Tuple xs x y]=N
 have e:N.length<2:=by
  refine Y d.symm<|Y lF<|Y lF<|Y List.filterMap_nil ?_;dsimp only;split
  .exact Nat.zero_lt_two
  .exact Nat.one_lt_two
 have:(N.length !=[Expr.Name a p,Expr.Tuple xs x y].length||N.eraseDups.length !=N.length)=true:=by refine Y (show(N.length !=[Expr.Name a p,Expr.Tuple xs x y].length)=true from hG.mpr<|bk e) ?_;rfl
 refine Y (az this) ?_;split
 .rfl
 .split<;>rfl
end
noncomputable def C5{C:Stmt->Type}(d:∀s,C s)(s:Stmt)(re:∀e p,C (.Return e p))(asg:∀t e p,C (.Assign t e p))(g:∀e p,C (.Expr e p))(ite:∀c a b p,C (.If c a b p))(fo:∀t i b o p,C (.For t i b o p))(j:∀c b o p,C (.While c b o p))(tr:∀a h o f p,C (.Try a h o f p)):C s:=
 match s with
 | .Return e p=>re e p
 | .Assign t e p=>asg t e p
 | .Expr e p=>g e p
 | .If c a b p=>ite c a b p
 | .For t i b o p=>fo t i b o p
 | .While c b o p=>j c b o p
 | .Try a h o f p=>tr a h o f p
 |s=>d s
section
variable{T:Tb}{c:CE}(r:∀e,XE T c e)
noncomputable def nj(t e:Expr)(pos:Pos)(h:d8 t=false)(a:(∀b env,swapsWithSole [t] e b env=pure false)/\∀env,f5 c env->swappedStores [t] e env=pure none):XS T c (.Assign [t] e pos):=⟨λfn=>aB ((gJ r t).1.1 fn)<|(r e).1 fn,λW O=>ve (a.1 _ _) (a.2 _ O) h ((r e).2 W O).ev<|(gJ r t).2.1 W O⟩
noncomputable def C6(x:Str)(d:Pos)(e:Expr)(pos:Pos)(m:XC T c e)(g:(∀j env,∃b,swapsWithSole [.Name x d] e j env=pure b)/\∀env,swappedStores [.Name x d] e env=pure none):XS T c (.Assign [.Name x d] e pos):=match idxOf x c.Γ.names with
 |some i=>if h:x∈c.locs\/x∈c.Γ.cells then⟨λfn=>aB (aj i.1) (m.1 fn),λ{S fn n A env} W O=>(g.1 pos.line env).elim λb a=>match b,a with
   |false,a=>ve a (g.2 _) rfl (m.2 W O).1.ev<|q4 O.f i.2<|h.imp (O.loc x) id
   |true,a=>(m.2 W O).2 x d pos i.1 a i.2 (h.imp (O.loc x) id)⟩ else dy
 |none=>dy
noncomputable def jZ(e d:Expr)(k:Nat)(tp:Pos)(u v:Expr)(g:Nat)(l pos:Pos):XS T c (.Assign [.Tuple [e,d] k tp] (.Tuple [u,v] g l) pos):=
 dk (C:=λe=>XS T c (.Assign [.Tuple [e,d] k tp] (.Tuple [u,v] g l) pos)) (λZ=>dy) e (nm:=λa p=>dk (C:=λd=>XS T c (.Assign [.Tuple [.Name a p,d] k tp] (.Tuple [u,v] g l) pos)) (λZ=>dy) d
  (tp:=λxs x y=>nj r _ _ pos rfl ⟨λZ Z=>rfl,λZ Z=>C4⟩)
  (nm:=λb q=>match idxOf a c.Γ.names,idxOf b c.Γ.names with
   |some i,some j=>if h:(a∈c.locs/\b∈c.locs/\i.1≠j.1)/\q.line=p.line/\[a,b].eraseDups=[a,b]/\(d8 u=false/\d8 v=false)/\[u,v].all (foldedForSure 8)=false/\[u,v].all (constantsAlone 8)=false then
     ⟨λfn=>aB (cB 2<|bb (aj i.1)<|bb (aj j.1) cu)<|(r<|.Tuple [u,v] g l).1 fn,λW O=>BF W.hh O.f rfl (C3 (C1 O.f) (O.loc _ h.1.1) (O.loc _ h.1.2.1) h.2.1 h.2.2.1 h.2.2.2.1 h.2.2.2.2.1 h.2.2.2.2.2) i.2 j.2 h.1.2.2 (.inl<|O.loc _ h.1.1) (.inl<|O.loc _ h.1.2.1) ((r _).2 W O).ev⟩ else dy
   |_,_=>dy))
noncomputable def C7(ts:List Expr)(k:Nat)(tp:Pos)(e:Expr)(pos:Pos):XS T c (.Assign [.Tuple ts k tp] e pos):=(oY e).elim (lZ (C:=λts=>XS T c (.Assign [.Tuple ts k tp] e pos)) (λZ=>dy) ts λa b=>dk (C:=λe=>XS T c (.Assign [.Tuple [a,b] k tp] e pos)) (λZ=>dy) e
  (tp:=λvs d f=>lZ (C:=λvs=>XS T c (.Assign [.Tuple [a,b] k tp] (.Tuple vs d f) pos)) (λZ=>dy) vs λu v=>jZ r a b k tp u v d f pos))
 λq=>nj r _ e pos rfl ⟨q.down.1 _,λZ Z=>q.down.2 _ _ _ _⟩
noncomputable def C8(b:∀elt gens scope pos,Option (XC T c (.ListComp elt gens scope pos)))(t e:Expr)(pos:Pos):XS T c (.Assign [t] e pos):=dk (C:=λt=>XS T c<|.Assign [t] e pos) (λZ=>dy) t (tp:=λts k tp=>C7 r ts k tp e pos)
 (ab:=λo n p=>(oY e).elim dy λq=>nj r _ e pos rfl ⟨q.down.1 _,λZ Z=>rfl⟩) (sb:=λo i p=>(oY e).elim dy λq=>nj r _ e pos rfl ⟨q.down.1 _,λZ Z=>rfl⟩)
 (nm:=λx a=>(oY e).elim (dk (C:=λe=>XS T c<|.Assign [.Name x a] e pos) (λZ=>dy) e (lc:=λelt gens scope p=>(b elt gens scope p).elim dy λm=>C6 x a _ pos m ⟨λZ Z=>⟨_,rfl⟩,λZ=>rfl⟩)) λq=>nj r _ e pos rfl ⟨q.down.1 _,λZ Z=>rfl⟩)
variable(d:∀ss,rz T c ss)
noncomputable def C9(e:Expr)(pos:Pos):XS T c (.Expr e pos):=dk (C:=λe=>XS T c<|.Expr e pos) (λZ=>dy) e (cl:=λf as ks p=>⟨λfn=>cn<|(r<|.Call f as ks p).1 fn,λW O=>BE (C2 O.f) ((r _).2 W O).ev⟩)
noncomputable def Dc(t i:Expr)(b o:List Stmt)(p:Pos):XS T c (.For t i b o p):=jX (C:=λo=>XS T c<|.For t i b o p) (λZ=>dy) o<|(rF r i<|i4 t).elim dy λsrc=>⟨λfn=>forM (src.1 fn) ((gJ r t).1.1 fn)<|(d b).1 fn,λW O=>BL W.hh O.f (src.2 W O).1 id (src.2 W O).2 ((gJ r t).2.1 W O)<|(d b).2 W O⟩
noncomputable def Dd(a:List Stmt)(h:List ExceptHandler)(o f:List Stmt)(p:Pos):XS T c (.Try a h o f p):=jX (C:=λo=>XS T c (.Try a h o f p)) (λZ=>dy) o (jX (C:=λf=>XS T c (.Try a h [] f p)) (λZ=>dy) f (match h with
 |[]=>dy
 |h::hs=>⟨λfn=>(d a).1 fn,λW O=>BH ((d a).2 W O)⟩))
noncomputable def De(f:∀elt gens scope pos,Option (XC T c (.ListComp elt gens scope pos)))(s:Stmt):XS T c s:=C5 (C:=XS T c) (λZ=>dy) s
 (λe p=>match e with|some e=>⟨λfn=>a5<|(r e).1 fn,λW O=>vd ((r e).2 W O).ev⟩|none=>dy)
 (λts e p=>lY (C:=λts=>XS T c<|.Assign ts e p) (λZ=>dy) ts λt=>C8 r f t e p)
 (C9 r) (λk a b p=>⟨λfn=>bW ((oX r k).1 fn) ((d a).1 fn)<|(d b).1 fn,λW O=>BC ((oX r k).2 W O) ((d a).2 W O)<|(d b).2 W O⟩) (Dc r d)
 (λk b o p=>jX (C:=λo=>XS T c<|.While k b o p) (λZ=>dy) o ⟨λfn=>i3 ((oX r k).1 fn)<|(d b).1 fn,λW O=>BG ((oX r k).2 W O)<|(d b).2 W O⟩) (Dd d)
noncomputable def oZ(st:∀s,XS T c s):∀ss,rz T c ss
 |[]=>⟨λZ=>av,λZ Z=>vb⟩
 |s::ss=>⟨λfn=>ag ((st s).1 fn)<|(oZ st ss).1 fn,λW O=>vc ((st s).2 W O)<|(oZ st ss).2 W O⟩
end
noncomputable def o1(T:Tb)(c:CE)(k n:Nat):∀ss,rz T c ss:=Nat.rec (oZ λZ=>dy) (λZ a=>oZ<|De (comp T k c) a<|vN (comp T k) c) n
noncomputable abbrev i9:=Addr->Option (Nat×Nat×(aG->aE))
noncomputable def ea(tb:i9)(pr:aG)(n:Nat):aG:=Nat.rec (λZ Z Z Z=>False) (λZ fn f vs a P=>match tb f with
 |some q=>vs.length=q.1/\q.2.2 fn (dw vs q.2.1) a λfl Z b=>P (eX fl) b
 |none=>pr f vs a P) n
inductive rH(S:aN)(T:Tb)(f:Addr):Nat×Nat×(aG->aE)->Prop
 |mk (D:FuncData) (Γ:bl) (a rest:List Str) (body:List Stmt) (locs:List Str) (k j:Nat):rt S f D Γ a rest body->(∀m∈locs,D.scope.names.lookup m=some .local)->rH S T f (a.length,rest.length,(o1 T ⟨Γ,locs,[]⟩ k j body).1)
structure Known(S:aN)(T:Tb)(tb:i9)(pr:aG):Prop where
 attr:∀x∈T.attrs,x∈S.attrs
 kX:∀x a,T.fns x=some a->S.mg x=some (.ref a)/\keepIn S.K (.ref a)=true
 oS:∀x c f,T.ry x=some (c,f)->S.mg x=some (.ref c)/\S.cls c=true/\findIn S.K (.ref c) "__init__"=some (some<|.ref f)/\typeIn S.K (.ref f)=some (.type "function")/\keepIn S.K (.ref c)=true
 oT:∀x v,T.vals x=some v->∃y,S.mg x=some y/\VR [] S.B v y
 oU:qY S T.el
 pb:∀b,S.mg (ek b)=none/\S.mb (ek b)=some (i0 b)
 enum:S.mg "enumerate"=none/\S.mb "enumerate"=some (.type "enumerate")
 zip:S.mg "zip"=none/\S.mb "zip"=some (.type "zip")
 sset:∀A n,fV A n->kW S A "sorted" hk
 oV:∀A n,fV A n->kW S A "len" lX
 prim:∀n,hP S pr<|n+1
 fns:∀f q,tb f=some q->rH S T f q
theorem Known.wd{S:aN}{T:Tb}{tb:i9}{pr fn:aG}{n:Nat}{A:Around}(K:Known S T tb pr)(h:hP S fn n)(r:fV A n):Wd T S fn n A:=⟨K.attr,K.kX,K.oS,K.oT,K.oU,K.pb,K.enum,K.zip,K.sset A n r,K.oV A n r,h,r⟩
theorem Known.spec{S:aN}{T:Tb}{tb:i9}{pr:aG}(K:Known S T tb pr):∀n,hP S (ea tb pr n) n
 |0=>λf A r b a s vs xs P R st vr e=>e.elim
 |n+1=>λf A r b a s vs xs P R st vr e c=>by
  have e':(match tb f with
   |some q=>vs.length=q.1/\q.2.2 (ea tb pr n) (dw vs q.2.1) a λfl Z d=>P (eX fl) d
   |none=>pr f vs a P):=e
  cases h:tb f with
  |none=>rw[h] at e';exact K.prim n f A r b a s vs xs P R st vr e' c
  |some q=>
   rw[h] at e';cases K.fns f q h with|mk D Γ i rest body locs k j X g=>
   exact vC X r (λL=>(o1 T ⟨Γ,locs,[]⟩ k j body).2 (K.wd (Known.spec K n)<|r.deeper _) ⟨X.env L,g⟩) st vr e'.1 e'.2 c
noncomputable abbrev pw:Program:=PySem.Challenge.pw_pq0092_01
noncomputable def cC(k:Nat):Stmt:=pw.main.body.getD k<|.Pass ⟨0,0,0,0⟩
noncomputable def rI(s:Stmt):List Stmt:=match s with
 | .ClassDef _ _ _ b .. =>b
 |_=>[]
noncomputable def bX(k j:Nat):Stmt:=(rI<|cC k).getD j<|.Pass ⟨0,0,0,0⟩
noncomputable def vr(i:Nat):M:=λl a P=>kI l i λv=>P v a
noncomputable def cst(v:V):M:=λZ a P=>P v a
noncomputable def K7:M:=λZ Z Z=>False
noncomputable def k3:aE:=λZ Z Z=>False
noncomputable def b2(fn:aG)(a:Addr)(es:Ms):M:=aC (λb vs P=>fn a vs b P) es
noncomputable def j0:V:= .tup [.tup [.str "g",.tup [.str "?x"],.tup [.str "?y"]],.tup [.str "g",.tup [.str "?y"],.tup [.str "?x"]]]
noncomputable def vO:V:= .tup [.str "together",.str "turns",.str "rests"]
noncomputable def l1:List Str:=["depths","weights","numbers","nodes","merged","lots","above","waiting","known","forest","edges","unions","bank","heap","needs","right","left","name","wakes","rules","rests","rounds","history","placer","walker","options"]
noncomputable def vP:List (Str×Addr):=[("is_variable",86),("variables",91),("parts",96),("renamed",101),("is_given",582),("without_given",587),("_law_next",601),("_law_leaf",608),("_law_side",615),("_law_pairs",622),("_law_plain",629),("_law_inside",634),("_law_follows",639),("is_op",79)]
noncomputable def vQ:List (Str×Addr×Addr):=[("Bank",203,115),("Unions",285,221),("Heap",415,303),("Walker",453,433),("Rule",480,470),("Placer",518,498),("Runner",573,534)]
noncomputable def vR:List (Str×V):=[("_law_swap",j0),("ORDERS",vO)]
noncomputable def vS:List (Addr×List (Str×Addr)):=[(203,[("size",122),("take",127),("require",134),("op",160),("kids",167),("node",174)]),(285,[("make",228),("size",235),("find",242),("merge",249),("members",256),("classes",261)]),(415,[("size",310),("node",315),("add",320),("put",325),("look_at",332),("find",339),("are_like",346),("merge",353),("join",360),("settle",367),("classes",381),("members",388),("nodes_of",393)]),(453,[("extended",438),("found_in",445),("found",450)]),(480,[("turned",477)]),(518,[("put",503)]),(573,[("is_full",541),("matches",548),("apply",553),("apply_all",560),("one_round",565),("run",570)])]
noncomputable def aY(c:Addr)(n:Str):Option Addr:=(vS.lookup c).bind λl=>l.lookup n
noncomputable def o2:Tb:=⟨l1,λx=>vP.lookup x,λx=>vQ.lookup x,λx=>vR.lookup x,aY⟩
noncomputable def namesOf(a:Scope)(f:NameKind->Bool):List Str:=(a.names.filter λx=>f x.2).map (·.1)
noncomputable def o3(k:NameKind):Bool:=k== .local||k== .cell
noncomputable def rJ(a:Arguments)(b:Scope):bl:=⟨a.args.map (·.arg)++(namesOf b o3).filter λn=> !(a.args.map (·.arg)).contains n,namesOf b (· == .globalImplicit),namesOf b (· == .cell)⟩
noncomputable def vT(st:Stmt):Option (Nat×Nat×(aG->aE)):=match st with
 | .FunctionDef _ a b _ _ _ c _ _ _=>some ((a.args.map (·.arg)).length,((namesOf c o3).filter λn=> !(a.args.map (·.arg)).contains n).length,(o1 o2 ⟨rJ a c,namesOf c (· == .local),[]⟩ 12 6 b).1)
 |_=>none
noncomputable def l2:List (Addr×Stmt):=[(86,cC 7),(91,cC 8),(96,cC 9),(101,cC 10),(115,bX 11 0),(122,bX 11 1),(127,bX 11 2),(134,bX 11 3),(160,bX 11 7),(167,bX 11 8),(174,bX 11 9),(221,bX 13 0),(228,bX 13 1),(235,bX 13 2),(242,bX 13 3),(249,bX 13 4),(256,bX 13 5),(261,bX 13 6),(303,bX 15 0),(310,bX 15 1),(315,bX 15 2),(320,bX 15 3),(325,bX 15 4),(332,bX 15 5),(339,bX 15 6),(346,bX 15 7),(353,bX 15 8),(360,bX 15 9),(367,bX 15 10),(381,bX 15 12),(388,bX 15 13),(393,bX 15 14),(433,bX 17 0),(438,bX 17 1),(445,bX 17 2),(450,bX 17 3),(470,bX 20 0),(477,bX 20 1),(498,bX 21 0),(503,bX 21 1),(534,bX 22 0),(541,bX 22 1),(548,bX 22 2),(553,bX 22 3),(560,bX 22 4),(565,bX 22 5),(570,bX 22 6),(582,cC 24),(587,cC 25),(601,cC 28),(608,cC 29),(615,cC 30),(622,cC 31),(629,cC 32),(634,cC 33),(639,cC 34),(644,cC 35)]
noncomputable def bc:i9:=λa=>(l2.lookup a).bind vT
noncomputable def Df(fn:aG):aE:=(ag (a5<|andM (aH .Eq (aC (aD .len)<|H (vr 0) aa)<|cst<|.int 1)<|aH .Eq (kR (ax (vr 0)<|cst<|.int 0) 1)<|cst<|.str "?") av)
theorem vU:bc 86=some (1,0,Df):=by kernel_rfl
noncomputable def Dg(fn:aG):aE:=(ag (a5<|dV hk<|aS (aI<|b2 fn 96<|H (vr 0) aa) [] 2 (cB 2<|bb (aj 0)<|bb (aj 1) cu) (c1 (b2 fn 86<|H (vr 1) aa) aK)<|aR<|ax (vr 1)<|cst<|.int 0) av)
theorem Dh:bc 91=some (1,0,Dg):=by kernel_rfl
noncomputable def Di(fn:aG):aE:=(ag (aB (aj 1)<|cg<|H (bj<|H (bj aa)<|H (vr 0) aa) aa)<|ag (forM (enumSrc<|c4 (vr 0) 1) (cB 2<|bb (aj 2)<|bb (aj 3) cu)<|ag (cn<|bB (bG .extend) (bH .extend) (vr 1)<|H (aS (aI<|b2 fn 96<|H (vr 3) aa) [2] 2 (cB 2<|bb (aj 1)<|bb (aj 2) cu) aK<|aR<|bj<|H (a9 .Add (bj<|H (vr 0) aa)<|vr 1)<|H (vr 2) aa) aa) av)<|ag (a5<|vr 1) av)
theorem Dj:bc 96=some (1,3,Di):=by kernel_rfl
noncomputable def Dk(fn:aG):aE:=(ag (a5<|a9 .Add (bj<|H (bB (bG .get) (bH .get) (vr 1)<|H (ax (vr 0)<|cst<|.int 0)<|H (ax (vr 0)<|cst<|.int 0) aa) aa)<|aC (aD .tuple)<|H (aS (aI<|c4 (vr 0) 1) [1] 1 (aj 1) aK<|aR<|b2 fn 101<|H (vr 1)<|H (vr 0) aa) aa) av)
theorem Dl:bc 101=some (2,0,Dk):=by kernel_rfl
noncomputable def Dm(fn:aG):aE:=(ag (aB (cA (vr 0) "nodes")<|cg aa)<|ag (aB (cA (vr 0) "numbers") gF)<|ag (aB (cA (vr 0) "weights")<|cg aa)<|ag (aB (cA (vr 0) "depths")<|cg aa) av)
theorem Dn:bc 115=some (1,0,Dm):=by kernel_rfl
noncomputable def Dp(fn:aG):aE:=(ag (a5<|aC (aD .len)<|H (aw (vr 0) "nodes") aa) av)
theorem Dq:bc 122=some (1,0,Dp):=by kernel_rfl
noncomputable def Dr(fn:aG):aE:=(ag (aB (aj 3)<|a9 .Add (bj<|H (vr 1) aa)<|aC (aD .tuple)<|H (vr 2) aa)<|ag (bW (aH .In (vr 3)<|aw (vr 0) "numbers") (ag (a5<|ax (aw (vr 0) "numbers")<|vr 3) av) av)<|ag (cn<|aX fn aY (vr 0) "require"<|H (vr 1) aa)<|ag (forM (aI<|c4 (vr 3) 1) (aj 4)<|ag (bW (notM<|oD (cst<|.int 0) (vr 4)<|aC (aD .len)<|H (aw (vr 0) "nodes") aa) (ag k3 av) av) av)<|ag (aB (e8 (aw (vr 0) "numbers")<|vr 3)<|aC (aD .len)<|H (aw (vr 0) "nodes") aa)<|ag (cn<|bB (bG .append) (bH .append) (aw (vr 0) "nodes")<|H (vr 3) aa)<|ag (cn<|bB (bG .append) (bH .append) (aw (vr 0) "weights")<|H (a9 .Add (cst<|.int 1)<|aC (aD .sum)<|H (aS (aI<|c4 (vr 3) 1) [0] 1 (aj 1) aK<|aR<|ax (aw (vr 0) "weights")<|vr 1) aa) aa)<|ag (cn<|bB (bG .append) (bH .append) (aw (vr 0) "depths")<|H (a9 .Add (cst<|.int 1)<|aC (aD .max)<|H (a9 .Add (aS (aI<|c4 (vr 3) 1) [0] 1 (aj 1) aK<|aR<|ax (aw (vr 0) "depths")<|vr 1)<|cg<|H (cst<|.int 0) aa) aa) aa)<|ag (a5<|a9 .Sub (aC (aD .len)<|H (aw (vr 0) "nodes") aa)<|cst<|.int 1) av)
theorem Ds:bc 127=some (3,2,Dr):=by kernel_rfl
noncomputable def Dt(fn:aG):aE:=(ag (bW (orM (notM<|b2 fn 79<|H (vr 1) aa)<|aH .Eq (ax (vr 1)<|cst<|.int 0)<|cst<|.str "?") (ag k3 av) av) av)
theorem Du:bc 134=some (2,0,Dt):=by kernel_rfl
noncomputable def Dv(fn:aG):aE:=(ag (a5<|ax (ax (aw (vr 0) "nodes")<|vr 1)<|cst<|.int 0) av)
theorem Dw:bc 160=some (2,0,Dv):=by kernel_rfl
noncomputable def Dx(fn:aG):aE:=(ag (a5<|c4 (ax (aw (vr 0) "nodes")<|vr 1) 1) av)
theorem Dy:bc 167=some (2,0,Dx):=by kernel_rfl
noncomputable def Dz(fn:aG):aE:=(ag (a5<|ax (aw (vr 0) "nodes")<|vr 1) av)
theorem K8:bc 174=some (2,0,Dz):=by kernel_rfl
noncomputable def DA(fn:aG):aE:=(ag (aB (cA (vr 0) "above")<|cg aa)<|ag (aB (cA (vr 0) "lots")<|cg aa)<|ag (aB (cA (vr 0) "merged")<|cg aa) av)
theorem DB:bc 221=some (1,0,DA):=by kernel_rfl
noncomputable def DC(fn:aG):aE:=(ag (cn<|bB (bG .append) (bH .append) (aw (vr 0) "above")<|H (aC (aD .len)<|H (aw (vr 0) "above") aa) aa)<|ag (cn<|bB (bG .append) (bH .append) (aw (vr 0) "lots")<|H (cg<|H (aC (aD .len)<|H (aw (vr 0) "lots") aa) aa) aa)<|ag (a5<|a9 .Sub (aC (aD .len)<|H (aw (vr 0) "above") aa)<|cst<|.int 1) av)
theorem DD:bc 228=some (1,0,DC):=by kernel_rfl
noncomputable def DE(fn:aG):aE:=(ag (a5<|aC (aD .len)<|H (aw (vr 0) "above") aa) av)
theorem DG:bc 235=some (1,0,DE):=by kernel_rfl
noncomputable def DH(fn:aG):aE:=(ag (i3 (aH .NotEq (ax (aw (vr 0) "above")<|vr 1)<|vr 1)<|ag (aB (aj 1)<|ax (aw (vr 0) "above")<|vr 1) av)<|ag (a5<|vr 1) av)
theorem DI:bc 242=some (2,0,DH):=by kernel_rfl
noncomputable def DJ(fn:aG):aE:=(ag (aB (cB 2<|bb (aj 3)<|bb (aj 4) cu)<|aC (aD .sorted)<|H (cg<|H (aX fn aY (vr 0) "find"<|H (vr 1) aa)<|H (aX fn aY (vr 0) "find"<|H (vr 2) aa) aa) aa)<|ag (bW (aH .Eq (vr 3)<|vr 4) (ag (a5<|cst .none) av) av)<|ag (aB (e8 (aw (vr 0) "above")<|vr 4)<|vr 3)<|ag (cn<|bB (bG .extend) (bH .extend) (ax (aw (vr 0) "lots")<|vr 3)<|H (ax (aw (vr 0) "lots")<|vr 4) aa)<|ag (cn<|bB (bG .append) (bH .append) (aw (vr 0) "merged")<|H (bj<|H (vr 3)<|H (vr 4) aa) aa)<|ag (a5<|bj<|H (vr 3)<|H (vr 4) aa) av)
theorem DK:bc 249=some (3,2,DJ):=by kernel_rfl
noncomputable def DL(fn:aG):aE:=(ag (a5<|aC (aD .sorted)<|H (ax (aw (vr 0) "lots")<|aX fn aY (vr 0) "find"<|H (vr 1) aa) aa) av)
theorem DM:bc 256=some (2,0,DL):=by kernel_rfl
noncomputable def DN(fn:aG):aE:=(ag (a5<|aS (aI<|aC (aD .range)<|H (aC (aD .len)<|H (aw (vr 0) "above") aa) aa) [0] 1 (aj 1) (c1 (aH .Eq (ax (aw (vr 0) "above")<|vr 1)<|vr 1) aK)<|aR<|vr 1) av)
theorem DO:bc 261=some (1,0,DN):=by kernel_rfl
noncomputable def DP(fn:aG):aE:=(ag (aB (cA (vr 0) "bank")<|gG fn 203 115 aa)<|ag (aB (cA (vr 0) "unions")<|gG fn 285 221 aa)<|ag (aB (cA (vr 0) "edges")<|cg aa)<|ag (aB (cA (vr 0) "forest")<|cg aa)<|ag (aB (cA (vr 0) "known") gF)<|ag (aB (cA (vr 0) "above") gF)<|ag (aB (cA (vr 0) "waiting")<|cg aa) av)
theorem DQ:bc 303=some (1,0,DP):=by kernel_rfl
noncomputable def DR(fn:aG):aE:=(ag (a5<|aX fn aY (aw (vr 0) "bank") "size" aa) av)
theorem DS:bc 310=some (1,0,DR):=by kernel_rfl
noncomputable def DT(fn:aG):aE:=(ag (a5<|a9 .Add (bj<|H (aX fn aY (aw (vr 0) "bank") "op"<|H (vr 1) aa) aa)<|aC (aD .tuple)<|H (aS (aI<|aX fn aY (aw (vr 0) "bank") "kids"<|H (vr 1) aa) [0] 1 (aj 1) aK<|aR<|aX fn aY (vr 0) "find"<|H (vr 1) aa) aa) av)
theorem DU:bc 315=some (2,0,DT):=by kernel_rfl
noncomputable def DV(fn:aG):aE:=(ag (aB (aj 3)<|aX fn aY (aw (vr 0) "bank") "take"<|H (vr 1)<|H (vr 2) aa)<|ag (bW (aH .Lt (vr 3)<|aX fn aY (aw (vr 0) "unions") "size" aa) (ag (a5<|vr 3) av) av)<|ag (cn<|aX fn aY (aw (vr 0) "unions") "make" aa)<|ag (aB (e8 (aw (vr 0) "above")<|vr 3)<|cg aa)<|ag (forM (aI<|dV hk<|aS (aI<|vr 2) [0] 1 (aj 1) aK<|aR<|aX fn aY (vr 0) "find"<|H (vr 1) aa) (aj 4)<|ag (cn<|bB (bG .append) (bH .append) (ax (aw (vr 0) "above")<|vr 4)<|H (vr 3) aa) av)<|ag (cn<|aX fn aY (vr 0) "look_at"<|H (vr 3) aa)<|ag (a5<|vr 3) av)
theorem DW:bc 320=some (3,2,DV):=by kernel_rfl
noncomputable def DX(fn:aG):aE:=(ag (a5<|aX fn aY (vr 0) "add"<|H (ax (vr 1)<|cst<|.int 0)<|H (aC (aD .tuple)<|H (aS (aI<|c4 (vr 1) 1) [0] 1 (aj 1) aK<|aR<|aX fn aY (vr 0) "put"<|H (vr 1) aa) aa) aa) av)
theorem DY:bc 325=some (2,0,DX):=by kernel_rfl
noncomputable def DZ(fn:aG):aE:=(ag (aB (aj 2)<|bB (bG .eJ) (bH .eJ) (aw (vr 0) "known")<|H (aX fn aY (vr 0) "node"<|H (vr 1) aa)<|H (vr 1) aa)<|ag (bW (aH .NotEq (aX fn aY (vr 0) "find"<|H (vr 2) aa)<|aX fn aY (vr 0) "find"<|H (vr 1) aa) (ag (cn<|aX fn aY (vr 0) "join"<|H (vr 2)<|H (vr 1)<|H (bj<|H (cst<|.str "like") aa) aa) av) av) av)
theorem D0:bc 332=some (2,1,DZ):=by kernel_rfl
noncomputable def D1(fn:aG):aE:=(ag (a5<|aX fn aY (aw (vr 0) "unions") "find"<|H (vr 1) aa) av)
theorem D2:bc 339=some (2,0,D1):=by kernel_rfl
noncomputable def D3(fn:aG):aE:=(ag (a5<|aH .Eq (aX fn aY (vr 0) "find"<|H (vr 1) aa)<|aX fn aY (vr 0) "find"<|H (vr 2) aa) av)
theorem D4:bc 346=some (3,0,D3):=by kernel_rfl
noncomputable def D5(fn:aG):aE:=(ag (a5<|aX fn aY (vr 0) "join"<|H (vr 1)<|H (vr 2)<|H (vr 3) aa) av)
theorem D6:bc 353=some (4,0,D5):=by kernel_rfl
noncomputable def D7(fn:aG):aE:=(ag (cn<|bB (bG .append) (bH .append) (aw (vr 0) "edges")<|H (bj<|H (vr 1)<|H (vr 2)<|H (vr 3) aa) aa)<|ag (aB (aj 4)<|aX fn aY (aw (vr 0) "unions") "merge"<|H (vr 1)<|H (vr 2) aa)<|ag (bW (aH .Is (vr 4)<|cst .none) (ag (a5<|cst<|.bool false) av) av)<|ag (aB (cB 2<|bb (aj 5)<|bb (aj 6) cu)<|vr 4)<|ag (cn<|bB (bG .append) (bH .append) (aw (vr 0) "forest")<|H (a9 .Sub (aC (aD .len)<|H (aw (vr 0) "edges") aa)<|cst<|.int 1) aa)<|ag (cn<|bB (bG .extend) (bH .extend) (aw (vr 0) "waiting")<|H (ax (aw (vr 0) "above")<|vr 6) aa)<|ag (aB (e8 (aw (vr 0) "above")<|vr 5)<|a9 .Add (ax (aw (vr 0) "above")<|vr 5)<|bB (bG .gH) (bH .gH) (aw (vr 0) "above")<|H (vr 6) aa)<|ag (a5<|cst<|.bool true) av)
theorem D8:bc 360=some (4,3,D7):=by kernel_rfl
noncomputable def D9(fn:aG):aE:=(ag (i3 (aH .Gt (aC (aD .len)<|H (aw (vr 0) "waiting") aa)<|cst<|.int 0)<|ag (cn<|aX fn aY (vr 0) "look_at"<|H (bB (bG .pop) (bH .pop) (aw (vr 0) "waiting") aa) aa) av) av)
theorem Ea:bc 367=some (1,0,D9):=by kernel_rfl
noncomputable def Eb(fn:aG):aE:=(ag (a5<|aX fn aY (aw (vr 0) "unions") "classes" aa) av)
theorem Ec:bc 381=some (1,0,Eb):=by kernel_rfl
noncomputable def Ed(fn:aG):aE:=(ag (a5<|aX fn aY (aw (vr 0) "unions") "members"<|H (vr 1) aa) av)
theorem Ee:bc 388=some (2,0,Ed):=by kernel_rfl
noncomputable def Ef(fn:aG):aE:=(ag (a5<|dV hk<|aS (aI<|aX fn aY (vr 0) "members"<|H (vr 1) aa) [0] 1 (aj 1) aK<|aR<|aX fn aY (vr 0) "node"<|H (vr 1) aa) av)
theorem Eh:bc 393=some (2,0,Ef):=by kernel_rfl
noncomputable def Ei(fn:aG):aE:=(ag (aB (cA (vr 0) "heap")<|vr 1) av)
theorem Ej:bc 433=some (2,0,Ei):=by kernel_rfl
noncomputable def Ek(fn:aG):aE:=(ag (aB (aj 4)<|ax (vr 3)<|cst<|.int 0)<|ag (bW (b2 fn 86<|H (vr 3) aa) (ag (aB (aj 5)<|aC (aD .dict)<|H (vr 1) aa)<|ag (aB (e8 (vr 5)<|vr 4)<|vr 2)<|ag (a5<|eI (aH .Eq (bB (bG .get) (bH .get) (vr 1)<|H (vr 4)<|H (vr 2) aa)<|vr 2) (cg<|H (vr 5) aa)<|cg aa) av) av)<|ag (aB (aj 6)<|cg aa)<|ag (forM (aI<|aX fn aY (aw (vr 0) "heap") "nodes_of"<|H (vr 2) aa) (aj 7)<|ag (bW (andM (aH .Eq (ax (vr 7)<|cst<|.int 0)<|vr 4)<|aH .Eq (aC (aD .len)<|H (vr 7) aa)<|aC (aD .len)<|H (vr 3) aa) (ag (aB (aj 8)<|cg<|H (vr 1) aa)<|ag (forM (zipSrc (c4 (vr 7) 1)<|c4 (vr 3) 1) (cB 2<|bb (aj 9)<|bb (aj 10) cu)<|ag (aB (aj 8)<|aS (aI<|vr 8) [9,10,0] 2 (aj 3) aK<|e9 (aI<|aX fn aY (vr 2) "extended"<|H (vr 3)<|H (vr 0)<|H (vr 1) aa) (aj 4) aK<|aR<|vr 4) av)<|ag (cn<|bB (bG .extend) (bH .extend) (vr 6)<|H (vr 8) aa) av) av) av)<|ag (a5<|vr 6) av)
theorem rK:bc 438=some (4,7,Ek):=by kernel_rfl
noncomputable def Em(fn:aG):aE:=(ag (aB (aj 3) gF)<|ag (forM (aI<|aX fn aY (vr 0) "extended"<|H gF<|H (aX fn aY (aw (vr 0) "heap") "find"<|H (vr 1) aa)<|H (vr 2) aa) (aj 4)<|ag (aB (e8 (vr 3)<|aC (aD .tuple)<|H (dV oy<|vr 4) aa)<|cst<|.bool true) av)<|ag (a5<|aC (aD .sorted)<|H (vr 3) aa) av)
theorem En:bc 445=some (3,2,Em):=by kernel_rfl
noncomputable def Eo(fn:aG):aE:=(ag (a5<|aS (aI<|aX fn aY (aw (vr 0) "heap") "classes" aa) [1,0] 2 (aj 2) aK<|e9 (aI<|aX fn aY (vr 1) "found_in"<|H (vr 2)<|H (vr 0) aa) (aj 3) aK<|aR<|bj<|H (vr 2)<|H (vr 3) aa) av)
theorem Ep:bc 450=some (2,0,Eo):=by kernel_rfl
noncomputable def Er(fn:aG):aE:=(ag (bW (b2 fn 86<|H (vr 2) aa) (ag k3 av) av)<|ag (aB (aj 5)<|b2 fn 91<|H (vr 2) aa)<|ag (aB (aj 6)<|a9 .Add (cg<|H (bj<|H (cst<|.str "alike")<|H (vr 3)<|H (vr 3) aa) aa)<|aC (aD .list)<|H (vr 4) aa)<|ag (forM (aI<|vr 6) (cB 3<|bb (aj 7)<|bb (aj 8)<|bb (aj 9) cu)<|ag (bW (aH .NotIn (vr 7)<|bj<|H (cst<|.str "alike")<|H (cst<|.str "unlike") aa) (ag k3 av) av)<|ag (aB (aj 10)<|aS (aI<|a9 .Add (b2 fn 91<|H (vr 8) aa)<|b2 fn 91<|H (vr 9) aa) [5] 1 (aj 1) (c1 (aH .NotIn (vr 1)<|vr 0) aK)<|aR<|vr 1)<|ag (bW (aH .NotEq (vr 10)<|cg aa) (ag k3 av) av) av)<|ag (aB (cA (vr 0) "name")<|vr 1)<|ag (aB (cA (vr 0) "left")<|vr 2)<|ag (aB (cA (vr 0) "right")<|vr 3)<|ag (aB (cA (vr 0) "needs")<|aC (aD .tuple)<|H (vr 4) aa) av)
theorem Et:bc 470=some (5,6,Er):=by kernel_rfl
noncomputable def Eu(fn:aG):aE:=(ag (a5<|gG fn 480 470<|H (a9 .Add (aw (vr 0) "name")<|cst<|.str "-back")<|H (aw (vr 0) "right")<|H (aw (vr 0) "left")<|H (aw (vr 0) "needs") aa) av)
theorem Ew:bc 477=some (1,0,Eu):=by kernel_rfl
noncomputable def Ey(fn:aG):aE:=(ag (aB (cA (vr 0) "heap")<|vr 1) av)
theorem Ez:bc 498=some (2,0,Ey):=by kernel_rfl
noncomputable def EA(fn:aG):aE:=(ag (bW (b2 fn 86<|H (vr 1) aa) (ag (a5<|ax (vr 2)<|ax (vr 1)<|cst<|.int 0) av) av)<|ag (a5<|aX fn aY (aw (vr 0) "heap") "add"<|H (ax (vr 1)<|cst<|.int 0)<|H (aS (aI<|c4 (vr 1) 1) [0,2] 1 (aj 2) aK<|aR<|aX fn aY (vr 0) "put"<|H (vr 2)<|H (vr 1) aa) aa) av)
theorem rL:bc 503=some (3,0,EA):=by kernel_rfl
noncomputable def EB(fn:aG):aE:=(ag (bW (aH .NotIn (bB (bG .get) (bH .get) (vr 3)<|H (cst<|.str "order")<|H (cst<|.str "together") aa)<|cst vO) (ag k3 av) av)<|ag (aB (aj 4)<|aS (aI<|vr 2) [] 1 (aj 0) aK<|aR<|aw (vr 0) "name")<|ag (bW (aH .Lt (dV lX<|vr 4)<|aC (aD .len)<|H (vr 4) aa) (ag k3 av) av)<|ag (aB (cA (vr 0) "heap")<|vr 1)<|ag (aB (cA (vr 0) "rules")<|aC (aD .list)<|H (vr 2) aa)<|ag (aB (cA (vr 0) "options")<|vr 3)<|ag (aB (cA (vr 0) "walker")<|gG fn 453 433<|H (vr 1) aa)<|ag (aB (cA (vr 0) "placer")<|gG fn 518 498<|H (vr 1) aa)<|ag (aB (cA (vr 0) "history")<|cg aa)<|ag (aB (cA (vr 0) "rounds")<|cst<|.int 0)<|ag (aB (cA (vr 0) "rests")<|a9 .Mult (cg<|H (cst<|.int 0) aa)<|aC (aD .len)<|H (aw (vr 0) "rules") aa)<|ag (aB (cA (vr 0) "wakes")<|a9 .Mult (cg<|H (cst<|.int 0) aa)<|aC (aD .len)<|H (aw (vr 0) "rules") aa) av)
theorem EC:bc 534=some (4,1,EB):=by kernel_rfl
noncomputable def ED(fn:aG):aE:=(ag (a5<|aH .Gt (aX fn aY (aw (vr 0) "heap") "size" aa)<|bB (bG .get) (bH .get) (aw (vr 0) "options")<|H (cst<|.str "nodes")<|H (cst<|.int 10000) aa) av)
theorem EE:bc 541=some (1,0,ED):=by kernel_rfl
noncomputable def EF(fn:aG):aE:=(ag (bW (aH .Gt (ax (aw (vr 0) "wakes")<|vr 1)<|aw (vr 0) "rounds") (ag (a5<|cst .none) av) av)<|ag (aB (aj 2)<|aX fn aY (aw (vr 0) "walker") "found"<|H (aw (ax (aw (vr 0) "rules")<|vr 1) "left") aa)<|ag (bW (andM (aH .Eq (bB (bG .get) (bH .get) (aw (vr 0) "options")<|H (cst<|.str "order")<|H (cst<|.str "together") aa)<|cst<|.str "rests")<|aH .Gt (aC (aD .len)<|H (vr 2) aa)<|bB (bG .get) (bH .get) (aw (vr 0) "options")<|H (cst<|.str "most")<|H (cst<|.int 100) aa) (ag (aB (e8 (aw (vr 0) "rests")<|vr 1)<|aC (aD .max)<|H (cst<|.int 1)<|H (a9 .Mult (cst<|.int 2)<|ax (aw (vr 0) "rests")<|vr 1) aa)<|ag (aB (e8 (aw (vr 0) "wakes")<|vr 1)<|a9 .Add (a9 .Add (aw (vr 0) "rounds")<|cst<|.int 1)<|ax (aw (vr 0) "rests")<|vr 1)<|ag (cn<|bB (bG .append) (bH .append) (aw (vr 0) "history")<|H (bj<|H (aw (vr 0) "rounds")<|H (aw (ax (aw (vr 0) "rules")<|vr 1) "name")<|H (aC (aD .len)<|H (vr 2) aa)<|H (cst<|.int 0) aa) aa)<|ag (a5<|cst .none) av) av)<|ag (a5<|vr 2) av)
theorem EG:bc 548=some (2,1,EF):=by kernel_rfl
noncomputable def EH(fn:aG):aE:=(ag (aB (aj 3)<|aC (aD .dict)<|H (vr 2) aa)<|ag (bW (aH .NotEq (aw (vr 1) "needs")<|bj aa) (ag (cn<|aX fn aY (aw (vr 0) "heap") "settle" aa) av) av)<|ag (bW (aH .NotEq (aS (aI<|aw (vr 1) "needs") [0,3] 1 (aj 2) (c1 (notM<|aX fn aY (aw (vr 0) "placer") "holds"<|H (vr 2)<|H (vr 1) aa) aK)<|aR<|vr 2)<|cg aa) (ag (a5<|cst<|.bool false) av) av)<|ag (aB (cB 2<|bb (aj 4)<|bb (aj 5) cu)<|bj<|H (aX fn aY (aw (vr 0) "placer") "put"<|H (aw (vr 1) "left")<|H (vr 3) aa)<|H (aX fn aY (aw (vr 0) "placer") "put"<|H (aw (vr 1) "right")<|H (vr 3) aa) aa)<|ag (a5<|aX fn aY (aw (vr 0) "heap") "merge"<|H (vr 4)<|H (vr 5)<|H (bj<|H (cst<|.str "rule")<|H (aw (vr 1) "name")<|H (aC (aD .tuple)<|H (vr 2) aa) aa) aa) av)
theorem EJ:bc 553=some (3,3,EH):=by kernel_rfl
noncomputable def EK(fn:aG):aE:=(ag (aB (aj 3)<|cst<|.int 0)<|ag (forM (aI<|vr 2) (cB 2<|bb (aj 4)<|bb (aj 5) cu)<|ag (bW (andM (notM<|aX fn aY (vr 0) "is_full" aa)<|aX fn aY (vr 0) "apply"<|H (ax (aw (vr 0) "rules")<|vr 1)<|H (vr 5) aa) (ag (aB (aj 3)<|a9 .Add (vr 3)<|cst<|.int 1) av) av) av)<|ag (cn<|bB (bG .append) (bH .append) (aw (vr 0) "history")<|H (bj<|H (aw (vr 0) "rounds")<|H (aw (ax (aw (vr 0) "rules")<|vr 1) "name")<|H (aC (aD .len)<|H (vr 2) aa)<|H (vr 3) aa) aa)<|ag (a5<|vr 3) av)
theorem EL:bc 560=some (3,3,EK):=by kernel_rfl
noncomputable def EM(fn:aG):aE:=(ag (aB (cB 2<|bb (aj 1)<|bb (aj 2) cu)<|bj<|H (cst<|.int 0)<|H (aC (aD .range)<|H (aC (aD .len)<|H (aw (vr 0) "rules") aa) aa) aa)<|ag (cn<|aX fn aY (aw (vr 0) "heap") "settle" aa)<|ag (bW (aH .Eq (bB (bG .get) (bH .get) (aw (vr 0) "options")<|H (cst<|.str "order")<|H (cst<|.str "together") aa)<|cst<|.str "turns") (ag (forM (aI<|vr 2) (aj 3)<|ag (aB (aj 1)<|a9 .Add (vr 1)<|aX fn aY (vr 0) "apply_all"<|H (vr 3)<|H (aX fn aY (vr 0) "matches"<|H (vr 3) aa) aa)<|ag (cn<|aX fn aY (aw (vr 0) "heap") "settle" aa) av) av)<|ag (aB (aj 4)<|aS (aI<|vr 2) [0] 1 (aj 1) aK<|aR<|aX fn aY (vr 0) "matches"<|H (vr 1) aa)<|ag (aB (aj 1)<|aC (aD .sum)<|H (aS (aI<|vr 2) [4,0] 1 (aj 2) (c1 (aH .IsNot (ax (vr 0)<|vr 2)<|cst .none) aK)<|aR<|aX fn aY (vr 1) "apply_all"<|H (vr 2)<|H (ax (vr 0)<|vr 2) aa) aa)<|ag (cn<|aX fn aY (aw (vr 0) "heap") "settle" aa) av)<|ag (aB (cA (vr 0) "rounds")<|a9 .Add (aw (vr 0) "rounds")<|cst<|.int 1)<|ag (a5<|vr 1) av)
theorem EN:bc 565=some (1,4,EM):=by kernel_rfl
noncomputable def EO(fn:aG):aE:=(ag (i3 (aH .Lt (aw (vr 0) "rounds")<|bB (bG .get) (bH .get) (aw (vr 0) "options")<|H (cst<|.str "rounds")<|H (cst<|.int 30) aa)<|ag (aB (aj 1)<|aX fn aY (vr 0) "one_round" aa)<|ag (bW (aX fn aY (vr 0) "is_full" aa) (ag (a5<|cst<|.str "nodes") av) av)<|ag (bW (andM (aH .Eq (vr 1)<|cst<|.int 0)<|aH .Eq (aS (aI<|aw (vr 0) "wakes") [0] 1 (aj 1) (c1 (aH .GtE (vr 1)<|aw (vr 0) "rounds") aK)<|aR<|vr 1)<|cg aa) (ag (a5<|cst<|.str "settled") av) av) av)<|ag (a5<|cst<|.str "rounds") av)
theorem EP:bc 570=some (1,1,EO):=by kernel_rfl
noncomputable def ER(fn:aG):aE:=(ag (aB (cB 2<|bb (aj 4)<|bb (aj 5) cu)<|bj<|H (gG fn 415 303 aa)<|H (aC (aD .list)<|H (vr 0) aa) aa)<|ag (forM (aI<|vr 0) (aj 6)<|ag (ag (cn<|bB (bG .append) (bH .append) (vr 5)<|H (aX fn aY (vr 6) "turned" aa) aa) av) av)<|ag (aB (aj 7)<|aC (aD .dict)<|H (aS (aI<|a9 .Add (b2 fn 91<|H (vr 1) aa)<|b2 fn 91<|H (vr 2) aa) [] 1 (aj 0) aK<|aR<|bj<|H (vr 0)<|H (a9 .Add (cst<|.str "leaf")<|c4 (vr 0) 1) aa) aa)<|ag (aB (cB 2<|bb (aj 8)<|bb (aj 9) cu)<|bj<|H (aX fn aY (vr 4) "put"<|H (b2 fn 101<|H (vr 1)<|H (vr 7) aa) aa)<|H (aX fn aY (vr 4) "put"<|H (b2 fn 101<|H (vr 2)<|H (vr 7) aa) aa) aa)<|ag (cn<|aX fn aY (gG fn 573 534<|H (vr 4)<|H (vr 5)<|H (vr 3) aa) "run" aa)<|ag (a5<|aX fn aY (vr 4) "are_like"<|H (vr 8)<|H (vr 9) aa) av)
theorem ES:bc 582=some (4,6,ER):=by kernel_rfl
noncomputable def ET(fn:aG):aE:=(ag (aB (aj 2)<|aC (aD .list)<|H (vr 0) aa)<|ag (forM (aI<|oE<|vr 0) (aj 3)<|ag (aB (aj 4)<|aS (aI<|vr 2) [3] 1 (aj 1) (c1 (aH .NotEq (aw (vr 1) "name")<|aw (vr 0) "name") aK)<|aR<|vr 1)<|ag (bW (b2 fn 582<|H (vr 4)<|H (aw (vr 3) "left")<|H (aw (vr 3) "right")<|H (vr 1) aa) (ag (aB (aj 2)<|vr 4) av) av) av)<|ag (a5<|vr 2) av)
theorem EU:bc 587=some (2,3,ET):=by kernel_rfl
noncomputable def EV(fn:aG):aE:=(ag (aB (aj 2)<|ax (vr 0)<|cst<|.str "at")<|ag (aB (e8 (vr 0)<|cst<|.str "at")<|a9 .Add (vr 2)<|cst<|.int 1)<|ag (a5<|a9 .Mod (eI (aH .Lt (vr 2)<|aC (aD .len)<|H (ax (vr 0)<|cst<|.str "cells") aa) (ax (ax (vr 0)<|cst<|.str "cells")<|vr 2)<|a9 .Add (a9 .Add (a9 .Mult (a9 .Mult (cst<|.int 6)<|vr 2)<|vr 2)<|a9 .Mult (cst<|.int 5)<|vr 2)<|cst<|.int 2)<|vr 1) av)
theorem EW:bc 601=some (2,1,EV):=by kernel_rfl
noncomputable def EX(fn:aG):aE:=(ag (a5<|bj<|H (ax (cst<|.str "abc")<|b2 fn 601<|H (vr 0)<|H (cst<|.int 3) aa) aa) av)
theorem EY:bc 608=some (1,0,EX):=by kernel_rfl
noncomputable def EZ(fn:aG):aE:=(ag (aB (aj 1)<|b2 fn 601<|H (vr 0)<|H (cst<|.int 5) aa)<|ag (bW (aH .Lt (vr 1)<|cst<|.int 2) (ag (a5<|b2 fn 608<|H (vr 0) aa) av) av)<|ag (bW (aH .Eq (vr 1)<|cst<|.int 2) (ag (a5<|bj<|H (cst<|.str "f")<|H (b2 fn 608<|H (vr 0) aa) aa) av) av)<|ag (a5<|eI (aH .Eq (vr 1)<|cst<|.int 3) (bj<|H (cst<|.str "g")<|H (b2 fn 608<|H (vr 0) aa)<|H (b2 fn 608<|H (vr 0) aa) aa)<|bj<|H (cst<|.str "f")<|H (bj<|H (cst<|.str "f")<|H (b2 fn 608<|H (vr 0) aa) aa) aa) av)
theorem E0:bc 615=some (1,1,EZ):=by kernel_rfl
noncomputable def E1(fn:aG):aE:=(ag (aB (aj 1)<|cg aa)<|ag (forM (aI<|aC (aD .range)<|H (a9 .Add (cst<|.int 2)<|b2 fn 601<|H (vr 0)<|H (cst<|.int 2) aa) aa) (aj 2)<|ag (aB (aj 3)<|b2 fn 601<|H (vr 0)<|H (cst<|.int 6) aa)<|ag (bW (aH .Eq (vr 3)<|cst<|.int 5) (ag (cn<|bB (bG .append) (bH .append) (vr 1)<|H (cst j0) aa) av)<|ag (bW (andM (aH .Eq (vr 3)<|cst<|.int 4)<|aH .NotEq (vr 1)<|cg aa) (ag (cn<|bB (bG .append) (bH .append) (vr 1)<|H (ax (vr 1)<|b2 fn 601<|H (vr 0)<|H (aC (aD .len)<|H (vr 1) aa) aa) aa) av)<|ag (cn<|bB (bG .append) (bH .append) (vr 1)<|H (bj<|H (b2 fn 615<|H (vr 0) aa)<|H (b2 fn 615<|H (vr 0) aa) aa) aa) av) av) av)<|ag (a5<|vr 1) av)
theorem E2:bc 622=some (1,3,E1):=by kernel_rfl
noncomputable def E3(fn:aG):aE:=(ag (bW (aH .NotEq (vr 0)<|cst j0) (ag (a5<|vr 0) av) av)<|ag (a5<|bj<|H (bj<|H (cst<|.str "g")<|H (bj<|H (cst<|.str "own1") aa)<|H (bj<|H (cst<|.str "own2") aa) aa)<|H (bj<|H (cst<|.str "g")<|H (bj<|H (cst<|.str "own2") aa)<|H (bj<|H (cst<|.str "own1") aa) aa) aa) av)
theorem E4:bc 629=some (1,0,E3):=by kernel_rfl
noncomputable def E5(fn:aG):aE:=(ag (a5<|a9 .Add (cg<|H (vr 0) aa)<|aS (aI<|c4 (vr 0) 1) [] 2 (aj 0) aK<|e9 (aI<|b2 fn 634<|H (vr 0) aa) (aj 1) aK<|aR<|vr 1) av)
theorem E6:bc 634=some (1,0,E5):=by kernel_rfl
noncomputable def E7(fn:aG):aE:=(ag (aB (cB 2<|bb (aj 2)<|bb (cB 2<|bb (aj 3)<|bb (aj 4) cu) cu)<|bj<|H (aS (aI<|vr 0) [] 1 (aj 0) (c1 (aH .NotEq (vr 0)<|cst j0) aK)<|aR<|vr 0)<|H (b2 fn 629<|H (vr 1) aa) aa)<|ag (aB (aj 5)<|aH .Lt (aC (aD .len)<|H (vr 2) aa)<|aC (aD .len)<|H (vr 0) aa)<|ag (aB (aj 6)<|dV hk<|aS (aI<|a9 .Add (vr 2)<|cg<|H (bj<|H (vr 3)<|H (vr 4) aa) aa) [] 3 (aj 0) aK<|e9 (aI<|vr 0) (aj 1) aK<|e9 (aI<|b2 fn 634<|H (vr 1) aa) (aj 2) aK<|aR<|vr 2)<|ag (bW (vr 5) (ag (aB (aj 6)<|dV hk<|a9 .Add (vr 6)<|aS (aI<|vr 6) [] 1 (aj 0) (c1 (aH .Eq (ax (vr 0)<|cst<|.int 0)<|cst<|.str "g") aK)<|aR<|bj<|H (cst<|.str "g")<|H (ax (vr 0)<|cst<|.int 2)<|H (ax (vr 0)<|cst<|.int 1) aa)<|ag (aB (aj 2)<|a9 .Add (vr 2)<|aS (aI<|vr 6) [] 1 (aj 0) (c1 (aH .Eq (ax (vr 0)<|cst<|.int 0)<|cst<|.str "g") aK)<|aR<|bj<|H (vr 0)<|H (bj<|H (cst<|.str "g")<|H (ax (vr 0)<|cst<|.int 2)<|H (ax (vr 0)<|cst<|.int 1) aa) aa) av) av)<|ag (aB (aj 8)<|aC (aD .dict)<|H (aS (enumSrc<|vr 6) [] 2 (cB 2<|bb (aj 0)<|bb (aj 1) cu) aK<|aR<|bj<|H (vr 1)<|H (vr 0) aa) aa)<|ag (aB (aj 9)<|cst .none)<|ag (i3 (aH .NotEq (vr 9)<|vr 8)<|ag (aB (aj 9)<|aC (aD .dict)<|H (dV lS<|vr 8) aa)<|ag (forM (aI<|vr 2) (cB 2<|bb (aj 10)<|bb (aj 11) cu)<|ag (aB (aj 8)<|aC (aD .dict)<|H (aS (aI<|vr 6) [8,10,11] 1 (aj 3) aK<|aR<|bj<|H (vr 3)<|H (eI (aH .Eq (ax (vr 0)<|vr 3)<|ax (vr 0)<|vr 2) (ax (vr 0)<|vr 1)<|ax (vr 0)<|vr 3) aa) aa) av)<|ag (aB (aj 12) gF)<|ag (forM (aI<|vr 6) (aj 7)<|ag (aB (aj 13)<|a9 .Add (bj<|H (ax (vr 7)<|cst<|.int 0) aa)<|aC (aD .tuple)<|H (aS (aI<|c4 (vr 7) 1) [8] 1 (aj 1) aK<|aR<|ax (vr 0)<|vr 1) aa)<|ag (bW (aH .NotEq (bB (bG .eJ) (bH .eJ) (vr 12)<|H (vr 13)<|H (ax (vr 8)<|vr 7) aa)<|ax (vr 8)<|vr 7) (ag (aB (aj 14)<|ax (vr 8)<|vr 7)<|ag (aB (aj 8)<|aC (aD .dict)<|H (aS (aI<|vr 6) [14,8,13,12] 1 (aj 4) aK<|aR<|bj<|H (vr 4)<|H (eI (aH .Eq (ax (vr 1)<|vr 4)<|vr 0) (ax (vr 3)<|vr 2)<|ax (vr 1)<|vr 4) aa) aa) av) av) av) av)<|ag (a5<|aH .Eq (ax (vr 8)<|vr 3)<|ax (vr 8)<|vr 4) av)
theorem E8:bc 639=some (2,13,E7):=by kernel_rfl
noncomputable def E9(fn:aG):aE:=(ag (aB (aj 1)<|oG (cst<|.str "cells") (aS (aI<|kR (vr 0) 63) [] 1 (aj 0) aK<|aR<|a9 .Mod (aC (aD .abs)<|H (vr 0) aa)<|cst<|.int 1000003) (cst<|.str "at")<|cst<|.int 0)<|ag (aB (aj 2)<|b2 fn 622<|H (vr 1) aa)<|ag (aB (aj 4)<|aS (enumSrc<|vr 2) [] 2 (cB 2<|bb (aj 0)<|bb (aj 1) cu) aK<|aR<|gG fn 480 470<|H (a9 .Add (cst<|.str "r")<|aC (aD .str)<|H (vr 0) aa)<|H (ax (vr 1)<|cst<|.int 0)<|H (ax (vr 1)<|cst<|.int 1)<|H (bj aa) aa)<|ag (aB (aj 5)<|aC (aD .list)<|H (aC (aD .range)<|H (aC (aD .len)<|H (vr 2) aa) aa) aa)<|ag (forM (aI<|aC (aD .range)<|H (a9 .Sub (aC (aD .len)<|H (vr 2) aa)<|cst<|.int 1)<|H (cst<|.int<|-1)<|H (cst<|.int<|-1) aa) (aj 3)<|ag (bW (b2 fn 639<|H (aS (aI<|vr 5) [3,2] 1 (aj 2) (c1 (aH .NotEq (vr 2)<|vr 0) aK)<|aR<|ax (vr 1)<|vr 2)<|H (ax (vr 2)<|vr 3) aa) (ag (aB (aj 5)<|aS (aI<|vr 5) [3] 1 (aj 1) (c1 (aH .NotEq (vr 1)<|vr 0) aK)<|aR<|vr 1) av) av) av)<|ag (aB (aj 6)<|b2 fn 587<|H (aC (aD .list)<|H (vr 4) aa)<|H (lU (cst<|.str "rounds")<|cst<|.int 12) aa)<|ag (bW (aH .NotEq (aS (aI<|vr 6) [] 1 (aj 0) aK<|aR<|aw (vr 0) "name")<|aS (aI<|vr 5) [] 1 (aj 0) aK<|aR<|a9 .Add (cst<|.str "r")<|aC (aD .str)<|H (vr 0) aa) (ag (a5<|cst<|.bool false) av) av)<|ag (bW (aH .NotEq (aS (aI<|aC (aD .range)<|H (aC (aD .len)<|H (vr 6) aa) aa) [5,4,6] 1 (aj 3) (c1 (aH .IsNot (ax (vr 2)<|vr 3)<|ax (vr 1)<|ax (vr 0)<|vr 3) aK)<|aR<|cst<|.int 1)<|cg aa) (ag (a5<|cst<|.bool false) av) av)<|ag (forM (aI<|aC (aD .range)<|H (aC (aD .len)<|H (vr 2) aa) aa) (aj 3)<|ag (aB (aj 7)<|aS (aI<|vr 5) [3] 1 (aj 1) (c1 (aH .NotEq (vr 1)<|vr 0) aK)<|aR<|vr 1)<|ag (aB (aj 8)<|b2 fn 639<|H (aS (aI<|vr 7) [2] 1 (aj 1) aK<|aR<|ax (vr 0)<|vr 1)<|H (ax (vr 2)<|vr 3) aa)<|ag (bW (aH .NotEq (vr 8)<|aH .NotIn (vr 3)<|vr 5) (ag (a5<|cst<|.bool false) av) av)<|ag (bW (andM (aH .Eq (vr 3)<|a9 .Sub (aC (aD .len)<|H (vr 2) aa)<|cst<|.int 1)<|aH .NotEq (b2 fn 582<|H (aS (aI<|vr 7) [4] 1 (aj 1) aK<|aR<|ax (vr 0)<|vr 1)<|H (aw (ax (vr 4)<|vr 3) "left")<|H (aw (ax (vr 4)<|vr 3) "right")<|H (lU (cst<|.str "rounds")<|cst<|.int 12) aa)<|vr 8) (ag (a5<|cst<|.bool false) av) av) av)<|ag (a5<|cst<|.bool true) av)
theorem Fb:bc 644=some (1,8,E9):=by kernel_rfl
noncomputable def k4(xs:Array Nat):Prop:=∀(i c a b:Nat),i<c->xs[i]? =some a->xs[c]? =some b->a<b
theorem Fc{xs:Array Nat}{i a d:Nat}(h:xs[i]? =some a):xs.getD i d=a:=by refine jE (gT.mp h) λb e=>?_;simp[Array.getD,b,e]
theorem Fd{xs:Array Nat}{j a lo hi:Nat}:SetTable.below.go xs j (a+1) lo hi=if lo<hi then(if xs.getD ((lo+hi)/2) j<j then SetTable.below.go xs j a ((lo+hi)/2+1) hi else SetTable.below.go xs j a lo ((lo+hi)/2)) else lo:=by kernel_rfl
theorem Fe{xs:Array Nat}{j:Nat}(p:k4 xs):∀(b lo hi:Nat),hi-lo<=b->lo<=hi->hi<=xs.size->(∀i a,i<lo->xs[i]? =some a->a<j)->(∀i a,hi<=i->xs[i]? =some a->j<=a)->
  SetTable.below.go xs j b lo hi<=xs.size/\(∀i a,i<SetTable.below.go xs j b lo hi->xs[i]? =some a->a<j)/\(∀i a,SetTable.below.go xs j b lo hi<=i->xs[i]? =some a->j<=a):=by
 intro b;induction b with
 |zero=>intro lo hi hf g hs h k;obtain rfl:lo=hi:=fi g<|Nat.le_of_sub_eq_zero<|Nat.le_zero.mp hf;exact⟨hs,h,k⟩
 |succ b r=>
  intro lo hi hf g hs h k;refine Y Fd ?_;by_cases l:lo<hi
  .have n:lo<=(lo+hi)/2:=(Nat.le_div_iff_mul_le Nat.two_pos).mpr (Nat.mul_two lo▸bz g lo);have d:(lo+hi)/2<hi:=(Nat.div_lt_iff_lt_mul Nat.two_pos).mpr<|Nat.mul_two hi▸Nat.add_lt_add_right l hi;refine Y (az l) ?_;generalize(lo+hi)/2=m at n d;refine jE (⟨_,dI<|bt d hs⟩:∃y,xs[m]? =some y) λy f=>?_;refine Y (Fc f) ?_;by_cases c:y<j
   .refine Y (az c) (r _ hi (ah (Nat.sub_le_sub_left (cR n) hi)<|Nat.pred_le_pred hf) d hs (λi a o e=>?_) k);refine Or.elim (fg<|c6 o) (λq=>ei (p i _ a _ q e f) c) λq=>?_;obtain rfl:=aT<|f.symm.trans<|q▸e;exact c
   .refine Y (ay c) (r lo _ (c6<|bt (Nat.sub_lt_sub_right n d) hf) n (ah (c2 d) hs) h λi a o e=>?_);refine Or.elim (fg o) (λq=>ah (eS c)<|c2<|p _ i _ a q f e) λq=>?_;obtain rfl:=aT<|f.symm.trans<|q▸e;exact eS c
  .obtain rfl:=fi g (eS l);exact Y (ay l) ⟨hs,h,k⟩
theorem nk{xs:Array Nat}(b:k4 xs)(j:Nat):SetTable.below xs j<=xs.size/\(∀i a,i<SetTable.below xs j->xs[i]? =some a->a<j)/\(∀i a,SetTable.below xs j<=i->xs[i]? =some a->j<=a):=Fe b xs.size 0 xs.size (aM _) (a6 _) (aM _) (λi a h=>absurd h<|jx _) λi a h e=>absurd (gT.mp e).1<|cJ.mpr h
theorem vV{xs:Array Nat}(a:k4 xs){i j:Nat}(h:xs[i]? =some j):SetTable.below xs j=i:=by
 refine b1 (nk a j) λf b c=>?_;refine Or.elim (Nat.lt_trichotomy (SetTable.below xs j) i) (λq=>?_) λd=>Or.elim d (λq=>?_) λq=>?_
 .have e:=dI (ei q (gT.mp h).1);exact absurd (a _ i _ j q e h)<|cJ.mpr<|c _ _ (aM _) e
 .exact q
 .exact absurd (b i j q h)<|eh j
theorem nq{t:SetTable}(a:k4 t.place){i j:Nat}(h:t.place[i]? =some j):t.slot j= .live i:=by exact(az<|gY.mpr<|(vV a h).symm▸h).trans<|ar _<|vV a h
theorem Ff{t:SetTable}(hd:t.dummies= #[]){j:Nat}(h:∀i:Nat,t.place[i]?≠some j):t.slot j= .empty:=by exact(ay λz=>h _<|eq_of_beq z).trans (ay λz=>by rw[hd] at z;exact b3 z)
theorem vW{c:Type}{j a:c}:∀{p i:Nat}{l:List c},p<=l.length->(l.take p++j::l.drop p)[i]? =some a->(i<p/\l[i]? =some a)\/(i=p/\a=j)\/∃k,i=k+1/\p<=k/\l[k]? =some a:=by
 intro p;induction p with
 |zero=>
  intro i l hp e;cases i with
  |zero=>exact .inr<|.inl ⟨rfl,(aT e).symm⟩
  |succ k=>exact .inr<|.inr ⟨k,rfl,a6 _,e⟩
 |succ p d=>
  intro i l hp e;cases l with
  |nil=>exact absurd hp<|Nat.not_succ_le_zero _
  |cons b l=>
   cases i with
   |zero=>exact .inl ⟨fj _,e⟩
   |succ i=>refine Or.imp (λh=>⟨Nat.succ_lt_succ h.1,h.2⟩) (Or.imp (λh=>⟨ar Nat.succ h.1,h.2⟩) λh=>bE h λk f g m=>⟨k+1,ar Nat.succ f,cR g,m⟩)<|d (l:=l) (i:=i) (Nat.le_of_succ_le_succ hp) e
theorem Fh{xs:Array Nat}(g:k4 xs){j:Nat}(hn:∀i:Nat,xs[i]?≠some j):k4 (SetTable.insertAt xs (SetTable.below xs j) j):=by
 refine b1 (nk g j) λm n s=>?_;generalize SetTable.below xs j=p at m n s
 have get:∀i a,(SetTable.insertAt xs p j)[i]? =some a->(i<p/\xs[i]? =some a)\/(i=p/\a=j)\/∃k,i=k+1/\p<=k/\xs[k]? =some a:=λi a e=>by rw[←cE,SetTable.toList_insertAt] at e;exact Or.imp (λh=>⟨h.1,cE▸h.2⟩) (Or.imp id λh=>h.imp λk h=>⟨h.1,h.2.1,cE▸h.2.2⟩)<|vW (cZ▸m) e
 intro i l a b d u v;refine(get i a u).elim (λq=>?_) λo=>o.elim (λq=>?_) λo=>bE o λk q r e=>?_<;>refine(get l b v).elim (λc=>?_) λo=>o.elim (λc=>?_) λo=>bE o λf c t e'=>?_
 .exact g i l a b d q.2 c.2
 .exact c.2▸n i a q.1 q.2
 .exact g i f a b (bt q.1 t) q.2 e'
 .exact absurd (q.1▸d)<|Nat.lt_asymm c.1
 .exact absurd (q.1.trans c.1.symm)<|bk d
 .exact q.2▸kC (s f b t e') λz=>hn f<|z▸e'
 .exact absurd (bt (ei (q▸d:k+1<l) c.1) r)<|Nat.not_lt_of_le<|fk k
 .exact absurd (ah (c.1▸c2 (q▸d:k+1<l)) r)<|Nat.not_succ_le_self k
 .exact g k f a b (Nat.lt_of_succ_lt_succ (c▸q▸d:k+1<f+1)) e e'
section
open SetTable
noncomputable def eL(mask:Nat)(p:Probe):Probe:=
 if p.more>0 then{p with j:=p.j+1,more:=p.more-1} else
 {p with j:=(leap mask p.i p.perturb).1,more:=runEnd mask (leap mask p.i p.perturb).1-(leap mask p.i p.perturb).1,i:=(leap mask p.i p.perturb).1,perturb:=(leap mask p.i p.perturb).2}
theorem vX(t:SetTable)(p:Probe):t.advance p=eL t.mask p:=rfl
noncomputable def wk(mask:Nat)(p:Probe):Nat->Probe
 |0=>p
 |k+1=>eL mask<|wk mask p k
theorem j1(mask:Nat)(p:Probe):∀k,wk mask (eL mask p) k=wk mask p (k+1)
 |0=>rfl
 |k+1=>by show eL mask (wk mask (eL mask p) k)=eL mask (wk mask p<|k+1);exact Y (j1 mask p k) rfl
theorem k5(mask:Nat)(p:Probe)(a:Nat):∀b,wk mask (wk mask p a) b=wk mask p (a+b)
 |0=>rfl
 |b+1=>by show eL mask (wk mask (wk mask p a) b)=eL mask (wk mask p<|a+b);exact Y (k5 mask p a b) rfl
theorem vY(mask:Nat)(p:Probe):(eL mask p).dummy=p.dummy:=by unfold eL;split<;>rfl
theorem vZ(mask:Nat)(p:Probe):∀k,(wk mask p k).dummy=p.dummy
 |0=>rfl
 |k+1=>by show(eL mask<|wk mask p k).dummy=_;exact Y (vY ..)<|Y (vZ mask p k) rfl
theorem o4{t:SetTable}{hashAt:Nat->Int}{h:Int}{a:Nat}{p:Probe}:probe.go t hashAt h (a+1) p=SetTable.Slot.casesOn (motive:=λZ=>Option Met) (t.slot p.j) (some (.empty p.j p.dummy)) (probe.go t hashAt h a (t.advance {p with dummy:=some p.j})) λi=>if hashAt i==h then some (.candidate p.j i (t.advance p)) else probe.go t hashAt h a (t.advance p):=by kernel_rfl
theorem Fi{t:SetTable}{hashAt:Nat->Int}{h:Int}:∀(a k:Nat)(p:Probe),k<a->(∀b<k,∃i,t.slot (wk t.mask p b).j= .live i/\(hashAt i==h)=false)->t.slot (wk t.mask p k).j= .empty->
  probe.go t hashAt h a p=some (.empty (wk t.mask p k).j p.dummy):=by
 intro a;induction a with
 |zero=>exactλk p hf=>absurd hf<|jx _
 |succ a e=>
  intro k p hf c d;cases k with
  |zero=>exact Y o4<|Y (show t.slot p.j= .empty from d) rfl
  |succ k=>refine ak (c 0<|fj _) λi f g=>?_;refine Y o4<|Y (show t.slot p.j= .live i from f)<|(ay<|kE.mp g).trans<|Y (vX ..) ?_;exact(e k (eL t.mask p) (Nat.lt_of_succ_lt_succ hf) (λb l=>Y (j1 ..)<|c (b+1)<|Nat.succ_lt_succ l)<|Y (j1 ..) d).trans<|Y (j1 ..)<|Y (vY ..) rfl
theorem Fj{t:SetTable}{hashAt:Nat->Int}{h:Int}:∀(a k:Nat)(p:Probe)(i:Nat),k<a->(∀b<k,∃i,t.slot (wk t.mask p b).j= .live i/\(hashAt i==h)=false)->t.slot (wk t.mask p k).j= .live i->(hashAt i==h)=true->
  probe.go t hashAt h a p=some (.candidate (wk t.mask p k).j i<|wk t.mask p<|k+1):=by
 intro a;induction a with
 |zero=>exactλk p i hf=>absurd hf<|jx _
 |succ a e=>
  intro k p i hf c d hh;cases k with
  |zero=>exact Y o4<|Y (show t.slot p.j= .live i from d)<|az hh
  |succ k=>refine ak (c 0<|fj _) λf g l=>?_;refine Y o4<|Y (show t.slot p.j= .live f from g)<|(ay<|kE.mp l).trans<|Y (vX ..) ?_;exact(e k (eL t.mask p) i (Nat.lt_of_succ_lt_succ hf) (λb m=>Y (j1 ..)<|c (b+1)<|Nat.succ_lt_succ m) (Y (j1 ..) d) hh).trans<|Y (j1 ..)<|Y (j1 ..) rfl
noncomputable def hT(mask i q:Nat)(d:Option Nat):Probe:={j:=i,more:=runEnd mask i-i,i,perturb:=q,dummy:=d}
theorem v3(mask i:Nat):runEnd mask i-i<=9:=by
 unfold runEnd;by_cases h:i+9<=mask
 .exact Y (az h)<|bF<|Nat.add_sub_cancel_left ..
 .exact Y (ay h)<|Y (iO i)<|a6 _
theorem o5(mask i q:Nat)(d:Option Nat)(r:Nat):r<=runEnd mask i-i->wk mask (hT mask i q d) r={j:=i+r,more:=runEnd mask i-i-r,i,perturb:=q,dummy:=d}:=by
 induction r with
 |zero=>exactλZ=>rfl
 |succ r a=>exactλh=>(ar (eL mask)<|a<|jr h).trans<|az<|Nat.sub_pos_of_lt h
theorem rM(mask i q:Nat)(d:Option Nat):wk mask (hT mask i q d) (runEnd mask i-i+1)=hT mask (leap mask i q).1 (leap mask i q).2 d:=(ar (eL mask)<|o5 mask i q d _<|aM _).trans (ay λz=>absurd z<|cJ.mpr<|bF<|iO _)
noncomputable def tn(mask:Nat)(i q:Nat):Nat->Nat×Nat
 |0=>(i,q)
 |n+1=>leap mask (tn mask i q n).1 (tn mask i q n).2
theorem reach(mask i q:Nat)(d:Option Nat)(n:Nat):∃pos,pos<=10*n/\wk mask (hT mask i q d) pos=hT mask (tn mask i q n).1 (tn mask i q n).2 d:=by
 induction n with
 |zero=>exact⟨0,aM _,rfl⟩
 |succ n a=>exact ak a λpos b c=>⟨pos+(runEnd mask (tn mask i q n).1-(tn mask i q n).1+1),c7 b<|cR<|v3 ..,(k5 ..).symm.trans<|c▸rM ..⟩
theorem o6(mask i q n:Nat):(tn mask i q n).2=q/32^n:=by
 induction n with
 |zero=>exact(Nat.div_one q).symm
 |succ n a=>exact(ar (· /32) a).trans<|Nat.div_div_eq_div_mul ..
theorem v5(mask i q:Nat)(hi:i<mask+1):∀n,(tn mask i q n).1<mask+1
 |0=>hi
 |n+1=>Nat.mod_lt _<|fj _
theorem o7(mask i q a:Nat)(h:(tn mask i q a).2=0)(b:Nat):tn mask i q (a+b)=((tn mask (tn mask i q a).1 0 b).1,0):=by
 induction b with
 |zero=>exact ar (Prod.mk _) h
 |succ b c=>have z:(tn mask (tn mask i q a).1 0 b).2=0:=(o6 ..).trans<|Nat.zero_div _;refine(ar (λx:Nat×Nat=>leap mask x.1 x.2) c).trans ?_;exact(rfl:leap mask (tn mask (tn mask i q a).1 0 b).1 0=((leap mask (tn mask (tn mask i q a).1 0 b).1 0).1,0)).trans<|ar (λx=>((leap mask (tn mask (tn mask i q a).1 0 b).1 x).1,(0:Nat))) z.symm
end
section
open SetTable
noncomputable def hU(mask:Nat):Prop:=mask=7\/mask=31\/mask=127
noncomputable def Fm(mask:Nat):Bool:=(List.range<|mask+1).all λv=>(List.range<|mask+1).any λa=>(tn mask 0 0 a).1==v
theorem Fo{mask:Nat}(hm:hU mask):Fm mask=true/\(tn mask 0 0 (mask+1)).1=0:=by rcases hm with rfl|rfl|rfl<;>exact⟨by decide+kernel,by decide+kernel⟩
theorem v7(mask a:Nat):(tn mask 0 0 a).2=0:=(o6 ..).trans<|Nat.zero_div _
theorem v8{mask:Nat}(hm:hU mask){i v:Nat}(hi:i<mask+1)(d:v<mask+1):∃m,m<=mask/\(tn mask i 0 m).1=v:=by
 refine jA (Fo hm) λh hp=>?_
 have get:∀v<mask+1,∃a<mask+1,(tn mask 0 0 a).1=v:=λv d=>by have:=e3.mp h v<|cz.mpr d;refine ak (List.any_eq_true.mp this) λa c e=>?_;exact⟨a,cz.mp c,eq_of_beq e⟩
 refine ak (get i hi) λa c j=>?_;refine ak (get v d) λb l f=>?_
 have step:∀k,(tn mask i 0 k).1=(tn mask 0 0<|a+k).1:=λk=>by exact Y (o7 mask 0 0 a (v7 mask a) k)<|Y j rfl
 by_cases g:a<=b
 .exact⟨b-a,ah (Nat.sub_le b a)<|c6 l,(step ..).trans<|(ar (λx=>(tn mask 0 0 x).1)<|hC g).trans f⟩
 .refine⟨mask+1-a+b,c6<|bt (Nat.add_lt_add_left (Nat.lt_of_not_le g) _)<|bF<|Nat.sub_add_cancel<|c2 c,?_⟩;exact Y (step ..) (Y ((dD ..).symm.trans (ar (· +b)<|hC<|c2 c))<|Y (o7 mask 0 0 (mask+1) (v7 mask _) b)<|Y hp f)
theorem Fp{mask:Nat}(hm:hU mask){q:Nat}(a:q<2^64){v:Nat}(b:v<mask+1)(d:Option Nat):∃k,k<10*turns mask/\(wk mask (hT mask (q%(mask+1)) q d) k).j=v:=by
 have hz:(tn mask (q%(mask+1)) q 13).2=0:=by exact Y (o6 ..)<|Nat.div_eq_of_lt<|bt a af
 have c:=v5 mask (q%(mask+1)) q (Nat.mod_lt _<|fj _) 13;refine ak (v8 hm c b) λm e f=>?_;refine ak (reach mask (q%(mask+1)) q d<|13+m) λpos g h=>?_;refine⟨pos,?_,?_⟩
 .exact b0 g<|(Nat.mul_lt_mul_left af).mpr<|b0 (bz e 13)<|d3 13 mask▸Nat.add_lt_add_left af mask
 .exact Y h<|Y (o7 mask _ q 13 hz m) f
theorem v9(h:Int):bits h<2^64:=by exact(Int.toNat_lt<|Int.emod_nonneg _ af).mpr<|Int.emod_lt_of_pos _ af
theorem K9(t:SetTable)(h:Int):t.probeStart h=hT t.mask (bits h%(t.mask+1)) (bits h) none:=rfl
noncomputable def l3(mask:Nat)(eo:Nat->Prop)(h:Int)(j:Nat):Prop:=∃k,k<10*turns mask/\(wk mask (hT mask (bits h%(mask+1)) (bits h) none) k).j=j/\∀a<k,eo (wk mask (hT mask (bits h%(mask+1)) (bits h) none) a).j
theorem l3.mono{mask:Nat}{P Q:Nat->Prop}{h:Int}{j:Nat}(r:l3 mask P h j)(a:∀x,P x->Q x):l3 mask Q h j:=by refine bE r λk b c d=>?_;exact⟨k,b,c,λe f=>a _<|d e f⟩
structure Laid(t:SetTable)(es:Array (Int×Value)):Prop where
 mask:hU t.mask
 size:t.place.size=es.size
 rise:k4 t.place
 k6:t.dummies= #[]
 i5:∀(i j:Nat),t.place[i]? =some j->j<t.mask+1
 free:es.size<=t.mask
 road:∀(i:Nat)(h:Int)(x:Value)(j:Nat),es[i]? =some (h,x)->t.place[i]? =some j->l3 t.mask (λv=>∃a:Nat,t.place[a]? =some v) h j
theorem Laid.room{t:SetTable}{es:Array (Int×Value)}(L:Laid t es):∃v,v<t.mask+1/\∀i:Nat,t.place[i]?≠some v:=by
 apply lC;intro hn
 have all:∀v<t.mask+1,v∈t.place.toList:=λv a=>by apply lC;intro b;exact hn ⟨v,a,λi e=>b (by rw[←cE] at e;exact bI e)⟩
 have c:List.range (t.mask+1)⊆t.place.toList:=λv a=>all v<|cz.mp a;have:=(List.nodup_range (n:=t.mask+1)).length_le_of_subset c;rw[cF,cZ,L.size] at this;have:=L.free;lia
end
section
open SetTable
theorem Fq{P:Nat->Prop}{n:Nat}(h:P n):∀f,f<=n->∃k,f<=k/\k<=n/\P k/\∀g,f<=g->g<k->¬P g:=by
 intro f i;refine jE (Nat.exists_eq_add_of_le i) λd l=>?_;obtain rfl:=l;clear i;induction d generalizing f with
 |zero=>exact⟨f,aM _,aM _,h,λg a b=>absurd b<|cJ.mpr a⟩
 |succ d m=>
  by_cases j:P f
  .exact⟨f,aM _,cp _ _,j,λg a b=>absurd b<|cJ.mpr a⟩
  .refine gx (m (f+1)<|Y (Nat.succ_add f d) h) λk a b c e=>?_;refine⟨k,jr a,ah b<|bF<|Nat.succ_add f d,c,λg a' b'=>?_⟩;by_cases q:g=f
   .clear h a b e a';subst q;exact j
   .exact e g (kC a'<|cO q) b'
noncomputable abbrev eo(t:SetTable)(v:Nat):Prop:=∃i:Nat,t.place[i]? =some v
noncomputable abbrev rd(t:SetTable)(h:Int)(k:Nat):Probe:=wk t.mask (t.probeStart h) k
theorem Fs{mask i:Nat}(h:i<=mask):runEnd mask i<=mask:=by
 unfold runEnd;by_cases q:i+9<=mask
 .exact Y (az q) q
 .exact Y (ay q) h
theorem rN(mask i:Nat):i<=runEnd mask i:=by
 unfold runEnd;by_cases q:i+9<=mask
 .exact Y (az q)<|cp i 9
 .exact Y (ay q)<|aM i
theorem wb{mask i:Nat}(h:i<=mask):i+(runEnd mask i-i)<=mask:=Y (hC<|rN mask i)<|Fs h
theorem Ft(mask:Nat)(p:Probe)(h:p.j+p.more<=mask)(k:Nat):(wk mask p k).j+(wk mask p k).more<=mask:=by
 induction k with
 |zero=>exact h
 |succ k a=>
  show(eL mask<|wk mask p k).j+(eL mask<|wk mask p k).more<=mask;by_cases hm:(wk mask p k).more>0
  .have q:eL mask (wk mask p k)=_:=az hm;exact Y q<|Y (dD ..)<|Y (hC hm) a
  .have q:eL mask (wk mask p k)=_:=ay hm;exact Y q<|wb<|c6<|Nat.mod_lt _<|fj _
theorem wc(t:SetTable)(h:Int)(k:Nat):(rd t h k).j<=t.mask:=ah (cp _ _) (Ft t.mask (t.probeStart h) (wb<|c6<|Nat.mod_lt _<|fj _) k)
inductive rO(t:SetTable)(hashAt:Nat->Int)(h:Int)(b:Nat):Prop
 |free (k:Nat):b<=k->k<10*turns t.mask->(∀a<k,eo t (rd t h a).j)->¬eo t (rd t h k).j->
   (∀a i,b<=a->a<k->t.place[i]? =some (rd t h a).j->(hashAt i==h)=false)->t.probe hashAt h (rd t h b)=some (.empty (rd t h k).j none)->rO t hashAt h b
 |o8 (k i:Nat):b<=k->k<10*turns t.mask->(∀a<k+1,eo t (rd t h a).j)->t.place[i]? =some (rd t h k).j->(hashAt i==h)=true->
   (∀a i,b<=a->a<k->t.place[i]? =some (rd t h a).j->(hashAt i==h)=false)->t.probe hashAt h (rd t h b)=some (.candidate (rd t h k).j i<|rd t h<|k+1)->rO t hashAt h b
theorem Laid.meets{t:SetTable}{es:Array (Int×Value)}(L:Laid t es)(hashAt:Nat->Int)(h:Int)(d:Nat)(w:∀f<d,eo t (rd t h f).j):rO t hashAt h d:=by
 refine ak L.room λv C D=>?_;refine ak (Fp L.mask (v9 h) C none) λn hn E=>?_
 have x:¬eo t (rd t h n).j:=λ⟨i,e⟩=>D i (by
  have F:(rd t h n).j=v:=E;rw[F] at e;exact e)
 have G:d<=n:=eS λq=>x<|w n q;refine gx (Fq (P:=λk=>¬eo t (rd t h k).j\/∃i,t.place[i]? =some (rd t h k).j/\(hashAt i==h)=true) (.inl x) d G) λk a b c e=>?_
 have p:∀f<k,eo t (rd t h f).j:=λf s=>by
  by_cases q:f<d
  .exact w f q
  .exact lC λhn=>e f (eS q) s<|.inl hn
 have u:∀f i,d<=f->f<k->t.place[i]? =some (rd t h f).j->(hashAt i==h)=false:=λf i I J K=>by
  cases M:(hashAt i==h) with
  |false=>rfl
  |true=>exact absurd (.inr ⟨i,K,M⟩)<|e f I J
 have y:∀r<k-d,∃i,t.slot (wk t.mask (rd t h d) r).j= .live i/\(hashAt i==h)=false:=λr g=>by have g:=Nat.add_lt_of_lt_sub' g;refine Y (k5 ..)<|jE (p (d+r) g) λi hi=>?_;exact⟨i,nq L.rise hi,u (d+r) i (cp ..) g hi⟩
 have l:wk t.mask (rd t h d) (k-d)=rd t h k:=(k5 ..).trans<|ar (wk t.mask<|t.probeStart h)<|hC a;have kn:=b0 b hn;have hd:(rd t h d).dummy=none:=vZ t.mask (t.probeStart h) d;by_cases m:eo t (rd t h k).j
 .refine Or.elim c (λc=>absurd m c) λo=>ak o λi A B=> .o8 k i a kn (λf s=>(fg<|c6 s).elim (p f) λq=>q▸m) A B u ?_;have z:=Fj (t:=t) (hashAt:=hashAt) (h:=h) (10*turns t.mask) (k-d) (rd t h d) i (b0 (Nat.sub_le ..) kn) y (l▸nq L.rise A) B;rw[l,k5,show d+(k-d+1)=k+1 from ar Nat.succ<|hC a] at z;exact z
 .refine .free k a kn p m u ?_;have z:=Fi (t:=t) (hashAt:=hashAt) (h:=h) (10*turns t.mask) (k-d) (rd t h d) (b0 (Nat.sub_le ..) kn) y<|l▸Ff L.k6 λi hi=>m ⟨i,hi⟩;rw[l,hd] at z;exact z
end
section
open SetTable
theorem rP{c:Type}{xs:Array c}{p i:Nat}{x:c}:(insertAt xs p x)[i]? =(xs.toList.take p++x::xs.toList.drop p)[i]? :=cE.symm.trans<|ar (λl:List c=>l[i]?)<|SetTable.toList_insertAt ..
section
variable{c:Type}{xs:Array c}{p i k:Nat}{x:c}(hp:p<=xs.size)
include hp
theorem we(q:i<p):(insertAt xs p x)[i]? =xs[i]? :=rP.trans ((fP<|(List.length_take_of_le hp).symm▸q).trans<|(List.getElem?_take_of_lt q).trans cE)
theorem wg(q:p<=k):(insertAt xs p x)[k]? =(x::xs.toList.drop p)[k-p]? :=rP.trans ((h5<|(List.length_take_of_le hp).symm▸q).trans<|ar (λn=>(x::xs.toList.drop p)[k-n]?)<|List.length_take_of_le hp)
theorem Fu:(insertAt xs p x)[p]? =some x:=(wg hp<|aM p).trans<|ar (λn=>(x::xs.toList.drop p)[n]?)<|iO p
theorem wh(q:p<=k):(insertAt xs p x)[k+1]? =xs[k]? :=(wg hp<|gp q).trans ((ar (λn=>(x::xs.toList.drop p)[n]?)<|Nat.succ_sub q).trans<|List.getElem?_drop.trans<|(ar (λn=>xs.toList[n]?)<|hC q).trans cE)
theorem rQ:(insertAt xs p x).size=xs.size+1:=(ar List.length<|SetTable.toList_insertAt xs p x).trans (Y a0<|Y (List.length_take_of_le hp)<|Y fS<|Y List.length_drop<|ar Nat.succ<|hC hp)
theorem wi{a:c}(e:(insertAt xs p x)[i]? =some a):(i<p/\xs[i]? =some a)\/(i=p/\a=x)\/∃k,i=k+1/\p<=k/\xs[k]? =some a:=Or.imp (λh=>⟨h.1,cE▸h.2⟩) (Or.imp id λh=>h.imp λk h=>⟨h.1,h.2.1,cE▸h.2.2⟩) (vW (l:=xs.toList) hp<|rP.symm.trans e)
end
theorem wj{t:SetTable}(h:t.dummies= #[])(j:Nat):(t.put j).1={t with place:=insertAt t.place (below t.place j) j}:=ar (λd=>{t with place:=insertAt t.place (below t.place j) j,dummies:=d}) (ay λz=>by rw[h] at z;exact b3 z)
theorem Laid.put{t:SetTable}{es:Array (Int×Value)}(L:Laid t es){h:Int}{x:Value}{k:Nat}(n:k<10*turns t.mask)(r:∀s<k,eo t (rd t h s).j)(hf:¬eo t (rd t h k).j)(u:es.size+1<=t.mask):
  Laid (t.put (rd t h k).j).1 (insertAt es (t.put (rd t h k).j).2 (h,x)):=by
 have d:=wc t h k;have f:l3 t.mask (eo t) h (rd t h k).j:=⟨k,n,rfl,r⟩;generalize(rd t h k).j=j at hf d f;have hn:∀i:Nat,t.place[i]?≠some j:=λi e=>hf ⟨i,e⟩;refine b1 (nk L.rise j) λa Z Z=>?_;have b:below t.place j<=es.size:=Y L.size.symm a;refine Y (wj L.k6 j) ?_;show Laid _ (insertAt es (below t.place j) _);have g:=Fh L.rise hn;generalize below t.place j=p at a b g
 have old:∀v,eo t v->eo {t with place:=insertAt t.place p j} v:=λv o=>jE o λi e=>by
  by_cases q:i<p
  .exact⟨i,(we a q).trans e⟩
  .exact⟨i+1,(wh a<|eS q).trans e⟩
 refine⟨L.mask,(rQ a).trans<|Y (rQ b)<|ar Nat.succ L.size,g,L.k6,λi v e=>?_,Y (rQ b) u,λi l m v c ev=>?_⟩
 .exact(wi a e).elim (λq=>L.i5 _ _ q.2) λo=>o.elim (λq=>q.2.symm▸hD d) λo=>bE o λk Z Z q=>L.i5 _ _ q
 .refine(wi a ev).elim (λq=>(L.road i l m v ((we b q.1).symm.trans c) q.2).mono old) λo=>o.elim (λq=>?_) λo=>bE o λk w y A=>?_
  .have z:=Prod.mk.inj (aT<|(Fu b).symm.trans<|q.1▸c);exact Y z.1.symm<|Y q.2<|f.mono old
  .exact(L.road k l m v ((wh b y).symm.trans<|w▸c) A).mono old
theorem Fv(f m:Nat)(led:Bool):Laid (SetTable.fresh f m led) #[]:=⟨.inl rfl,rfl,λi c a b Z e=>by simp[SetTable.fresh] at e,rfl,λi j e=>by simp[SetTable.fresh] at e,Nat.zero_le _,λi h x j e=>by simp at e⟩
end
section
open SetTable
noncomputable abbrev own(owner:Array (Option Nat))(v:Nat):Prop:=(owner.getD v<|some 0).isNone=false
theorem Fy{owner:Array (Option Nat)}{i n r:Nat}(h:(List.range n).find? (λk=>(owner.getD (i+k) (some 0)).isNone)=some r):r<n/\¬own owner (i+r)/\∀a<r,own owner (i+a):=b1 (List.find?_range_eq_some.mp h) λb c d=>⟨cz.mp c,λz=>e4<|b.symm.trans z,λa q=>kE.mpr λz=>b3<|(ar not z).symm.trans<|d a q⟩
theorem o9{owner:Array (Option Nat)}{mask a i q:Nat}:layClean.free mask owner (a+1) i q=((List.range (runEnd mask i+1-i)).find? λk=>(owner.getD (i+k) (some 0)).isNone).elim (layClean.free mask owner a (leap mask i q).1 (leap mask i q).2) λk=>some (i+k):=by kernel_rfl
theorem Fz{owner:Array (Option Nat)}{mask:Nat}(d:Option Nat):∀(b i q j:Nat),layClean.free mask owner b i q=some j->
  ∃k,k<10*b/\(wk mask (hT mask i q d) k).j=j/\(∀a<k,own owner (wk mask (hT mask i q d) a).j)/\¬own owner j:=by
 intro b;induction b with
 |zero=>exactλi q j h=>a4 h
 |succ b o=>
  intro i q j h;have p:=v3 mask i;have hs:runEnd mask i+1-i=runEnd mask i-i+1:=Nat.succ_sub<|rN mask i;cases c:(List.range<|runEnd mask i+1-i).find? λk=>(owner.getD (i+k)<|some 0).isNone with
  |some r=>rw[o9,c] at h;obtain rfl:=aT h;clear o h;refine b1 (Fy c) λg m n=>?_;have l:=c6<|hs▸g;exact⟨r,b0 (ah l p)<|bt (by decide:9<10)<|Nat.le_add_left 10<|10*b,ar Probe.j<|o5 mask i q d r l,λa e=>Y (o5 mask i q d a<|ah (c2 e) l)<|n a e,m⟩
  |none=>
   have all:∀r,r<=runEnd mask i-i->own owner (i+r):=λr s=>kE.mpr<|List.find?_eq_none.mp c r<|cz.mpr<|hs▸hD s;rw[o9,c] at h;refine gx (o (leap mask i q).1 (leap mask i q).2 j h) λk g m n t=>?_;refine⟨(runEnd mask i-i+1)+k,Y (d3 ..)<|Nat.add_lt_add_of_lt_of_le g<|cR p,Y (k5 ..).symm<|Y (rM ..) m,λa e=>?_,t⟩;by_cases f:a<=runEnd mask i-i
   .exact Y (o5 mask i q d a f)<|all a f
   .refine jE (Nat.exists_eq_add_of_le<|Nat.lt_of_not_le f) λz hz=>?_;clear f;subst hz;exact Y (k5 ..).symm<|Y (rM ..)<|n z<|Nat.lt_of_add_lt_add_left e
theorem FA(mask i q n:Nat):tn mask (leap mask i q).1 (leap mask i q).2 n=tn mask i q (n+1):=by
 induction n with
 |zero=>rfl
 |succ n a=>exact ar (λx:Nat×Nat=>leap mask x.1 x.2) a
theorem FC{owner:Array (Option Nat)}{mask:Nat}:∀(a i q:Nat),layClean.free mask owner a i q=none->∀n<a,own owner (tn mask i q n).1:=by
 intro a;induction a with
 |zero=>exactλi q Z n hn=>absurd hn<|jx _
 |succ a c=>
  intro i q h n hn;cases b:(List.range<|runEnd mask i+1-i).find? λk=>(owner.getD (i+k)<|some 0).isNone with
  |some r=>rw[o9,b] at h;exact iP h
  |none=>
   rw[o9,b] at h;cases n with
   |zero=>exact kE.mpr<|List.find?_eq_none.mp b 0<|cz.mpr<|Nat.sub_pos_of_lt<|hD<|rN mask i
   |succ n=>exact Y (FA ..).symm<|c (leap mask i q).1 (leap mask i q).2 h n<|Nat.lt_of_succ_lt_succ hn
theorem FD{owner:Array (Option Nat)}{mask:Nat}(hm:hU mask){q:Nat}(a:q<2^64){v:Nat}(b:v<mask+1)(hf:¬own owner v):∃j,layClean.free mask owner (turns mask) (q%(mask+1)) q=some j:=by
 cases h:layClean.free mask owner (turns mask) (q%(mask+1)) q with
 |some j=>exact⟨j,rfl⟩
 |none=>
  exfalso
  have hz:(tn mask (q%(mask+1)) q 13).2=0:=by exact Y (o6 ..)<|Nat.div_eq_of_lt<|bt a af
  have c:=v5 mask (q%(mask+1)) q (Nat.mod_lt _<|fj _) 13;refine ak (v8 hm c b) λm d e=>?_;have this:=FC (turns mask) _ q h (13+m)<|b0 (bz d 13)<|d3 13 mask▸Nat.add_lt_add_left af mask;rw[o7 mask _ q 13 hz m] at this;exact hf<|e▸this
end
section
open SetTable
structure k7(mask:Nat)(hs:List Int)(n:Nat)(owner:Array (Option Nat)):Prop where
 size:owner.size=mask+1
 lt:∀(v a:Nat),owner[v]? =some (some a)->a<n
 has:∀a<n,∃v:Nat,owner[v]? =some (some a)
 inj:∀(v v' a:Nat),owner[v]? =some (some a)->owner[v']? =some (some a)->v=v'
 road:∀(v a:Nat)(h:Int),owner[v]? =some (some a)->hs[a]? =some h->l3 mask (own owner) h v
theorem l4{owner:Array (Option Nat)}{v:Nat}{o:Option (Option Nat)}(e:owner[v]? =o):owner.getD v (some 0)=o.getD (some 0):=Array.getD_eq_getD_getElem?.trans<|ar (λx=>Option.getD x<|some 0) e
theorem FE{owner:Array (Option Nat)}{v:Nat}(h:¬own owner v):owner[v]? =some none:=by
 cases e:owner[v]? with
 |none=>exact absurd (ar Option.isNone<|l4 e) h
 |some o=>cases o with
  |none=>rfl
  |some i=>exact absurd (ar Option.isNone<|l4 e) h
theorem wm{owner:Array (Option Nat)}{v:Nat}(a:v<owner.size)(h:own owner v):∃b,owner[v]? =some (some b):=by
 cases e:owner[v]? with
 |none=>exact absurd a<|cJ.mpr<|Array.getElem?_eq_none_iff.mp e
 |some o=>cases o with
  |none=>exact e4<|(ar Option.isNone<|l4 e).symm.trans h
  |some i=>exact⟨i,rfl⟩
theorem FF{mask n:Nat}{hs:List Int}{owner:Array (Option Nat)}(O:k7 mask hs n owner)(hn:n<=mask):∃v,v<mask+1/\¬own owner v:=by
 refine lC λg=>?_;have all:∀v,v<mask+1->∃d,owner[v]? =some (some d):=λv c=>wm (O.size.symm▸c)<|lC λz=>g ⟨v,c,z⟩;let f:Nat->Nat:=λv=>((owner[v]?).join).getD 0;have hf:∀v,v<mask+1->owner[v]? =some (some<|f v):=λv c=>(all v c).elim λd e=>e.trans<|ar (λi=>some<|some i) (ar (λo=>(Option.join o).getD 0) e).symm
 have nd:((List.range<|mask+1).map f).Nodup:=by refine List.nodup_iff_pairwise_ne.mpr<|List.pairwise_map.mpr ?_;exact List.Pairwise.imp_of_mem (R:=λa b=>a≠b) (λ{a b} h j k q=>k<|O.inj a b _ (hf a<|cz.mp h)<|q▸hf b (cz.mp j))<|List.nodup_iff_pairwise_ne.mp List.nodup_range
 have t:=nd.length_le_of_subset (l₂:=List.range n) λx l=>ak (bS.mp l) λv c z=>z▸cz.mpr (O.lt v _<|hf v<|cz.mp c);rw[aV,cF,cF] at t;exact absurd (ah t hn)<|Nat.not_succ_le_self mask
theorem FG{mask n:Nat}{hs:List Int}{owner:Array (Option Nat)}{h:Int}(O:k7 mask hs n owner)(hh:hs[n]? =some h){j:Nat}(g:layClean.free mask owner (turns mask) (bits h%(mask+1)) (bits h)=some j):
  k7 mask hs (n+1) (owner.setIfInBounds j<|some n):=by
 refine gx (Fz none _ _ _ _ g) λk i l m o=>?_;have free:=FE o;have at_:(owner.setIfInBounds j<|some n)[j]? =some (some n):=Array.getElem?_setIfInBounds_self_of_lt (gT.mp free).1;have ne:∀{v},j≠v->(owner.setIfInBounds j<|some n)[v]? =owner[v]? :=λq=>Array.getElem?_setIfInBounds_ne q
 have grow:∀v,own owner v->own (owner.setIfInBounds j<|some n) v:=λv p=>by
  by_cases q:j=v
  .exact q▸ar Option.isNone (l4 at_)
  .exact(ar Option.isNone<|(l4<|ne q).trans (l4 rfl).symm).trans p
 have d:∀{v c:Nat},(owner.setIfInBounds j<|some n)[v]? =some (some c)->(j=v/\c=n)\/owner[v]? =some (some c):=λ{v c} e=>by
  by_cases q:j=v
  .exact .inl ⟨q,aT<|aT<|(q▸e:(owner.setIfInBounds j<|some n)[j]? =_).symm.trans at_⟩
  .exact .inr<|(ne q).symm.trans e
 refine⟨Array.size_setIfInBounds.trans O.size,λv c e=>?_,λc hi=>?_,λv v' c e e'=>?_,λv c r e f=>?_⟩
 .exact(d e).elim (λq=>q.2▸eg _) λq=>gn<|O.lt v c q
 .refine Or.elim (fg<|c6 hi) (λq=>?_) λq=>⟨j,q▸at_⟩;exact(O.has c q).imp λv e=>(ne λz=>iP<|aT<|e.symm.trans<|z▸free).trans e
 .refine(d e).elim (λa=>(d e').elim (λb=>a.1.symm.trans b.1) λb=>?_) λa=>(d e').elim (λb=>?_) λb=>O.inj v v' c a b
  .exact absurd (a.2▸O.lt v' _ b)<|eh _
  .exact absurd (b.2▸O.lt v _ a)<|eh _
 .refine(d e).elim (λq=>?_) λq=>(O.road v c r q f).mono grow;obtain rfl:=aT<|hh.symm.trans<|q.2▸f;exact⟨k,i,l.trans q.1,λs t=>grow _<|m s t⟩
theorem rR{m v a:Nat}(e:(Array.replicate m (none:Option Nat))[v]? =some (some a)):False:=jE (gT.mp e) λZ q=>a4<|(Array.getElem_replicate ..).symm.trans q
theorem FH{mask:Nat}(hm:hU mask)(a:Array Int)(hn:a.size<=mask):∃owner,layClean mask a=some owner/\k7 mask a.toList a.size owner:=by
 have gen:∀(l:List Int)(n:Nat)(owner:Array (Option Nat)),(∀i,l[i]? =a.toList[n+i]?)->n+l.length=a.size->k7 mask a.toList n owner->
   ∃d,l.foldl (λ(acc:Option (Array (Option Nat)×Nat)) h=>do
    let(owner,k)←acc;let j←layClean.free mask owner (turns mask) (bits h%(mask+1)) (bits h)
    pure (owner.setIfInBounds j (some k),k+1)) (some (owner,n))=some (d,a.size)/\k7 mask a.toList a.size d:=by
  intro l;induction l with
  |nil=>intro n owner _ b O;obtain rfl:n=a.size:=b;exact⟨owner,rfl,O⟩
  |cons h r m=>intro n owner f b O;refine ak (FF O<|ah (cp ..)<|ah (bF b) hn) λv p hf=>?_;refine jE (FD hm (v9 h) p hf) λj g=>?_;refine ak (m (n+1) _ (λi=>(f<|i+1).trans<|ar (λk=>a.toList[k]?) (d0 n 1 i).symm) ((d0 n 1 r.length).trans b)<|FG O (h:=h) (f 0).symm g) λo' e q=>⟨o',?_,q⟩;show List.foldl _ ((layClean.free mask owner (turns mask) (bits h%(mask+1))<|bits h).bind λj=>some (owner.setIfInBounds j<|some n,n+1)) r=_;exact Y g e
 refine ak (gen a.toList 0 (Array.replicate (mask+1) none) (λi=>ar (λk=>a.toList[k]?) (eE i).symm) (eE _) ⟨Array.size_replicate,λv c e=>(rR e).elim,λc h=>absurd h<|jx _,λv v' c e=>(rR e).elim,λv c h e=>(rR e).elim⟩) λo e O=>⟨o,?_,O⟩;exact ar (λx=>Option.map (·.1) x)<|(Array.foldl_toList ..).symm.trans e
end
section
open SetTable
noncomputable def er(mask:Nat)(owner:Array (Option Nat)):List (Nat×Nat):=(List.range<|mask+1).filterMap λj=>(owner.getD j none).map (j,·)
theorem wo{owner:Array (Option Nat)}{v a:Nat}:owner.getD v none=some a↔owner[v]? =some (some a):=by
 refine⟨λh=>?_,λh=>Array.getD_eq_getD_getElem?.trans<|ar (λo=>Option.getD o none) h⟩;have z:=Array.getD_eq_getD_getElem?.symm.trans h;clear h;cases e:owner[v]? with
 |none=>rw[e] at z;exact a4 z
 |some o=>rw[e] at z;exact ar some z
theorem j2{mask:Nat}{owner:Array (Option Nat)}{p:Nat×Nat}:p∈er mask owner↔p.1<mask+1/\owner[p.1]? =some (some p.2):=by
 unfold er;refine Y (propext List.mem_filterMap) ?_;constructor
 .rintro⟨j,c,e⟩;refine ak (dY.mp e) λd a b=>?_;clear e;cases b;exact⟨cz.mp c,wo.mp a⟩
 .rintro⟨a,b⟩;exact⟨p.1,cz.mpr a,by refine Y (wo.mpr b) ?_;rfl⟩
theorem wq(mask:Nat)(owner:Array (Option Nat)):(er mask owner).Pairwise (λa b=>a.1<b.1):=by unfold er;refine Y (propext List.pairwise_filterMap)<|List.Pairwise.imp ?_<|List.pairwise_lt_range (n:=mask+1);intro a b d p hp q c;refine ak (dY.mp hp) λZ Z e=>?_;refine ak (dY.mp c) λZ Z f=>?_;clear hp;cases e;clear c;cases f;exact d
theorem rS{mask n:Nat}{hs:List Int}{owner:Array (Option Nat)}(O:k7 mask hs n owner):((er mask owner).map (·.2)).Perm (List.range n):=by
 have nd:((er mask owner).map (·.2)).Nodup:=by refine List.nodup_iff_pairwise_ne.mpr<|List.pairwise_map.mpr ?_;refine List.Pairwise.imp_of_mem (R:=λa b=>a.1<b.1) (λ{a b} e f g q=>?_)<|wq mask owner;have c:=(j2.mp e).2;have h:=(j2.mp f).2;rw[q] at c;exact absurd (O.inj _ _ _ c h)<|bk g
 refine(List.perm_ext_iff_of_nodup nd List.nodup_range).mpr λx=>?_;refine Y (propext bS)<|Y (propext cz) ?_;constructor
 .rintro⟨p,hp,rfl⟩;exact O.lt _ _ (j2.mp hp).2
 .intro i;refine jE (O.has x i) λv d=>?_;have j:=(gT.mp d).1;exact⟨(v,x),j2.mpr ⟨Y O.size.symm j,d⟩,rfl⟩
theorem wu{mask:Nat}(hm:hU mask)(f m:Nat)(led plain:Bool)(es:Array (Int×Value))(hn:es.size<=mask):
  ∃t d,laid mask f m led plain (es.map (·.1))=some (t,d)/\Laid t (d.filterMap (es[·]?))/\(d.filterMap (es[·]?)).toList.Perm es.toList/\t.mask=mask/\t.finger=f/\t.moves=m/\t.led=led/\t.plain=plain/\d.toList.Perm (List.range es.size):=by
 refine ak (FH hm (es.map (·.1))<|ah (bF Array.size_map) hn) λowner F O=>?_;have G:(es.map (·.1)).size=es.size:=Array.size_map;rw[G] at O;refine⟨{mask,place:=((er mask owner).map (·.1)).toArray,dummies:= #[],finger:=f,led,moves:=m,plain},((er mask owner).map (·.2)).toArray,?_,?_,?_,rfl,rfl,rfl,rfl,rfl,rS O⟩
 .unfold laid;refine Y F ?_;rfl
 all_goals
  have B:∀p∈er mask owner,∃e,es[p.2]? =some e:=λp hp=>⟨_,dI<|O.lt _ _ (j2.mp hp).2⟩
  have g:((((er mask owner).map (·.2)).toArray).filterMap (es[·]?)).toList=(er mask owner).map (λp=>(es[p.2]?).getD (0,.none)):=by
   refine Y Array.toList_filterMap ?_;show List.filterMap _ ((er mask owner).map (·.2))=_;refine Y List.filterMap_map ?_
   have gen:∀l:List (Nat×Nat),(∀p∈l,∃e,es[p.2]? =some e)->List.filterMap ((λx=>es[x]?)∘λx=>x.2) l=l.map (λp=>(es[p.2]?).getD (0,.none)):=by
    intro l;induction l with
    |nil=>intro _;rfl
    |cons p r I=>intro h;refine jE (h p<|.head _) λe c=>?_;exact(List.filterMap_cons_some (f:=(λx=>es[x]?)∘λx:Nat×Nat=>x.2) c).trans<|List.cons_eq_cons.mpr ⟨(ar (λo=>Option.getD o (0,Value.none)) c).symm,I λq s=>h q<|.tail _ s⟩
   exact gen _ B
 .have ge:∀i:Nat,((((er mask owner).map (·.2)).toArray).filterMap (es[·]?))[i]? =((er mask owner)[i]?).map (λp=>(es[p.2]?).getD (0,.none)):=λi=>by exact Y cE.symm<|Y g<|Y b9 rfl
  have n:∀i:Nat,(((er mask owner).map (·.1)).toArray)[i]? =((er mask owner)[i]?).map (·.1):=λi=>by exact Y cE.symm<|Y b9 rfl
  have tk:∀v,v<=mask->own owner v->∃i:Nat,(((er mask owner).map (·.1)).toArray)[i]? =some v:=λv C J=>by refine jE (wm (O.size.symm▸hD C) J) λK hi=>?_;exact(List.getElem?_of_mem<|j2 (p:=(v,K)).mpr ⟨hD C,hi⟩).imp λi hi=>(n i).trans<|ar (Option.map λx:Nat×Nat=>x.1) hi
  have L:(er mask owner).length=es.size:=by exact(aV ..).symm.trans<|(rS O).length_eq.trans cF
  refine⟨hm,?_,λi M a b N u w=>?_,rfl,λi j e=>?_,?_,λi h x j D y=>?_⟩
  .exact Y cZ.symm<|Y cZ.symm<|Y g<|(aV ..).trans (aV ..).symm
  .rw[n] at u w;refine ak (dY.mp u) λp hp P=>?_;clear u;obtain rfl:=P;refine ak (dY.mp w) λq s Q=>?_;clear w;obtain rfl:=Q;refine jE (cN.mp hp) λR z=>?_;refine jE (cN.mp s) λS A=>?_;have:=List.pairwise_iff_getElem.mp (wq mask owner) i M R S N;rw[z,A] at this;exact this
  .rw[n] at e;refine ak (dY.mp e) λp hp T=>?_;clear e;obtain rfl:=T;exact(j2.mp<|bI hp).1
  .exact Y cZ.symm<|Y g<|Y (aV ..)<|Y L hn
  .rw[ge] at D;rw[n] at y;refine ak (dY.mp D) λp hp ep=>?_;rw[hp] at y;cases y;refine jE (B p<|bI hp) λe c=>?_;rw[c] at ep;have ep':e=(h,x):=ep;clear ep;subst ep';refine bE (O.road p.1 p.2 h (j2.mp<|bI hp).2 (by rw[Array.toList_map,b9,cE,c];rfl)) λk U V W=>?_;exact⟨k,U,V,λE X=>tk _ (wc {mask,place:= #[],dummies:= #[],finger:=f,led,moves:=m,plain} h E)<|W E X⟩
 .refine Y g ?_;have z:(er mask owner).map (λp=>(es[p.2]?).getD (0,.none))=((er mask owner).map (·.2)).map (λi=>(es[i]?).getD (0,.none)):=by refine Y c3 ?_;rfl
  refine Y z<|((rS O).map _).trans ?_
  have A:(List.range es.size).map (λi=>(es[i]?).getD (0,.none))=es.toList:=by
   refine ic λi=>?_;refine Y b9 ?_;by_cases q:i<es.size
   .exact Y (h7 q)<|Y cE (show some ((es[i]?).getD (0,Value.none))=es[i]? by rw[dI q];rfl)
   .exact Y (ez (by rw[cF];exact cJ.mp q)) (ez<|cJ.mp q).symm
  rw[A]
end
section
open SetTable
theorem FJ{t:SetTable}{es:Array (Int×Value)}(L:Laid t es)(h:Int):∃k,k<10*turns t.mask/\(∀a<k,eo t (rd t h a).j)/\¬eo t (rd t h k).j/\t.freeSlot h=some ((rd t h k).j,false):=by
 cases L.meets (λZ=>h+1) h 0 (λa b=>absurd b<|jx _) with
 |free k Z c d e Z f=>exact⟨k,c,d,e,by
  unfold SetTable.freeSlot;exact Y (show t.probe (λZ=>h+1) h (t.probeStart h)=_ from f) rfl⟩
 |o8 k i Z Z Z Z g Z Z=>exact absurd (eq_of_beq g)<|Int.ne_of_gt<|Int.lt_succ h
theorem Laid.fits{t:SetTable}{es:Array (Int×Value)}(L:Laid t es):t.fits es.size=true:=by unfold SetTable.fits SetTable.fill;refine Y L.k6<|Y L.size ?_;have:=L.free;simp;exact this
theorem FK{t:SetTable}{es:Array (Int×Value)}(L:Laid t es)(h:Int)(x:Value)(c:es.size+1<=t.mask):
  ∃a es',layNew t es h x=(es',a,false,false)/\Laid a es'/\es'.toList.Perm (es.push (h,x)).toList/\a.mask=t.mask/\a.finger=t.finger/\a.moves=t.moves/\a.led=t.led/\a.plain=t.plain:=by
 refine gx (FJ L h) λk d e f g=>?_;have L':=L.put (x:=x) d e f c;have b:=wj L.k6 (rd t h k).j;refine⟨(t.put (rd t h k).j).1,insertAt es (t.put (rd t h k).j).2 (h,x),?_,L',SetTable.insertAt_perm _ _ _,Y b rfl,Y b rfl,Y b rfl,Y b rfl,Y b rfl⟩;unfold layNew;refine Y g ?_;dsimp only;have hf:=L'.fits;unfold SetTable.orStandIn;refine Y hf ?_;rfl
theorem FL{a:Array Nat}{n:Nat}(h:a.toList.Perm (List.range n)):coversAll a n=true:=by unfold coversAll;exact List.isPerm_iff.mpr h
theorem FN{t:SetTable}{es:Array (Int×Value)}{wanted mask:Nat}(f:sizeAbove wanted-1=mask)(hm:hU mask)(hn:es.size<=mask):
  ∃a es',relayAll t es wanted=(es',a,false)/\Laid a es'/\es'.toList.Perm es.toList/\a.mask=mask/\a.finger=t.finger/\a.moves=t.movedTo mask/\a.led=t.led/\a.plain=t.plain:=by
 refine dE (wu hm t.finger (t.movedTo mask) t.led t.plain es hn) λa b g c d h=>?_;refine dK h λi j k l=>?_;refine b1 l λm n o=>?_;refine⟨a,b.filterMap (es[·]?),?_,c,d,i,j,k,m,n⟩
 have e:t.relaid (es.map (·.1)) wanted=some (a,b):=by unfold SetTable.relaid;exact Y f g
 have hs:(b.filterMap (es[·]?)).size=es.size:=by exact Y cZ.symm<|Y d.length_eq<|Y cZ rfl
 unfold relayAll;refine Y e ?_;dsimp only;have hf:=c.fits;refine Y (FL o)<|Y hf ?_;rfl
section
variable{S:aN}{μ:Lay}{h B:Heap}{G:ai}{s:Shared}{A:Around}{E:Value->Shared->Prop}{v:V}{x y:Value}{n:Nat}{prog:Program}{w:World}{d:List V}{kk:KK}{a:Addr}
noncomputable def pa(μ:Lay)(v:V):Prop:=∀(n:Nat)(prog:Program)(w:World)(E:Value->Shared->Prop)(x:Value)(A:Around)(s:Shared)(Q:Bool->Shared->Prop),VR μ s.heap v x->(∀b,Q b s)->wpAny (model prog w) A (hashByValue n x) Q E s
theorem FO{l:List V}(g:∀v∈l,pa μ v):pa μ (.tup l):=by
 intro n prog w E x A s Q r h;refine VR.fF r λa vs m Z ga va=>?_;have d:s.TypeIs (.ref a) "tuple":=⟨_,ga,rfl⟩;cases n with
 |zero=>exact aq<|h _
 |succ n=>
  refine ae<|iL d F.slot_tuple_hash.lookup ?_;refine ae<|gv ga rfl<|ae ?_;refine Y Array.forIn_toList.symm<|wpAny_forIn_list _ (λrest r c=>r.1=none/\c=s/\∃left:List V,aA μ s.heap left rest/\∀v∈left,pa μ v) _ ?_ ?_ _ _ ⟨rfl,rfl,l,va,g⟩
  .clear ga va d;rintro v rest r c ⟨e,rfl,left,i,f⟩;cases i with|cons Z Z Z Z a b=>
   refine ae<|f _ fC n prog w E _ A _ _ a λj=>?_;cases j with
   |false=>exact aq<|aq<|h _
   |true=>exact aq ⟨rfl,rfl,_,b,λu k=>f u<|fc _ k⟩
  .rintro⟨o,p⟩ c ⟨e,rfl,_⟩;obtain rfl:o=none:=e;exact aq<|h _
theorem wx(k:a8 n v):pa μ v:=by
 induction k with
 |int n i=>exactλn prog w E x A s Q r h=>VR.fm r λZ=>by cases n<;>exact aq<|h _
 |str n i=>exactλn prog w E x A s Q r h=>VR.d5 r λZ Z=>by cases n<;>exact aq<|h _
 |tup n l _ a=>exact FO a
noncomputable def pd(μ:Lay)(n:Nat)(v:V):Prop:=∀(prog:Program)(w:World)(E:Value->Shared->Prop)(x:Value)(A:Around)(s:Shared)(Q:Bool->Shared->Prop),VR μ s.heap v x->Q false s->wpAny (model prog w) A (ofAClassStatement n x) Q E s
theorem FP{l:List V}(g:∀v∈l,pd μ n v):pd μ (n+1) (.tup l):=by
 intro prog w E x A s Q r h;refine VR.fF r λa vs m Z ga va=>?_
 set_option smartUnfolding false in
  refine ae (m:=typeOf<|.ref a)<|wpAny_typeOf ⟨_,ga,rfl⟩<|ae (m:=pure true)<|aq<|ck af<|ae (m:=seqItems?<|.ref a)<|gv ga rfl<|ae (m:=forIn vs _ _) ?_
 refine Y Array.forIn_toList.symm<|wpAny_forIn_list _ (λrest r c=>r.1=none/\c=s/\∃left:List V,aA μ s.heap left rest/\∀v∈left,pd μ n v) _ ?_ ?_ _ _ ⟨rfl,rfl,l,va,g⟩
 .clear h ga va;rintro v rest r c ⟨d,rfl,left,i,f⟩;cases i with|cons Z Z Z Z a b=>
  set_option smartUnfolding false in
   refine ae<|zd (e:=ofAClassStatement n _) rfl<|f _ fC prog w E _ A _ _ a ?_
  refine ck af ?_;exact aq ⟨rfl,rfl,_,b,λu j=>f u<|fc _ j⟩
 .rintro⟨k,o⟩ c ⟨d,rfl,_⟩;obtain rfl:k=none:=d;exact aq h
theorem wy(k:a8 n v):pd μ n v:=by
 induction k with
 |int n i=>exactλprog w E x A s Q r h=>VR.fm r λZ=>by cases n<;>exact aq h
 |str n i=>exactλprog w E x A s Q r h=>VR.d5 r λZ Z=>by cases n<;>exact aq h
 |tup n l _ a=>exact FP a
theorem FQ(c:VR μ s.heap v x)(f:a8 8 v){l:List V}{g:List Value}(rl:aA μ s.heap l g)(j:∀v∈l,a8 8 v){Q:Bool->Shared->Prop}(h:Q false s):wpAny (model prog w) A (searchCouldBeSeen x g) Q E s:=by
 refine ae<|wpAny_forIn_list _ (λrest r d=>r.1=none/\d=s/\∃left:List V,aA μ s.heap left rest/\∀v∈left,a8 8 v) _ ?_ ?_ _ _ ⟨rfl,rfl,l,rl,j⟩
 .clear rl h;rintro y rest r d ⟨i,rfl,left,k,e⟩;cases k with|cons Z Z Z Z a b=>have a7:∀u∈_,a8 8 u:=λu m=>e u<|fc _ m;refine eC (λZ=>aq ⟨rfl,rfl,_,b,a7⟩) λZ=>?_;refine ae<|qu f prog w E _ A _ _ c ?_;refine ck af ?_;refine ae<|qu (e _ fC) prog w E _ A _ _ a ?_;refine ck af ?_;refine ae<|wy f prog w E _ A _ _ c ?_;refine ck af ?_;refine ae<|wy (e _ fC) prog w E _ A _ _ a ?_;refine ck af ?_;exact aq ⟨rfl,rfl,_,b,a7⟩
 .clear c;rintro⟨n,o⟩ d ⟨i,rfl,_⟩;obtain rfl:n=none:=i;exact aq h
noncomputable def eb(es:Array (Int×Value))(ep:Nat)(t:SetTable):Obj:={cls:= .type "set",data:= .set es ep t}
inductive SE(w:World)(μ:Lay)(h:Heap):List V->List (Int×Value)->Prop
 |nil:SE w μ h [] []
 |cons (v:V) (x:Value) (d:List V) (es:List (Int×Value)):VR μ h v x->SE w μ h d es->SE w μ h (v::d) ((b7 w v,x)::es)
theorem SE.move(m:Move μ h μ B){es:List (Int×Value)}(r:SE w μ h d es):SE w μ B d es:=by
 induction r with
 |nil=>exact .nil
 |cons v x d es a _ b=>exact .cons v x d es (a.move m) b
theorem SE.perm{es es':List (Int×Value)}(p:es.Perm es'):∀{d:List V},SE w μ h d es->∃b,d.Perm b/\SE w μ h b es':=by
 induction p with
 |nil=>exactλr=>⟨_,.refl _,r⟩
 |cons e _ c=>
  intro d r;cases r with|cons v x d es a r=>
  refine ak (c r) λb q f=>?_;exact⟨_,q.cons v,.cons v x _ _ a f⟩
 |swap e e' l=>intro d r;cases r with|cons v x Z Z a r=>cases r with|cons v' s d es a' r=>exact⟨_,.swap v' v d,.cons _ _ _ _ a'<|.cons _ _ _ _ a r⟩
 |trans _ _ g i=>intro d r;refine ak (g r) λt j k=>?_;refine ak (i k) λm n o=>?_;exact⟨m,j.trans n,o⟩
theorem SE.at{es:List (Int×Value)}(r:SE w μ h d es):∀{i:Nat}{e:Int×Value},es[i]? =some e->∃v,d[i]? =some v/\e.1=b7 w v/\VR μ h v e.2:=by
 induction r with
 |nil=>exactλe=>(a4 e)
 |cons v x d es a _ b=>intro i e q;cases i with
  |zero=>cases q;exact⟨v,rfl,rfl,a⟩
  |succ i=>exact b q
theorem SE.len{es:List (Int×Value)}(r:SE w μ h d es):d.length=es.length:=by
 induction r with
 |nil=>rfl
 |cons _ _ _ _ _ _ a=>exact ar Nat.succ a
theorem SE.vals{es:List (Int×Value)}(r:SE w μ h d es):aA μ h d (es.map (·.2)):=by
 induction r with
 |nil=>exact .nil
 |cons v x d es a _ b=>exact .cons v x d _ a b
end
section
variable{S:aN}{μ:Lay}{h B:Heap}{G:ai}{s:Shared}{A:Around}{E:Value->Shared->Prop}{v:V}{x y:Value}{n:Nat}{prog:Program}{w:World}{d:List V}{kk:KK}{a:Addr}{es:Array (Int×Value)}{ep:Nat}{t:SetTable}
theorem bK.ref{μ:Lay}{h:Heap}(k:bK .t v)(r:VR μ h v x):∃b,x= .ref b:=by cases k with|t l k=>exact r.tupI
theorem FT{p:Int×Value->Bool}(r:SE w μ h d es.toList):∃b,(∀u∈b,u∈d)/\aA μ h b ((es.filter p).toList.map (·.2)):=by
 refine Y Array.toList_filter ?_;generalize es.toList=l at r;induction r with
 |nil=>exact⟨[],λZ=>id,.nil⟩
 |cons v x d es a _ f=>
  refine ak f λb q c=>?_;refine Y List.filter_cons ?_;split
  .exact⟨v::b,λu m=>(ba.mp m).elim (λe=>e▸.head _) λm=> .tail _<|q u m,.cons _ _ _ _ a c⟩
  .exact⟨b,λu m=> .tail _<|q u m,c⟩
open Classical in
theorem FU(g:s.heap.get? a=some (eb es ep t))(L:Laid t es)(se:SE w μ s.heap d es.toList)(N:VR μ s.heap v x)(O:bK .t v)(kd:∀u∈d,bK .t u)(ai:A.units+50<cLine){Q:SetFound->Shared->Prop}(U:v∈d->Q (.there none) s)
  (hn:v∉d->∀k,k<10*SetTable.turns t.mask->(∀c<k,eo t (rd t (b7 w v) c).j)->¬eo t (rd t (b7 w v) k).j->Q (.free (rd t (b7 w v) k).j false) s):
  ∀n f(F:Option SetTable.Probe),10*SetTable.turns t.mask<=n+f->f<=10*SetTable.turns t.mask->F.getD (t.probeStart<|b7 w v)=rd t (b7 w v) f->(∀c<f,eo t (rd t (b7 w v) c).j/\∀(i:Nat) u,t.place[i]? =some (rd t (b7 w v) c).j->d[i]? =some u->u≠v)->
  wpAny (model prog w) A (setSearchFrom a x (b7 w v) true (n+1) F) Q E s:=by
 have W:t.fits es.size=true:=L.fits;intro n;induction n with
 |zero=>
  intro f F hf X hs hp;clear hs;obtain rfl:=fi X<|eE f▸hf;cases L.meets (λZ=>0) (b7 w v) _ (λc q=>(hp c q).1) with
  |free k o h=>exact absurd h<|cJ.mpr o
  |o8 k i o h=>exact absurd h<|cJ.mpr o
 |succ n aa=>
  intro f F hf X hs hp;refine ae<|ia g rfl W ?_;dsimp only
  have aj:t.gaveWay=false:=by unfold SetTable.gaveWay;rcases L.mask with e|e|e<;>refine Y e ?_<;>rfl
  refine Y aj<|Y (ay af) ?_;generalize P:t.probe _ (b7 w v) _=r
  have mQ:∀{i:Nat}{u:V},d[i]? =some u->((es[i]?.map (·.1)).getD 0)=b7 w u:=λ{i u} e=>by have hi:i<es.toList.length:=se.len▸(cN.mp e).1;refine bE (se.at<|cc hi) λu' l G Z=>?_;obtain rfl:=aT<|l.symm.trans e;exact Y cE.symm<|Y (cc hi) G
  cases L.meets (λi=>(es[i]?.map (·.1)).getD 0) (b7 w v) f (λc q=>(hp c q).1) with
  |free k o h I y J K=>
   obtain rfl:r=_:=P.symm.trans<|hs▸K;refine bO<|aq<|hn (λm=>?_) k h I y;refine jE (fy.mp m) λi hi=>?_;have C:i<es.size:=Y cZ.symm<|Y se.len.symm (cN.mp hi).1;have l:es[i]? =some (es[i].1,es[i].2):=dI C;have G:t.place[i]? =some (t.place[i]'(L.size▸C)):=dI<|L.size▸C;have al:es[i].1=b7 w v:=by have z:=mQ hi;rw[l] at z;exact z
   refine bE (L.road i _ _ _ l G) λD ar M ab=>?_;rw[al] at M ab;have M:(rd t (b7 w v) D).j=t.place[i]'(L.size▸C):=M;have pl:t.place[i]? =some (rd t (b7 w v) D).j:=M▸G;refine Or.elim (gw D k) (λq=>?_) λq=>?_
   .refine Or.elim (gw D f) (λB=>?_) λB=>?_
    .exact(hp D B).2 i v pl hi rfl
    .have z:=J D i B q pl;rw[mQ hi,d1] at z;exact e4 z
   .refine y ?_;refine Or.elim (fg q) (λq=>?_) λq=>?_
    .exact ab k q
    .exact Y q ⟨i,pl⟩
  |o8 k i o h I y am J K=>
   obtain rfl:r=_:=P.symm.trans<|hs▸K;refine bO ?_
   have C:i<es.size:=by refine jE (gT.mp y) λq Z=>?_;exact L.size▸q
   have l:es[i]? =some es[i]:=dI C;refine bE (se.at (i:=i) (e:=es[i])<|Y cE l) λu R as ac=>?_;have ad:=kd u<|bI R;refine zc ?_ λtail=>?_
   .refine Y l ?_;dsimp only;refine c0<|mP ad.key O.key ac N (Au ai) ?_;refine ae<|ia g rfl W ?_;dsimp only;by_cases ev:u=v
    .clear N O hn aa hs hp I y am J K P;subst ev;exact Y (bJ (p:=u=u) rfl)<|Y (az (show(true&&true)=true from rfl))<|aq<|U<|bI R
    .refine Y (dd ev) (Y (ay af) ?_);have sm:t.sameMemory t.moves t.mask=some true:=az<|d1 _;refine Y sm ?_;dsimp only;refine Y (az rfl)<|Y (nq L.rise y) ?_;dsimp only;refine Y l ?_;dsimp only;refine jE (ad.ref ac) λb an=>?_;refine Y an<|ae<|wpAny_isSame_ref_self<|bO ?_;refine Y (az rfl)<|ck af ?_;refine aa (k+1) _ (ah hf<|ah (bF<|Nat.succ_add n f)<|cR<|bz o n) h rfl λc S=>⟨I c S,λT u' p1 p2 e'=>?_⟩;clear U;subst e';refine Or.elim (gw c f) (λB=>?_) λB=>?_
     .exact(hp c B).2 T _ p1 p2 rfl
     .refine Or.elim (fg<|c6 S) (λq=>?_) λq=>?_
      .have z:=J c T B q p1;rw[mQ p2,d1] at z;exact e4 z
      .clear o h S;subst q
       have z:i=T:=by have ag:=nq L.rise y;rw[nq L.rise p1] at ag;exact(SetTable.Slot.live.inj ag).symm
       clear p1;subst z;exact ev<|aT<|R.symm.trans p2
   .refine ak (FT (p:=λe=>e.1==b7 w v) se) λau ao ap=>?_;refine ae<|FQ N (O.key.mono af) ap (λu m=>(kd u<|ao u m).key.mono af) ?_;refine ck af ?_;exact tail
end
section
variable{S:aN}{μ:Lay}{s₀ h B:Heap}{G:ai}{s:Shared}{A:Around}{E:Value->Shared->Prop}{v:V}{x y:Value}{n:Nat}{prog:Program}{w:World}{d:List V}{kk:KK}{a:Addr}{es:Array (Int×Value)}{ep:Nat}{t:SetTable}
noncomputable def k8(m n:Nat):Bool:=(m==7&&decide (n<=4))||(m==31&&decide (n<=18))||(m==127&&decide (n<=64))
theorem wz:∀n,n<64->∀m∈[7,31,127],k8 m n=true->n+1<=m/\if(n+1)*5>=m*3 then k8 (SetTable.sizeAbove (SetTable.grown (n+1))-1) (n+1)=true/\(SetTable.sizeAbove (SetTable.grown (n+1))-1∈[7,31,127])/\n+1<=SetTable.sizeAbove (SetTable.grown (n+1))-1/\SetTable.sizeAbove (SetTable.grown (n+1))<=1000 else k8 m (n+1)=true:=by decide+kernel
theorem wA{m:Nat}(h:m∈[7,31,127]):hU m:=by
 refine Or.elim (ba.mp h) (λe=>?_) λh=>?_
 .exact .inl e
 refine Or.elim (ba.mp h) (λe=>?_) λh=>?_
 .exact .inr<|.inl e
 .exact .inr<|.inr<|a3.mp h
theorem hU.mem{m:Nat}(h:hU m):m∈[7,31,127]:=by
 rcases h with rfl|rfl|rfl
 .exact .head _
 .exact .tail _<|.head _
 .exact .tail _<|.tail _<|.head _
theorem Laid.plain(L:Laid t es){b:Bool}:Laid {t with plain:=b} es:=⟨L.mask,L.size,L.rise,L.k6,L.i5,L.free,L.road⟩
theorem Laid.fill(L:Laid t es):t.fill=es.size:=by unfold SetTable.fill;refine Y L.k6<|Y L.size ?_;rfl
noncomputable def dm(w:World):Bool:=w.params.followText "set-order"
inductive f6(w:World)(μ:Lay)(s₀ h:Heap)(a:Addr)(d:List V):Prop
 |mk (es:Array (Int×Value)) (ep:Nat) (t:SetTable):h.get? a=some (eb es ep t)->Laid t es->SE w μ s₀ d es.toList->k8 t.mask es.size=true->t.led= !dm w->f6 w μ s₀ h a d
theorem pe{es':Array (Int×Value)}{b:SetTable}(g:s.heap.get? a=some (eb es ep t))(hz:es'.size<=1000){Q:Unit->Shared->Prop}(h:∀B,B.get? a=some (eb es' (ep+1) b)->Heap.SameBut a s.heap B->Q () {s with heap:=B}):wpAny (model prog w) A (storeSet a es' b) Q E s:=wpAny_storeSet_of g rfl (h _ ((h6 _ g rfl).trans<|ar some<|putSet_of es' b rfl)<|kB _ a _) (ah hz af)
theorem SE.ins{l l':List (Int×Value)}(r:SE w μ h d l)(b:VR μ h v x)(p:l'.Perm (l++[(b7 w v,x)])):∃a,a.Perm (v::d)/\SE w μ h a l':=by refine ak (SE.perm (p.trans List.perm_append_comm).symm<|.cons v x d l b r) λa q c=>?_;exact⟨a,q.symm,c⟩
theorem FV{p:Nat}{e:Int×Value}:(SetTable.insertAt es p e).toList.Perm (es.toList++[e]):=(SetTable.insertAt_perm es p e).trans (by rw[jt])
noncomputable def rT(w:World)(μ:Lay)(s₀ h:Heap)(a:Addr)(d:List V)(v:V)(s:Shared)(Q:Shared->Prop):Prop:=∀B b,(v∈d/\b=d\/v∉d/\b.Perm (v::d))->f6 w μ s₀ B a b->Heap.SameBut a h B->Q {s with heap:=B}
theorem FW(g:s.heap.get? a=some (eb es ep t))(L:Laid t es)(se:SE w μ s₀ d es.toList)(ld:t.led= !dm w){m:Nat}(hm:m∈[7,31,127])(j:SetTable.sizeAbove (SetTable.grown es.size)-1=m)(k:SetTable.sizeAbove (SetTable.grown es.size)<=1000)(hn:es.size<=m)(ok:k8 m es.size=true)(hz:es.size<=1000){Q:Unit->Shared->Prop}
  (h:∀B b,b.Perm d->f6 w μ s₀ B a b->Heap.SameBut a s.heap B->Q () {s with heap:=B}):wpAny (model prog w) A (setRelay a<|SetTable.grown es.size) Q E s:=by
 refine dE (wu (wA hm) t.finger (t.movedTo m) t.led t.plain es hn) λf c l n i o=>?_;refine dK o λp Z Z r=>?_;refine jA r λu Z=>?_;have hs:(c.filterMap (es[·]?)).size=es.size:=Y cZ.symm<|Y i.length_eq<|Y cZ rfl;refine ae<|ia g rfl L.fits ?_;refine ck (cJ.mpr<|ah k af) ?_
 have e:t.relaid (es.map (·.1)) (SetTable.grown es.size)=some (f,c):=by unfold SetTable.relaid;exact Y j l
 refine Y e ?_;show wpAny _ _ ((if((c.filterMap (es[·]?)).size !=es.size)=true then _ else pure (c.filterMap (es[·]?),f))>>=_) _ _ _;refine Y (ay (by rw[hG];exactλz=>z hs))<|bO<|pe g (hs▸hz) λB g' sb=>?_;refine ak (SE.perm i.symm se) λb q v=>?_;exact h B b q.symm ⟨_,_,_,g',n,v,Y p<|Y hs ok,u.trans ld⟩ sb
theorem FX(r:df s₀ s.heap)(y:f6 w μ s₀ s.heap a d)(n:VR μ s₀ v x)(z:bK .t v)(kd:∀u∈d,bK .t u)(I:d.length<64)(J:A.units+50<cLine){Q:Bool->Shared->Prop}(h:∀b,rT w μ s₀ s.heap a d v s (Q b)){K:Nat}:wpAny (model prog w) A (setAddHashedIn a x (b7 w v) (K+1)) Q E s:=by
 cases y with|mk es ep t g L se ok ld=>
 have C:es.size<64:=Y cZ.symm<|Y se.len.symm I;refine jE (z.ref n) λb M=>?_;obtain rfl:=M;refine jA (wz es.size C t.mask L.mask.mem ok) λN i=>?_;refine ae<|ia g rfl L.fits ?_;refine ck (show¬byScan (.ref b) es=true from eB) ?_
 refine ae (FU g L (se.move (gE r)) (n.move (gE r)) z kd J (λm=>aq (h false s.heap d (.inl ⟨m,rfl⟩) ⟨es,ep,t,g,L,se,ok,ld⟩ (.refl a s.heap))) (λm k O k2 R=>?_) 99999 0 none (by
  rcases L.mask with e|e|e<;>refine Y e ?_<;>decide) (a6 _) rfl λab q=>absurd q (jx _))
 refine ae<|ia g rfl L.fits ?_;have L':=L.put (h:=b7 w v) (x:= .ref b) O k2 R N;have l:=FV (es:=es) (p:=(t.put (rd t (b7 w v) k).j).2) (e:=(b7 w v,Value.ref b));have mk:(t.put (rd t (b7 w v) k).j).1.mask=t.mask/\(t.put (rd t (b7 w v) k).j).1.led= !dm w:=⟨rfl,ld⟩;dsimp only;generalize S:(t.put (rd t (b7 w v) k).j)=P at L' l mk;clear S;obtain⟨f,p⟩:=P;dsimp only at L' l mk⊢;generalize ac:SetTable.insertAt es p (b7 w v,Value.ref b)=es' at L' l;have sz:es'.size=es.size+1:=by refine Y cZ.symm<|Y l.length_eq<|Y a0<|Y cZ ?_;rfl
 have D:es'.size<=1000:=Y sz<|ah (Nat.succ_le_of_lt C) af;refine ak (se.ins n l) λT F G=>?_
 have rest:∀f,Laid f es'->f.mask=t.mask/\f.led=(!dm w)->wpAny (model prog w) A (do
   storeSet a es' f
   if(!false&&f.tooFull)=true then setRelay a (SetTable.grown<|es.size+1)
   return true) Q E s:=λf L' mk=>by
  refine ae<|pe g D λB g' sb=>?_;have U:f.tooFull=decide ((es.size+1)*5>=t.mask*3):=by unfold SetTable.tooFull;exact Y L'.fill<|Y mk.1<|Y sz rfl
  refine Y U ?_;by_cases c:(es.size+1)*5>=t.mask*3
  .refine Y (bJ c) ?_;dsimp only;refine gZ (show(!false&&true)=true from rfl) ?_;rw[az c] at i;refine ae ?_;rw[←sz] at i⊢;exact FW (s:={s with heap:=B}) g' L' G mk.2 i.2.1 rfl i.2.2.2 i.2.2.1 i.1 D λV W X y aa=>aq<|h true V W (.inr ⟨m,X.trans F⟩) y<|sb.trans aa
  .refine Y (dd c) ?_;dsimp only;refine ck (show¬(!false&&false)=true from nofun) ?_;rw[ay c] at i;exact(aq<|(h true B T (.inr ⟨m,F⟩) ⟨es',_,f,g',L',G,Y mk.1<|Y sz i,mk.2⟩ sb))
 have both:∀o:Bool,wpAny (model prog w) A (do
   storeSet a es' (if o then f else{f with plain:=false})
   if(!false&&(if o then f else{f with plain:=false}).tooFull)=true then setRelay a (SetTable.grown<|es.size+1)
   return true) Q E s:=λo=>match o with
  |true=>rest f L' mk
  |false=>rest _ L'.plain mk
 exact eC (λZ=>ae<|wx z.key 8 prog w _ _ A s _ (n.move<|gE r) both) λZ=>bO<|both true
end
section
variable{S:aN}{μ:Lay}{s₀ h B:Heap}{G:ai}{s:Shared}{A:Around}{E:Value->Shared->Prop}{v:V}{x y:Value}{n:Nat}{prog:Program}{w:World}{d:List V}{kk:KK}{a:Addr}{es:Array (Int×Value)}{ep:Nat}{t:SetTable}
structure nr(prog:Program)(w:World)(kk:KK)(K:Type)[DecidableEq K](knd:KeyKind prog w K)(c:K->V):Prop where
 of:∀v,bK kk v->∃k,v=c k
 is:∀μ h k x,VR μ h (c k) x->knd.is k x=true/\x.scannable=true
 hash:∀k,b7 w (c k)=knd.hash k
theorem FY:nr prog w .i Int (intKind prog w) V.int:=⟨λv k=>by cases k;exact⟨_,rfl⟩,λμ h k x r=>VR.fm r λZ=>⟨d1 _,rfl⟩,λk=>rfl⟩
theorem FZ:nr prog w .s Str (strKind prog w) V.str:=⟨λv k=>by cases k;exact⟨_,rfl⟩,λμ h k x r=>VR.d5 r λZ Z=>⟨d1 _,rfl⟩,λk=>rfl⟩
theorem nr.F0{K:Type}[DecidableEq K]{knd:KeyKind prog w K}{c:K->V}(C:nr prog w kk K knd c){es:List (Int×Value)}(r:SE w μ h d es)(kd:∀u∈d,bK kk u):ElemsOf knd es:=λe m=>by refine jE (fy.mp m) λi hi=>?_;refine bE (r.at hi) λu a b f=>?_;refine jE (C.of u<|kd u<|bI a) λk g=>?_;clear a;obtain rfl:=g;have z:=C.is μ h k _ f;exact⟨⟨k,z.1,b.trans<|C.hash k⟩,z.2⟩
theorem wB{Q:Unit->Shared->Prop}{f:Bool->Sem Unit}(hf:f false=pure ())(h:Q () s):wpAny (model prog w) A (f false) Q E s:=hf▸aq h
theorem wC{K:Type}[DecidableEq K]{knd:KeyKind prog w K}{c:K->V}(C:nr prog w kk K knd c)(ag:df s₀ s.heap)(ai:f6 w μ s₀ s.heap a d)(F:VR μ s₀ v x)(O:bK kk v)(kd:∀u∈d,bK kk u)(aj:d.length<64){Q:Bool->Shared->Prop}(h:∀b,rT w μ s₀ s.heap a d v s (Q b)){P:Nat}:wpAny (model prog w) A (setAddHashedIn a x (b7 w v) (P+1)) Q E s:=by
 cases ai with|mk es ep t g L se ok ld=>
 have G:es.size<64:=Y cZ.symm<|Y se.len.symm aj;refine jE (C.of v O) λk al=>?_;obtain rfl:=al;refine jA (wz es.size G t.mask L.mask.mem ok) λam n=>?_;have I:=C.F0 se kd;have J:=C.is μ _ k x F;refine ae<|ia g rfl L.fits ?_;refine gZ (byScan_of J.2 (ei G af) I) ?_;refine ae ?_;refine e5<|ae ?_;refine Y (C.hash ..)<|wpAny_setScan_of J.1 g rfl L.fits I ?_
 have R:∀{i:Nat}{e:Int×Value}{u:V},es.toList[i]? =some e->d[i]? =some u->(knd.is k e.2=true↔u=c k):=λ{i e u} M N=>by refine bE (se.at M) λu' p Z S=>?_;obtain rfl:=aT<|p.symm.trans N;refine jE (C.of u'<|kd u'<|bI N) λan ao=>?_;clear p Z N;obtain rfl:=ao;have z:=(C.is μ _ an _ S).1;exact⟨λq=>ar c<|knd.inj _ _ _ z q,λq=>(C.is μ _ k _<|q▸S).1⟩
 clear I J;cases hf:List.findIdx? (λe=>knd.is k e.2) es.toList with
 |some j=>refine ak (List.findIdx?_eq_some_iff_getElem.mp hf) λT hp Z=>?_;refine ak (se.at<|cc T) λu p Z=>?_;clear Z;obtain rfl:=(R (cc T) p).mp hp;exact aq<|aq<|h false s.heap d (.inl ⟨bI p,rfl⟩) ⟨es,ep,t,g,L,se,ok,ld⟩<|.refl a s.heap
 |none=>
  have m:c k∉d:=λm=>by refine jE (fy.mp m) λi hi=>?_;have U:i<es.toList.length:=se.len▸(cN.mp hi).1;have z:=List.findIdx?_eq_none_iff.mp hf _<|gW U;rw[(R (cc U) hi).mpr rfl] at z;exact e4 z
  refine dE (FK L (knd.hash k) x am) λl es' M L' y ap=>?_;refine dK ap λmk Z Z as=>?_;refine jA as λo Z=>?_;refine Y M ?_;have y:es'.toList.Perm (es.toList++[(b7 w<|c k,x)]):=Y (C.hash ..)<|y.trans (by rw[jt]);have sz:es'.size=es.size+1:=by refine Y cZ.symm<|Y y.length_eq<|Y a0<|Y cZ ?_;rfl
  have W:es'.size<=1000:=Y sz<|ah (Nat.succ_le_of_lt G) af;refine ak (se.ins F y) λau X aa=>?_;refine ae<|wB rfl ?_
  have rest:∀l,Laid l es'->l.mask=t.mask->l.led=(!dm w)->∀{f:Bool->Sem Unit},f false=pure ()->wpAny (model prog w) A (do
    storeSet a es' l
    if(!false&&l.tooFull)=true then
     f (relayAll l es'<|SetTable.grown es'.size).2.2
     storeSet a (relayAll l es'<|SetTable.grown es'.size).1 (relayAll l es'<|SetTable.grown es'.size).2.1
    return some true) (λr av=>wpAny (model prog w) A (match r with|some aw=>pure aw|none=>setAddHashedIn a x (knd.hash k) P) Q E av) E s:=λl L' mk o f hf=>by
   refine ae<|pe g W λB g' sb=>?_;have ax:l.tooFull=decide ((es.size+1)*5>=t.mask*3):=by unfold SetTable.tooFull;exact Y L'.fill<|Y mk<|Y sz rfl
   refine Y ax ?_;by_cases D:(es.size+1)*5>=t.mask*3
   .refine Y (bJ D) ?_;dsimp only;refine gZ (show(!false&&true)=true from rfl) ?_;rw[az D] at n;rw[←sz] at n;refine dE (FN (t:=l) (es:=es') (wanted:=SetTable.grown es'.size) rfl (wA n.2.1) n.2.2.1) λaA ab aB aC ac aD=>?_;refine dK aD λaE Z Z aF=>?_;refine jA aF λaG Z=>?_;refine Y aB ?_;dsimp only;have ad:ab.size=es'.size:=Y cZ.symm<|Y ac.length_eq<|Y cZ rfl;refine ak (SE.perm ac.symm aa) λaH aI aJ=>?_;refine ae<|wB hf<|ae<|pe (s:={s with heap:=B}) g' (ad▸W) λaK aL aM=>aq<|aq<|h true aK aH (.inr ⟨m,aI.symm.trans X⟩) ⟨ab,_,aA,aL,aC,aJ,Y aE<|Y ad n.1,aG.trans o⟩<|sb.trans aM
   .refine Y (dd D) ?_;dsimp only;refine ck (show¬(!false&&false)=true from nofun) ?_;rw[ay D] at n;exact aq<|aq<|h true B au (.inr ⟨m,X⟩) ⟨es',_,l,g',L',aa,Y mk<|Y sz n,o⟩ sb
  exact eC (λZ=>ae (wx O.key 8 prog w _ _ A s _ (F.move (gE ag)) λaN=>match aN with
   |true=>rest l L' mk (o.trans ld) rfl
   |false=>rest {l with plain:=false} L'.plain mk (o.trans ld) rfl)) λZ=>bO (rest l L' mk (o.trans ld) rfl)
end
section
variable{S:aN}{μ:Lay}{s₀ h B:Heap}{G:ai}{s:Shared}{A:Around}{E:Value->Shared->Prop}{v:V}{x y:Value}{n:Nat}{prog:Program}{w:World}{d:List V}{kk:KK}{a:Addr}{es:Array (Int×Value)}{ep:Nat}{t:SetTable}{l:List V}
theorem f6.out(b:f6 w μ s₀ h a d)(c:∀o,h.get? a=some o->B.get? a=some o):f6 w μ s₀ B a d:=by cases b with|mk es ep t g L se ok ld=>exact⟨es,ep,t,c _ g,L,se,ok,ld⟩
noncomputable def f7(l d:List V):Prop:=d.Nodup/\∀v,v∈d↔v∈l
theorem f7.len(h:f7 l d):d.length<=l.length:=h.1.length_le_of_subset λv m=>(h.2 v).mp m
theorem f7.snoc{a:List V}(h:f7 l d)(q:v∈d/\a=d\/v∉d/\a.Perm (v::d)):f7 (l++[v]) a:=by
 rcases q with⟨m,rfl⟩|⟨m,p⟩
 .exact⟨h.1,λu=>(h.2 u).trans ⟨λz=>dJ _ z,λz=>(cD.mp z).elim id λz=>a3.mp z▸(h.2 v).mp m⟩⟩
 .refine⟨p.nodup_iff.mpr<|gX.mpr ⟨m,h.1⟩,λu=>p.mem_iff.trans ?_⟩;exact Y (propext ba)<|Y (propext cD)<|Y (propext a3)<|Y (propext<|h.2 u) or_comm
theorem F1(e:df s₀ s.heap)(j:f6 w μ s₀ s.heap a d)(f:VR μ s₀ v x)(g:bK kk v)(kd:∀u∈d,bK kk u)(k:d.length<64)(m:A.units+50<cLine){Q:Bool->Shared->Prop}(h:∀b B c tk,(v∈d/\c=d\/v∉d/\c.Perm (v::d))->f6 w μ s₀ B a c->Heap.SameBut a s.heap B->Q b {s with heap:=B,toks:=tk}):
  wpAny (model prog w) A (holding [x]<|setAdd a x) Q E s:=by
 refine eD ?_;unfold setAdd;refine eD<|ae<|qt g.key prog w _ x A s _ (f.move<|gE e) (b0 (bz af _) m) ?_;unfold setAddHashed;refine eD ?_;have l:∀b,rT w μ s₀ s.heap a d v {s with toks:=s.toks+(iQ w v).2} (Q b):=λb B c p q r=>h b B c _ p q r;cases kk with
 |s=>exact wC FZ (s:={s with toks:=s.toks+(iQ w v).2}) e j f g kd k l
 |i=>exact wC FY (s:={s with toks:=s.toks+(iQ w v).2}) e j f g kd k l
 |t=>exact FX (s:={s with toks:=s.toks+(iQ w v).2}) e j f g kd k m l
theorem wD{c:Addr}{o:Obj}(b:h.get? a=none)(e:h.get? c=some o):c≠a:=by rintro rfl;rw[b] at e;exact a4 e
theorem F2{I b:Addr}{items:Array Value}{R:Result->Shared->Prop}(hh:A.handled=none)(N:A.units+100<cLine)(p:a≠I)(O:a≠b)(P:b≠I)(C:s₀.get? a=none)(Q:s₀.get? I=none)
  (E:∀v∈l,bK kk v) (S:l.length<=64) (va:aA μ s₀ l items.toList):
  ∀(k i:Nat)(h:Heap)(tk:Nat)(d:List V),i+k=l.length->h.IsListIter I b i/\h.IsList b items->df s₀ h->f6 w μ s₀ h a d->f7 (l.take i) d->
  (∀B tk G,df s₀ B->f6 w μ s₀ B a G->f7 l G->R (.ok<|.ret .none) {s with heap:=B,toks:=tk})->codeAny (model prog w) A (.builtin "set.update.loop" ⟨[.ref a,.ref I],[]⟩) R {s with heap:=h,toks:=tk}:=by
 have W:=Walks.list (prog:=prog) (w:=w) (A:=A.in1) hh I b P items;have sz:l.length=items.size:=va.length.symm;have ne:∀{c o},s₀.get? c=some o->c≠a/\c≠I:=λe=>⟨wD C e,wD Q e⟩;have nI:∀{c},c≠I->c∉[I]:=λn z=>n<|a3.mp z;intro k;induction k with
 |zero=>intro i h tk d f it r g D j;obtain rfl:i=l.length:=f;refine hF PyProof.Rows.F.entry_set_update_loop ?_;refine Y (iJ PyProof.Rows.F.plain_set_update_loop _) ?_;show wpAny _ A.in1 (pyNext (.ref I)>>=_) _ _ _;refine ae<|W.done {s with heap:=h,toks:=tk} _ _ (sz▸it) λB t hm=>?_;exact aq<|j B t d (λc o e=>hm c o (nI (ne e).2)<|r c o e) (g.out λo e=>hm a o (nI p) e) (by rw[List.take_length] at D;exact D)
 |succ k J=>
  intro i h tk d f it r g D j;have hi:i<l.length:=f▸kx (fj k);refine hF PyProof.Rows.F.entry_set_update_loop ?_;refine Y (iJ PyProof.Rows.F.plain_set_update_loop _) ?_;show wpAny _ A.in1 (pyNext (.ref I)>>=_) _ _ _;refine ae<|W.item i {s with heap:=h,toks:=tk} _ _ (sz▸hi) it λx B t T U hm=>?_;have K:df s₀ B:=λc o e=>hm c o (nI (ne e).2)<|r c o e;have L:l[i]? =some l[i]:=cc hi;refine ak (va.get L) λy X aa=>?_;obtain rfl:y=x:=aT<|X.symm.trans<|Y cE T;have ab:∀u∈d,bK kk u:=λu m=>E u<|List.mem_of_mem_take<|(D.2 u).mp m;have dl:d.length<64:=b0 (ah D.len<|List.length_take_le _ _)<|bt hi S;show wpAny _ A.in1 (holding [y] (setAdd a y)>>=_) _ _ _;refine ae<|F1 (s:={s with heap:=B,toks:=t}) K (g.out λo e=>hm a o (nI p) e) aa (E _<|gW hi) ab dl (A1 N) λag ac ad af q M sb=>aq ⟨iN PyProof.Rows.F.plain_set_update_loop _,?_⟩;refine J (i+1) ac af ad ((Nat.succ_add_eq_add_succ i k).trans f) (W.frame _ _ _ U λc m o e=>?_) (λc o e=>(sb.2 c (ne e).1).trans<|K c o e) M (Y List.take_add_one<|Y L<|D.snoc q) j;refine(sb.2 c λz=>?_).trans e;clear C ne J g j M sb;subst z;refine Or.elim (ba.mp m) (λz=>?_) λm=>?_
  .exact p z
  .exact O<|a3.mp m
end
section
variable{S:aN}{μ:Lay}{s₀ h B:Heap}{G:ai}{s:Shared}{A:Around}{E:Value->Shared->Prop}{v:V}{x y:Value}{n:Nat}{prog:Program}{w:World}{d:List V}{kk:KK}{a:Addr}{es:Array (Int×Value)}{ep:Nat}{t:SetTable}{l:List V}
theorem F3(a:Value){Q₁:Value->Shared->Prop}(h:Q₁ (.ref s.heap.objs.size) {s with heap:=s.heap.push (eb #[] 0 (.fresh 0 0 (!dm w)))}):
  codeAny (model prog w) A (.call (.builtin "set.__new__") ⟨[.type "set",a],[]⟩) (wants Q₁ E) s:=by
 refine codeAny_of_tree ?_;refine ae<|wpAny_of_eq (F.newCall_set_1 a)<|aq ⟨iN F.plain_set_new _,hF F.entry_set_new ?_⟩;refine Y (iJ F.plain_set_new _) ?_;unfold Builtin.«set.__new__» Builtin.Frozenset.newClass;have b:=sub_set_self;obtain⟨hp,g,d,tk,os⟩:=s
 wp_walk
 refine wpAny_askSetting<|aq ?_;dsimp only;refine ae<|wpAny_alloc<|aq ?_;exact aq h
theorem F4{x:Value}{Q:Value->Shared->Prop}
  (h:wpAny (model prog w) A.in1.in1 (Builtin.«set.__init__» ⟨[.ref s.heap.objs.size,x],[]⟩)
   (λa7 b=>match a7 with| .done f=>wants (λr a=>r= .none/\Q (.ref s.heap.objs.size) a) E (.ok f) b| .again c'=>c'.quiet=true/\codeAny (model prog w) A.in1 c' (wants (λr a=>r= .none/\Q (.ref s.heap.objs.size) a) E) b)
   (λe b=>wants (λr a=>r= .none/\Q (.ref s.heap.objs.size) a) E (.error e) b) {s with heap:=s.heap.push (eb #[] 0 (.fresh 0 0 (!dm w)))}):
  wpAny (model prog w) A (call (.type "set") [x]) Q E s:=by
 refine cj F.called_set.mro λc tl o=>?_;have p:=F.called_set.made;have q:=F.called_set.sub;refine wpAny_call<|codeAny_of_tree ?_;refine aq ⟨Code.quiet_builtin _ (by decide+kernel),hF F.entry_type_call ?_⟩;refine Y (Around.under_plain (weight_type_call_type "set" [x] []) rfl) ?_;have t:=F.called_set.notType;have u:=F.called_set.canCreate;have v:=F.typeCall_set_1 x
 repeat(any_goals(first|assumption|wp_step))
 refine codeAny_mono (F3 x (E:=E) (Q₁:=λobj s₁=>obj= .ref s.heap.objs.size/\s₁={s with heap:=s.heap.push (eb #[] 0<|.fresh 0 0<|!dm w)}) ⟨rfl,rfl⟩) λr s₁ d=>?_;cases r with
 |error e=>exact d
 |ok fl=>
  cases fl with
  |ret obj=>
   refine jA d λi j=>?_;obtain rfl:=i;clear d;obtain rfl:=j;have k:Shared.TypeIs {s with heap:=s.heap.push (eb #[] 0<|.fresh 0 0<|!dm w)} (.ref s.heap.objs.size) "set":=⟨_,cy _ rfl,rfl⟩;have y:=F.called_set.init.lookup;have z:=F.called_set.init.bind<|.ref s.heap.objs.size
   repeat(any_goals(first|assumption|wp_step))
   refine codeAny_mono (codeAny_call_builtin F.called_set.init.plain F.entry_set_init<|check_set_init_1 k h) λl a g=>?_;cases l with
   |error e=>exact g
   |ok m=>
    cases m with
    |ret r=>
     refine jA g λn B=>?_;clear g;obtain rfl:=n
     repeat(any_goals(first|assumption|wp_step))
    |_=>exact g.elim
  |_=>exact d.elim
theorem F5{b:Addr}{items:Array Value}{c:Nat}{Q:Value->Shared->Prop}(hh:A.handled=none)(n:A.units+120<cLine)(g:s.heap.get? b=some (dM items c))(va:aA μ s.heap l items.toList)(p:∀v∈l,bK kk v)(q:l.length<=64)
  (h:∀B tk d,df s.heap B->f6 w μ s.heap B s.heap.objs.size d->f7 l d->Q (.ref s.heap.objs.size) {s with heap:=B,toks:=tk}):wpAny (model prog w) A (call (.type "set") [.ref b]) Q E s:=by
 refine F4 ?_;have i:=bA g;have r:(s.heap.push<|eb #[] 0<|.fresh 0 0<|!dm w).get? s.heap.objs.size=some (eb #[] 0<|.fresh 0 0<|!dm w):=cy _ rfl;have j:(s.heap.push<|eb #[] 0<|.fresh 0 0<|!dm w).get? b=some (dM items c):=bZ _ g;have k:(s.heap.push<|eb #[] 0<|.fresh 0 0<|!dm w).IsList b items:=⟨_,j,rfl,c,rfl⟩;have z:Shared.TypeIs {s with heap:=s.heap.push (eb #[] 0<|.fresh 0 0<|!dm w)} (.ref b) "list":=⟨_,j,rfl⟩;have C:=F.sub_list_set;have G:=F.sub_list_frozenset;have I:(Value.type "list"==Value.type "dict")=false:=by decide
 unfold Builtin.«set.__init__» noKeywords Builtin.Frozenset.updateFrom;generalize t:pyIter=J
 wp_walk
 subst t;refine wpAny_pyIter_list k ?_;refine ae<|wpAny_runValue ?_;have f:(s.heap.push<|eb #[] 0<|.fresh 0 0<|!dm w).objs.size=s.heap.objs.size+1:=eT _ _;refine F2 (s₀:=s.heap) (a:=s.heap.objs.size) (b:=b) (items:=items) (kk:=kk) (w:=w) (μ:=μ) (l:=l) ?_ ?_ ?_ (du i) ?_ (mW _) ?_ p q va l.length 0 _ _ [] (eE _) ⟨⟨_,cy _ rfl,rfl,rfl⟩,k.push _⟩ (λx o e=>bZ _<|bZ _ e) ⟨#[],0,_,bZ _ r,Fv 0 0 _,.nil,rfl,rfl⟩ ⟨.nil,λv=>⟨nofun,nofun⟩⟩ λB tk d u y D=>?_
 .exact hh
 .exact A1<|A1 n (m:=110)
 .exact f▸bk (eg _)
 .exact f▸bk (gn i)
 .exact f▸Heap.get?_none_of_le (fk _)
 .exact aq<|aq ⟨rfl,h B tk d u y D⟩
end
section
variable{S:aN}{μ:Lay}{s₀ h B:Heap}{G:ai}{s:Shared}{A:Around}{E:Value->Shared->Prop}{v:V}{x y:Value}{n:Nat}{prog:Program}{w:World}{d:List V}{kk:KK}{a I:Addr}{es:Array (Int×Value)}{ep i:Nat}{t:SetTable}{l:List V}
theorem wF{b:Type}:∀{l:List b}{i:Nat}{x:b},l[i]? =some x->l.Perm (x::l.eraseIdx i):=by
 intro l;induction l with
 |nil=>exactλh=>a4 h
 |cons a l c=>
  intro i x h;cases i with
  |zero=>obtain rfl:=aT h;exact .refl _
  |succ i=>exact((c (i:=i) h).cons a).trans<|.swap x a _
theorem F6{c:Type}{f:Nat->Nat}:∀(b k:Nat)(l:List c)(out:Array c),l.length<=b->(pickOrder.go f b k l out).toList.Perm (out.toList++l):=by
 intro b;induction b with
 |zero=>intro k l out h;obtain rfl:=List.eq_nil_of_length_eq_zero<|Nat.le_zero.mp h;exact Y (d2 ..)<|.refl _
 |succ b d=>
  intro k l out h;refine Y (show pickOrder.go f (b+1) k l out=(l[f k%l.length]?).elim out λx=>pickOrder.go f b (k+1) (l.eraseIdx<|f k%l.length) (out.push x) by kernel_rfl) ?_;cases e:l[f k%l.length]? with
  |none=>
   have z:l=[]:=by
    clear h;cases l with
    |nil=>rfl
    |cons a l=>exact absurd (List.getElem?_eq_none_iff.mp e)<|hH.mpr<|Nat.mod_lt _<|jv _
   clear e;subst z;exact Y (d2 ..)<|.refl _
  |some x=>have p:=wF e;have z:=d (k+1) (l.eraseIdx<|f k%l.length) (out.push x)<|Nat.le_of_succ_le_succ<|ah (bF p.length_eq.symm) h;rw[jt,gV] at z;exact z.trans<|.append_left _ p.symm
theorem F7{src:PySem.Source}{Q:Nat->Shared->Prop}(hn:n≠0)(h:∀i dr,i<n->Q i {s with drawn:=dr}):wpAny (model prog w) A (choose src n) Q E s:=λZ Z Z=>⟨hn,h _ _<|Nat.mod_lt _<|Nat.pos_of_ne_zero hn⟩
theorem wG{c:Type}:∀(n:Nat)(l:List c)(s:Shared){Q:List c->Shared->Prop},l.length<=n->(∀r dr,r.Perm l->Q r {s with drawn:=dr})->wpAny (model prog w) A (drawOrder n l) Q E s
 |0,l,s,Q,b,h=>by obtain rfl:=List.eq_nil_of_length_eq_zero<|Nat.le_zero.mp b;exact aq<|h [] s.drawn<|.refl _
 |n+1,[],s,Q,b,h=>aq<|h [] s.drawn<|.refl _
 |n+1,a::l,s,Q,b,h=>by refine ae<|F7 (Nat.succ_ne_zero _) λi dr hi=>?_;have e:(a::l)[i]? =some (a::l)[i]:=cc hi;refine Y e ?_;have p:=wF e;exact ae<|wG n _ _ (Nat.le_of_succ_le_succ<|ah (bF p.length_eq.symm) b) λr d q=>aq<|h _ d<|(q.cons _).trans p.symm
theorem F8:entryFor table "set.__iter__"=some Builtin.«frozenset.__iter__»:=entryFor_alias (id':="frozenset.__iter__") (by kernel_rfl) rfl (by decide+kernel) (by kernel_rfl)
theorem nt:Slot "set_iterator" "__next__" "set_iterator.__next__":=
 .of (owner:="set_iterator") (n:="__next__") (by refine Y (typeLookup_type ..)<|Y builtinLookup_eq_fast ?_;kernel_rfl) (by decide+kernel) (by decide+kernel) (by decide+kernel)
  (by first|exact .inl (by decide+kernel)|exact .inr (by decide+kernel)) (by refine Y (isSubtype_type ..) ?_;kernel_rfl)
theorem wH:entryFor table "set_iterator.__next__"=some Builtin.«set_iterator.__next__»:=entryFor_of_tree (by kernel_rfl)
theorem F9:Manifest.owners.lookup (String.ofList ['r','o','t','a','r','e','t','i','_','t','e','s'].reverse)=some Manifest.sig_set_iterator:=by kernel_rfl
theorem wI(a:Value):argsOk "set_iterator.__next__" ⟨[a],[]⟩:=by unfold argsOk;refine Y (signature?_of (id:="set_iterator.__next__") (n:=['_','_','t','x','e','n','_','_']) (o:=['r','o','t','a','r','e','t','i','_','t','e','s']) (by kernel_rfl) F9) ?_;kernel_rfl
noncomputable def iv(f:Value)(a:Addr)(i n ep:Nat):Obj:={cls:= .type "set_iterator",data:= .fields #[f,.int i 0,.ref a,.int n 0,.int ep 0]}
end
section
variable{S:aN}{μ:Lay}{s₀ h B:Heap}{G:ai}{s:Shared}{A:Around}{E:Value->Shared->Prop}{v:V}{x y f:Value}{n:Nat}{prog:Program}{w:World}{d:List V}{kk:KK}{a I Sn:Addr}{es:Array (Int×Value)}{ep i:Nat}{t:SetTable}{l:List V}{out:List Value}
inductive fb(w:World)(h:Heap)(Sn I a:Addr)(es:Array (Int×Value))(ep:Nat)(t:SetTable)(out:List Value):Value->Nat->Prop
 |text (i:Nat):dm w=true->out=(pickOrder (w.params.setOrder a ep) es).toList.map (·.2)->fb w h Sn I a es ep t out (.int 0 0) i
 |slot (i j:Nat):dm w=false->(!t.plain&&decide (es.size>1))=false->out=es.toList.map (·.2)->SetTable.below t.place j=i->fb w h Sn I a es ep t out (.int j 0) i
 |draw (i:Nat) (p:Addr) (ps:List Nat):dm w=false->h.get? p=some (fE (ps.map λk:Nat=>rawInt k).toArray 0)->p≠Sn->p≠I->out=ps.map (λk:Nat=>(es[k]?.map (·.2)).getD .none)->(∀k∈ps,k<es.size)->fb w h Sn I a es ep t out (.ref p) i
theorem wJ{j:Int}{Q:Option (Value×Nat)->Shared->Prop}(M:fb w h Sn I a es ep t out (.int j 0) i)(L:Laid t es)(ld:t.led= !dm w)(g:s.heap.get? a=some (eb es ep t))
  (n:∀(r:Option (Value×Nat)),(out[i]? =none->r=none)->(∀x,out[i]? =some x->∃o:Nat,r=some (x,o)/\∀B,fb w B Sn I a es ep t out (.int o 0)<|i+1)->Q r s):wpAny (model prog w) A (setNext a j.toNat i ep) Q E s:=by
 refine ae<|ia g rfl L.fits ?_;refine ae<|ae<|wpAny_askSetting<|aq ?_;cases M with
 |text i b e=>
  refine eC (λZ=>?_) λc=>absurd b c;refine eC (λc=>absurd c (by refine Y (bne_self_eq_false ..) ?_;nofun)) λZ=>?_;refine ae<|ae<|ia g rfl L.fits ?_;refine ae<|ae<|wpAny_askSetting<|aq ?_;refine eC (λZ=>?_) λc=>absurd b c;refine ae<|wpAny_askSetting<|aq<|aq<|n _ (λq=>?_) λx q=>?_
  all_goals
   rw[e,b9,cE] at q
  .exact Option.map_eq_none_iff.mpr<|Option.map_eq_none_iff.mp q
  .refine ak (dY.mp q) λz d C=>?_;clear q;obtain rfl:=C;exact⟨0,ar (Option.map λe:Int×Value=>(e.2,0)) d,λB=> .text _ b e⟩
 |slot i j b hp e D=>
  refine eC (λc=>nomatch c.symm.trans b) λZ=>?_;refine eC (λc=>absurd c (by show¬((!t.plain&&decide (es.size>1))=true);refine Y hp ?_;nofun)) λZ=>?_;refine ae ?_;have lt:t.led=true:=ld.trans (by refine Y b ?_;rfl);refine eC (λc=>absurd c (by refine Y lt ?_;nofun)) λZ=>aq ?_;refine Y (fR ..)<|Y D<|aq<|n _ (λq=>?_) λx q=>?_
  all_goals
   rw[e,b9,cE] at q
  .exact Y (Option.map_eq_none_iff.mp q) rfl
  .refine ak (dY.mp q) λz d F=>?_;clear q;obtain rfl:=F;have f:=(gT.mp d).1;have l:t.place[i]? =some (t.place[i]'(L.size▸f)):=dI<|L.size▸f;refine Y d<|Y l ⟨_,rfl,λB=> .slot _ _ b hp e ?_⟩;refine b1 (nk L.rise<|t.place[i]'(L.size▸f)+1) λp u v=>?_;generalize SetTable.below t.place (t.place[i]'(L.size▸f)+1)=m at p u v;refine Or.elim (Nat.lt_trichotomy m<|i+1) (λk=>?_) λG=>Or.elim G (λk=>?_) λk=>?_
   .exact absurd (v i _ (c6 k) l)<|Nat.not_succ_le_self _
   .exact k
   .have J:i+1<t.place.size:=bt k p;have y:t.place[i+1]? =some t.place[i+1]:=dI J;exact absurd (u _ _ k y)<|cJ.mpr<|L.rise _ _ _ _ (eg i) l y
theorem Ga{Q:Option Value->Shared->Prop}(h:s.heap.get? I=some (iv f a i es.size ep))(M:fb w s.heap Sn I a es ep t out f i)(L:Laid t es)(ld:t.led= !dm w)(g:s.heap.get? a=some (eb es ep t))(l:out[i]? =some x)
  (m:∀B f',B.get? I=some (iv f' a (i+1) es.size ep)->fb w B Sn I a es ep t out f' (i+1)->(∀b o,b≠I->s.heap.get? b=some o->B.get? b=some o)->Q (some x) {s with heap:=B}):wpAny (model prog w) A (pyNext<|.ref I) Q E s:=by
 have y:s.TypeIs (.ref I) "set_iterator":=⟨_,h,rfl⟩;refine ae<|jB<|gk (name:=Str.ofString "__next__") y nt<|da nt y wH ?_<|wI _;refine bO ?_;refine ae<|wpAny_fieldsOf h rfl ?_;dsimp only;refine ae<|wpAny_setEntries_of g rfl L.fits ?_;refine Y (ay (show¬(((es.size:Int)!=(es.size:Int))=true) from by rw[bne_self_eq_false];nofun)) ?_
 have z:∀{j:Nat},s.heap.get? I=some (iv (.int j 0) a i es.size ep)->fb w s.heap Sn I a es ep t out (.int j 0) i->wpAny (model prog w) A.in1 (do
   match←setNext a (j:Int).toNat (i:Int).toNat (ep:Int).toNat with
   |some (x,next)=>
    setField (.ref I) 0 (rawInt next)
    setField (.ref I) 1 (rawInt<|i+1)
    ret x
   |none=>setField (.ref I) 2 .none;raiseNew (←newExc (.type "StopIteration") []))
   (λa7 n=>∃v,a7=PySem.Fin.done (Flow.ret v)/\wpAny (model prog w) A (pure<|some v) Q E n) (λe n=>wpAny (model prog w) A (do if←isInstance e (.type "StopIteration") then pure none else throw e) Q E n) s:=λ{j} h M=>by
  refine Y (fR i)<|Y (fR ep)<|ae<|wJ M L ld g λr Z C=>?_;refine ak (C x l) λW O P=>?_;clear Z C;obtain rfl:=O;refine ae<|fz h (by show 0<5;decide) λq u s1=>?_;refine ae<|fz (s:={s with heap:=q}) u (by show 1<5;decide) λD R s2=>?_;exact aq ⟨_,rfl,aq<|m D _ R (P D) λb o d e=>s2.extBut b o d<|s1.extBut b o d e⟩
 cases M with
 |text i d e=>exact z h<|.text i d e
 |slot i j d hp e S=>exact z h<|.slot i j d hp e S
 |draw i p ps d F T G e J=>
  rw[e,b9] at l;refine ak (dY.mp l) λk K U=>?_;clear l;obtain rfl:=U;refine ae<|gv F rfl ?_;dsimp only;have hp:(ps.map λk:Nat=>rawInt k).toArray[((i:Int).toNat)]? =some (.int k 0):=by refine Y (fR ..)<|Y List.getElem?_toArray<|Y b9<|Y K ?_;rfl
  have V:=J k<|bI K;have N:es[k]? =some es[k]:=dI V;refine Y hp<|ae<|ae<|ia g rfl L.fits ?_;refine eC (λc=>absurd c (by refine Y (fR ..)<|Y (bne_self_eq_false ..) ?_;nofun)) λZ=>?_;refine Y (fR k)<|Y N<|aq<|ae<|fz h (by show 1<5;decide) λq u s1=>?_;rw[N] at m;exact aq ⟨_,rfl,aq<|m q _ u (.draw _ p ps d (s1.extBut _ _ G F) T G e J) λb o d e=>s1.extBut b o d e⟩
theorem Gd{Q:Option Value->Shared->Prop}(hh:A.handled=none)(l:s.heap.get? I=some (iv f a out.length es.size ep))(M:fb w s.heap Sn I a es ep t out f out.length)(L:Laid t es)(ld:t.led= !dm w)(g:s.heap.get? a=some (eb es ep t))
  (z:∀B,Heap.ExtBut I s.heap B->Q none {s with heap:=B}):wpAny (model prog w) A (pyNext<|.ref I) Q E s:=by
 have q:s.TypeIs (.ref I) "set_iterator":=⟨_,l,rfl⟩;have C:out[out.length]? =none:=ez<|aM _;refine ae<|jB<|gk (name:=Str.ofString "__next__") q nt<|da nt q wH ?_<|wI _;refine bO ?_;refine ae<|wpAny_fieldsOf l rfl ?_;dsimp only;refine ae<|wpAny_setEntries_of g rfl L.fits ?_;refine ck (show¬(((es.size:Int)!=(es.size:Int))=true) from by refine Y (bne_self_eq_false ..) ?_;nofun) ?_
 have stop:∀{m},Heap.ExtBut I s.heap m->wpAny (model prog w) A.in1 (do raiseNew (←newExc (.type "StopIteration") []))
   (λa7 d=>∃v,a7=PySem.Fin.done (Flow.ret v)/\wpAny (model prog w) A (pure<|some v) Q E d) (λe d=>wpAny (model prog w) A (do if←isInstance e (.type "StopIteration") then pure none else throw e) Q E d) {s with heap:=m}:=λ{m} s1=>
  bU (qN (s:={s with heap:=m}) (I:=I) (Q:=Q) (E:=E) hh λD F=>z D λb o c e=>F b o c<|s1 b o c e) (λZ Z h=>h.elim) λe d h=>h
 have u:∀{j:Nat},s.heap.get? I=some (iv (.int j 0) a out.length es.size ep)->fb w s.heap Sn I a es ep t out (.int j 0) out.length->wpAny (model prog w) A.in1 (do
   match←setNext a (j:Int).toNat (out.length:Int).toNat (ep:Int).toNat with
   |some (x,next)=>
    setField (.ref I) 0 (rawInt next)
    setField (.ref I) 1 (rawInt<|out.length+1)
    ret x
   |none=>setField (.ref I) 2 .none;raiseNew (←newExc (.type "StopIteration") []))
   (λa7 d=>∃v,a7=PySem.Fin.done (Flow.ret v)/\wpAny (model prog w) A (pure<|some v) Q E d) (λe d=>wpAny (model prog w) A (do if←isInstance e (.type "StopIteration") then pure none else throw e) Q E d) s:=λ{j} l M=>by
  refine Y (fR out.length)<|Y (fR ep)<|ae<|wJ M L ld g λr G Z=>?_;clear Z;obtain rfl:=G C;exact ae<|fz l (by show 2<5;decide) λm y s1=>stop s1.extBut
 generalize hn:out.length=n at*;cases M with
 |text i c e=>exact u l<|.text n c e
 |slot i j c hp e J=>exact u l<|.slot n j c hp e J
 |draw i p ps c K N O e P=>
  refine ae<|gv K rfl ?_;dsimp only;have hp:(ps.map λk:Nat=>rawInt k).toArray[((n:Int).toNat)]? =none:=by rw[fR,List.getElem?_toArray,ez];exact Y hn.symm<|Y e<|Y (aV ..)<|Y (aV ..)<|aM _
  exact Y hp<|ae<|fz l (by show 0<5;decide) λm y s1=>ae<|fz (s:={s with heap:=m}) y (by show 2<5;decide) λR S s2=>stop λb o c e=>s2.extBut b o c<|s1.extBut b o c e
end
section
variable{S:aN}{μ:Lay}{s₀ h B:Heap}{G:ai}{s:Shared}{A:Around}{E:Value->Shared->Prop}{v:V}{x y f:Value}{n:Nat}{prog:Program}{w:World}{d:List V}{kk:KK}{a I Sn:Addr}{es:Array (Int×Value)}{ep i:Nat}{t:SetTable}{l:List V}{out:List Value}
theorem fb.move{f:Value}(M:fb w h Sn I a es ep t out f i)(k:∀b o,b≠Sn->b≠I->h.get? b=some o->B.get? b=some o):fb w B Sn I a es ep t out f i:=by
 cases M with
 |text i b e=>exact .text _ b e
 |slot i j b p e z=>exact .slot _ j b p e z
 |draw i p ps b g c d e z=>exact .draw _ p ps b (k _ _ c d g) c d e z
theorem Ge(f:Nat->Nat)(es:Array (Int×Value)):((pickOrder f es).toList.map (·.2)).Perm (es.toList.map (·.2)):=(F6 es.size 0 es.toList #[]<|bF cZ).map _
theorem Gf(es:Array (Int×Value)):(List.range es.size).map (λk:Nat=>(es[k]?.map (·.2)).getD .none)=es.toList.map (·.2):=by
 refine ic λi=>?_;refine Y b9<|Y b9<|Y (cE (xs:=es)) ?_;by_cases c:i<es.size
 .refine Y (h7 c) (Y (dI c) ?_);exact ar (λz:Option (Int×Value)=>some ((z.map (·.2)).getD .none))<|dI c
 .refine Y (ez (by rw[cF];exact cJ.mp c))<|Y (kz<|cJ.mp c) ?_;rfl
theorem Gg(L:Laid t es):SetTable.below t.place 0=0:=by
 refine b1 (nk L.rise 0) λa b c=>?_;generalize SetTable.below t.place 0=m at a b c;clear c;cases m with
 |zero=>rfl
 |succ m=>exact absurd (b 0 _ (jv _)<|dI<|bt (jv _) a)<|jx _
theorem Gh{Q:Value->Shared->Prop}(g:s.heap.get? a=some (eb es ep t))(L:Laid t es)(ld:t.led= !dm w)(hz:es.size<=sizeLine)(l:Sn<s.heap.objs.size)
  (m:∀f d dr out,df s.heap d->s.heap.objs.size<=d.objs.size->out.Perm (es.toList.map (·.2))->fb w (d.push<|iv f a 0 es.size ep) Sn d.objs.size a es ep t out f 0->Q (.ref d.objs.size) {s with heap:=d.push<|iv f a 0 es.size ep,drawn:=dr}):wpAny (model prog w) A (pyIter<|.ref a) Q E s:=by
 have i:s.TypeIs (.ref a) "set":=⟨_,g,rfl⟩
 have a7:∀(f:Value)(d:Heap) dr out,df s.heap d->s.heap.objs.size<=d.objs.size->out.Perm (es.toList.map (·.2))->fb w (d.push (iv f a 0 es.size ep)) Sn d.objs.size a es ep t out f 0->wpAny (model prog w) A.in1 (do
   let ep'←setEpoch a;let v←newFields "set_iterator" [f,rawInt 0,.ref a,rawInt es.size,rawInt ep']
   ret v) (λa7 j=>∃v,a7=PySem.Fin.done (Flow.ret v)/\∃T r,j.TypeIs v T/\typeLookup (.type T) "__next__"=pure (some r)/\Q v j) E {s with heap:=d,drawn:=dr}:=λf d dr out k z p M=>by
  refine ae<|wpAny_setEpoch_of (k _ _ g) rfl L.fits ?_;exact ae<|ib (aq ⟨_,rfl,"set_iterator",_,⟨_,cy _ rfl,rfl⟩,nt.lookup,m f d dr out k z p M⟩) (by show 5<=sizeLine+2;decide)
 refine wpAny_pyIter_slot i F.slot_set_iter<|da F.slot_set_iter i F8 ?_<|F.args_set_iter_1 _;refine bO ?_;refine ae<|ae<|wpAny_setEntries_of g rfl L.fits<|aq ?_;refine ae ?_;refine ae<|ia g rfl L.fits ?_;refine ae<|ae<|wpAny_askSetting<|aq<|aq ?_;cases h:dm w with
 |true=>refine eC (λc=>?_) λZ=>bO<|a7 _ s.heap s.drawn _ (λZ Z e=>e) (aM _) (Ge _ _)<|.text 0 h rfl;have c:(!dm w&&_)=true:=c;rw[h] at c;exact b3 c
 |false=>
  refine eC (λc=>?_) λc=>bO<|a7 _ s.heap s.drawn _ (λZ Z e=>e) (aM _) (.refl _)<|.slot 0 0 h (kE.mpr λz=>c (by show(!dm w&&(!t.plain&&decide (es.size>1)))=true;rw[h,z];rfl)) rfl<|Gg L;refine ae<|wG es.size (List.range es.size) s (Y cF<|aM _) λr dr p=>?_;refine ae<|wpAny_newTuple ?_ ?_
  rotate_left
  ·(exact Y (aV ..)<|Y p.length_eq<|Y cF hz)
  have q:=p.map λk:Nat=>(es[k]?.map (·.2)).getD .none;rw[Gf] at q;refine a7 _ (s.heap.push<|fE (r.map λk:Nat=>rawInt k).toArray 0) dr _ (λb o e=>bZ _ e) (Y (size_push' ..)<|fk _) q ?_;exact .draw 0 _ r h (bZ _<|cy _ rfl) (du l) (Y (size_push' ..)<|bk<|eg _) rfl λk n=>cz.mp<|p.mem_iff.mp n
end
section
variable{S:aN}{μ:Lay}{s₀ h B:Heap}{G:ai}{s:Shared}{A:Around}{E:Value->Shared->Prop}{v:V}{x y f:Value}{n:Nat}{prog:Program}{w:World}{d:List V}{kk:KK}{a I Sn:Addr}{es:Array (Int×Value)}{ep i:Nat}{t:SetTable}{l:List V}{out:List Value}
structure wK(w:World)(Sn a:Addr)(es:Array (Int×Value))(ep:Nat)(t:SetTable)(I:Addr)(i:Nat)(h:Heap)(acc:List Value):Prop where
 it:∃f out,h.get? I=some (iv f a i es.size ep)/\fb w h Sn I a es ep t out f i/\out.Perm (es.toList.map (·.2))/\acc=out.take i
 set:h.get? a=some (eb es ep t)
 nI:I≠Sn
 rU:a≠Sn
 rV:I≠a
theorem rW{out:List Value}(p:out.Perm (es.toList.map (·.2))):out.length=es.size:=Y p.length_eq<|Y (aV ..)<|Y cZ rfl
theorem Gi(L:Laid t es)(ld:t.led= !dm w):kO prog w Sn es.size (wK w Sn a es ep t) where
 mU:=λI i h B acc j k=>by refine dE j.it λf out g M p e=>?_;exact⟨⟨f,out,k _ _ j.nI g,M.move λb o n Z q=>k b o n q,p,e⟩,k _ _ j.rU j.set,j.nI,j.rU,j.rV⟩
 next:=λA E Q s I i acc hh hi m j c=>by refine dE j.it λf out g M p e=>?_;have lo:i<out.length:=rW p▸hi;exact Ga g M L ld j.set (cc lo) λB f' g' d k=>c _ _ s.toks ⟨⟨f',out,g',d,p,by refine Y e<|Y List.take_succ<|Y (cc lo) ?_;rfl⟩,k _ _ (cO j.rV) j.set,j.nI,j.rU,j.rV⟩ k
 done:=λA E Q s I acc hh j c=>by
  refine dE j.it λf out g M p e=>?_
  have key:∀k,k=out.length->s.heap.get? I=some (iv f a k es.size ep)->fb w s.heap Sn I a es ep t out f k->wpAny (model prog w) A (pyNext<|.ref I) Q E s:=λk e g M=>by subst e;exact Gd hh g M L ld j.set λB l=>c B s.toks λb o n q=>l b o n q
  exact key _ (rW p).symm g M
 apart:=λI i h acc j=>j.nI
theorem Gj{Q:Bool->Shared->Prop}(c:s.TypeIs (.ref a) "set")(h:Q false s):wpAny (model prog w) A (Builtin.List.listLengthHint (.ref a)) Q E s:=by
 refine ae<|iL c PySem.F.slot_set_len.lookup ?_;generalize e:("set.__len__":String)=f
 wp_delta
 refine Y (show splitId f=some ("set","__len__") from by subst e;decide+kernel) ?_;subst e;refine ae<|kF (T:="set") (b:=true) c (by refine Y (isSubtype_type ..) ?_;kernel_rfl) ?_;refine eC (λd=>absurd d af) λZ=>?_;refine eC (λZ=>?_) λd=>absurd (by decide+kernel) d;refine ae<|wpAny_typeOf c ?_;exact aq h
theorem Gk(g:s.heap.get? a=some (eb es ep t))(L:Laid t es)(ld:t.led= !dm w)(hz:es.size<=sizeLine)(i:s.heap.get? Sn=none):Source prog w s a Sn es.size (wK w Sn a es ep t):=
 have b:a≠Sn:=λq=>(iP<|(q▸g).symm.trans i)
 {typ:=⟨"set",λc k=>⟨_,k a _ b g,rfl⟩,by decide,by decide⟩
  ne:=cO b
  iter:=λA E Q c k e d=>Gh (k a _ b g) L ld hz e λf j dr out h z p M=>
   have g':=h _ _<|k a _ b g
   d _ _ _ ⟨⟨f,out,cy _ rfl,M,p,rfl⟩,bZ _ g',du<|bt e z,b,du<|bA g'⟩ h
  hint:=λA E Q c k d=>Gj ⟨_,k a _ b g,rfl⟩ (d false c.toks)}
theorem Gl:∀{xs b:List Value},xs.Perm b->∀{d:List V},aA μ h d xs->∃c,d.Perm c/\aA μ h c b:=by
 intro xs b p;induction p with
 |nil=>exactλr=>⟨_,.refl _,r⟩
 |cons e _ f=>
  intro d r;cases r with|cons Z v Z Z a r=>
  refine ak (f r) λc q g=>?_;exact⟨_,q.cons _,.cons _ _ _ _ a g⟩
 |swap e e' l=>intro d r;refine aA.tw r λZ Z a r=>?_;refine aA.tw r λZ Z a' r=>?_;exact⟨_,.swap _ _ _,.cons _ _ _ _ a'<|.cons _ _ _ _ a r⟩
 |trans _ _ i j=>intro d r;refine ak (i r) λt k m=>?_;refine ak (j m) λn o s=>?_;exact⟨n,k.trans o,s⟩
theorem wL{m n:Nat}(h:k8 m n=true):n<=64:=by
 unfold k8 at h;rw[Bool.or_eq_true,Bool.or_eq_true,kG,kG,kG] at h;rcases h with(h|h)|h
 .exact ah (cf h.2) af
 .exact ah (cf h.2) af
 .exact cf h.2
theorem f7.perm{l d a:List V}(D:f7 l d)(p:d.Perm a):f7 l a:=⟨p.nodup_iff.mp D.1,λv=>(p.mem_iff.symm).trans<|D.2 v⟩
variable{Γ:bl}{env:Env}
theorem wM{K:ai->List V->(V->ai->Prop)->Prop}{id:Str}{k:String}(hh:A.handled=none)(y:A.units+120<cLine)(hg:S.mg "set"=none/\S.mb "set"=some (.type "set"))(hs:S.mg id=none/\S.mb id=some (.builtin k))
  (hf:∀{c:Lay}{q:ai}{s:Shared}{h₀:Heap}{a:Addr}{l d:List V}{P:V->ai->Prop},St S c q s.heap->df h₀ s.heap->f6 S.w c h₀ s.heap a d->f7 l d->(∀f,f7 l f->K q f P)->wpAny (model S.prog S.w) A (call (.builtin k) [.ref a]) (Rs S c s P) bq s):
  kW S A id λG v P=>dj G v λZ l=>rx l λd=>K G d P:=λΓ env a m N z p p2 F C E jU J=> .value (λμ s l G P I hm=>by
  refine ju<|lV F C hs.1 hs.2 I<|jQ (.b _) rfl<|hQ rfl ?_;show wpAny _ _ (spliced [(false,eval (.Call (.Name "set" z) [a] [] p2) env)]) _ _ _;refine kD ?_;have e:backTo p2 (starEach [a] env)=backTo p2 [(false,eval a env)]:=ar (backTo p2)<|lT jU;refine ju<|lV F E hg.1 hg.2 I<|jQ (.t _) (by refine Y e ?_;rfl)<|hQ (by refine Y e ?_;rfl) ?_;refine Y e ?_;show wpAny _ _ (spliced [(false,eval a env)]) _ _ _;refine kD<|b4 J I hm λc v O Q s₁ u t r hm=>lH<|d7 ?_;refine dU u.st r hm λi b l vs n Z R T g va h=>?_;refine jE h.1 λkk L=>?_;refine F5 hh y g va L h.2.1 λB tk d j M D hz=>lH (g5 (t.trans (.keeps (λb o e=>j b o e) hz tk)) (hf (s:={s₁ with heap:=B,toks:=tk}) (u.st.keeps (λb o e=>j b o e) hz) j M D λf x=>h.2.2 f x.1 x.2))) rfl
theorem Gn(hh:A.handled=none)(h:A.units+120<cLine)(hg:S.mg "set"=none/\S.mb "set"=some (.type "set"))(hs:S.mg "sorted"=none/\S.mb "sorted"=some (.builtin "sorted")):kW S A "sorted" hk:=
 wM (K:=λG d P=>lR G d P) hh h hg hs λ{v w s h₀ a l d P} st i k D c=>oz (D:=f7 l) st h c λE R m=>by
  cases k with|mk es ep t g L se ok ld=>
  have z:=wL ok;refine qM (Gi L ld) (Gk g L ld (ah z af)<|mW _) hh (ah z af) λB tk dr acc x n c=>?_;refine b6 n λI y Z j Z=>?_;refine dE j.it λf out Z Z p e=>?_;refine ak (Gl p.symm se.vals) λu q r=>?_;rw[List.take_of_length_le<|bF<|rW p] at e;exact m B tk dr u acc (D.perm q) c<|e▸r.move (gE λb o e=>c b o<|i b o e)
theorem Gp(hh:A.handled=none)(b:A.units+120<cLine)(hg:S.mg "set"=none/\S.mb "set"=some (.type "set"))(hs:S.mg "len"=none/\S.mb "len"=some (.builtin "len")):kW S A "len" lX:=
 wM (K:=λG d P=>P (.int d.length) G) hh b hg hs λ{c i s h₀ a l d P} st j f D h=>by
  cases f with|mk es ep t g L se ok ld=>
  have z:=wL ok
  have q:∀t k,Rs S c s P (.int es.size t) {s with toks:=k}:=λt k=>by have e:d.length=es.size:=se.len.trans cZ;exact Y e.symm<|kL st _ _ _<|h d D
  exact call_len_set g ⟨rfl,rfl,rfl⟩ rfl L.fits (qE<|ah z af)<|q _ _
end
end
end Mine
namespace Mine.Hd
noncomputable abbrev pw:Program:=PySem.Challenge.pw_pq0092_01
noncomputable def n:Value:= .none
noncomputable def tt:Value:= .bool true
noncomputable def ff:Value:= .bool false
noncomputable def r(a:Nat):Value:= .ref a
noncomputable def i(k:Nat):Value:= .int k 0
noncomputable def s(x:Str)(k:Nat):Value:= .str x k
noncomputable def t(x:String):Value:= .type x
noncomputable def b(x:String):Value:= .builtin x
noncomputable def e(P:Params)(x:Str)(k:Nat)(v:Value):DictEntry:=⟨PyData.keyHash P x,.str x k,v⟩
noncomputable def tu(l:List Value):Obj:=⟨.type "tuple",none,.seq l.toArray 0, #[]⟩
noncomputable def fl(l:List Value):Obj:=⟨.none,none,.fields l.toArray, #[]⟩
noncomputable def fx(x:String)(l:List Value):Obj:=⟨.type x,none,.fields l.toArray, #[]⟩
noncomputable def ja(k:Nat)(l:List DictEntry):Obj:=⟨.type "dict",none,.dict l.toArray k, #[]⟩
noncomputable def dn(k:Nat)(l:List DictEntry):Obj:=⟨.none,none,.dict l.toArray k, #[]⟩
noncomputable def fr(x:String)(l:List (Option Value)):Obj:=⟨.type x,none,.plain,l.toArray⟩
noncomputable def ce(l:List (Option Value)):Obj:=⟨.type "cell",none,.cell<|l.headD none, #[]⟩
noncomputable def cl(x:Str)(bs mro:List Value)(ns:Nat)(q:Str)(sub:List Value)(sl:List (Option Value)):Obj:=⟨.type "type",none,.cls {name:=x,bases:=bs,mro:=mro,ns:=ns,qualname:=q,subclasses:=sub},sl.toArray⟩
noncomputable def cC(k:Nat):Stmt:=pw.main.body.getD k<|.Pass ⟨0,0,0,0⟩
noncomputable def rI:Stmt->List Stmt
 | .ClassDef _ _ _ b .. =>b
 |_=>[]
noncomputable def bX(k j:Nat):Stmt:=(rI<|cC k).getD j<|.Pass ⟨0,0,0,0⟩
noncomputable def fo(st:Stmt)(c:Value)(q:Str)(g:Nat)(d code ct:Value)(d9:List (Str×Nat)):Obj:=match st with
 | .FunctionDef x a b _ _ _ e _ _ _=>⟨c,none,.func {name:=x,qualname:=q,params:=a,body:= .stmts b,scope:=e,globals:=g,closure:=d9,defaults:= .none,kwdefaults:= .none,pyModule:=d,code:=code,closureTuple:=ct}, #[]⟩
 |_=>fl []
noncomputable def fp(st:Stmt)(q:Str):Obj:=fo st .none q 0 .none .none .none []
noncomputable def fn(st:Stmt)(q:Str)(a code ct:Value)(d9:List (Str×Nat)):Obj:=fo st (.type "function") q 3 a code ct d9
noncomputable def m3(P:Params):List DictEntry:=[e P "__doc__" 166 n,e P "__package__" 167 n,e P "__loader__" 168<|b "__main__.__loader__#opaque",e P "__spec__" 169 n,e P "__annotations__" 170<|r 6,e P "__builtins__" 171<|r 4,e P "__file__" 173<|s "/claim/cut.py" 172,e P "__cached__" 174 n,e P "_wall" 193<|r 21,e P "HeapError" 233<|r 47,e P "TermFault" 249<|r 60,e P "RuleFault" 265<|r 72,e P "is_op" 273<|r 79,e P "is_variable" 280<|r 86,e P "variables" 286<|r 91,e P "parts" 292<|r 96,e P "renamed" 298<|r 101,e P "Bank" 429<|r 203,e P "Unions" 533<|r 285,e P "Heap" 699<|r 415,e P "Walker" 753<|r 453,e P "ORDERS" 759<|r 458,e P "Rule" 796<|r 480,e P "Placer" 850<|r 518,e P "Runner" 931<|r 573,e P "is_given" 939<|r 582,e P "without_given" 945<|r 587,e P "_law_swap" 954<|r 594,e P "_law_next" 963<|r 601,e P "_law_leaf" 970<|r 608,e P "_law_side" 978<|r 615,e P "_law_pairs" 988<|r 622,e P "_law_plain" 995<|r 629,e P "_law_inside" 1001<|r 634,e P "_law_follows" 1007<|r 639,e P "law" 1013<|r 644]
noncomputable def rX:List Value:=[(i 1),(i 0),(r 20),(i 5),(i 0),(r 28),(i 13),(i 0),(r 56),(i 15),(i 0),(r 68),(i 18),(i 0),(r 78),(i 20),(i 0),(r 85),(i 22),(i 0),(r 90),(i 24),(i 0),(r 95),(i 29),(i 0),(r 100),(i 31),(i 0),(r 107),(i 101),(i 0),(r 213),(i 148),(i 0),(r 295),(i 230),(i 0),(r 425),(i 260),(i 0),(r 464),(i 280),(i 0),(r 490),(i 300),(i 0),(r 528),(i 372),(i 0),(r 581),(i 383),(i 0),(r 586),(i 392),(i 0),(r 600),(i 396),(i 0),(r 607),(i 398),(i 0),(r 614),(i 405),(i 0),(r 621),(i 416),(i 0),(r 628),(i 420),(i 0),(r 633),(i 422),(i 0),(r 638),(i 442),(i 0),(r 643)]
noncomputable def rY(k:Nat):Obj:=cl "HeapError" [t "Exception"] [r 47,t "Exception",t "BaseException",t "object"] 46 "HeapError" (([r 60,r 72]:List Value).take k) [some<|r 22,none,some<|s "HeapError" 196,some<|s "HeapError" 204,some<|b "Exception.__new__",some tt]
noncomputable abbrev FI:=Str×Str×Nat×Nat×List Str
noncomputable def kd(f:FI):List Str:=f.2.2.2.2
noncomputable def ln(f:FI):Nat:=f.2.2.1
noncomputable def sz(f:FI):Nat:=bif (kd f).isEmpty then 5 else 7
noncomputable def wN(k:Nat)(l:List Str):List Value:=l.zipIdx.map λx=>s x.1<|k+x.2
noncomputable def cd(nm q:Str)(l c t k:Nat)(m:List Value):Obj:=fx "code"<|[s nm t,s q<|t+1,s "/claim/cut.py"<|t+2,i l,i c]++(m++[i<|t+3+k,i l,s "/claim/cut.py"<|t+4+k])
noncomputable def fA(st:Stmt)(f:FI)(b:Value)(a t:Nat):List Obj:=
 bif (kd f).isEmpty then[tu [],fl [],fp st f.2.1,cd f.1 f.2.1 (ln f) f.2.2.2.1 t 0 [i 0,i 0,i 3,r a,tt,i 181,r<|a+1,n,n,n,r<|a+2],fn st f.2.1 b (r<|a+3) n []]
 else[tu [],fl [],tu<|wN (t+3)<|kd f,tu [],fp st f.2.1,cd f.1 f.2.1 (ln f) f.2.2.2.1 t (kd f).length [i 0,i 0,i 3,r a,tt,i 181,r<|a+1,n,r<|a+2,r<|a+3,r<|a+4],fn st f.2.1 b (r<|a+5) n []]
noncomputable def fs(k:Nat)(b:Value)(l:List FI):Nat->Nat->Nat->List Obj:=l.foldr (λf g j a t=>fA (bX k j) f b a t++g (j+1) (a+sz f) (t+6+(kd f).length)) λ_ _ _=>[]
noncomputable def ks(P:Params)(l:List FI):Nat->Nat->(Nat->Nat->List DictEntry)->List DictEntry:=l.foldr (λf g a t z=>e P f.1 (t+5+(kd f).length) (r<|a+sz f-1)::g (a+sz f) (t+6+(kd f).length) z) λa t z=>z a t
noncomputable def k9(P:Params)(nm:Str)(k:Nat)(d:Value)(l a t:Nat)(c:List FI)(sa:List Str):List Obj:=
 let m:=e P "__module__" (t+7) d;let o:=e P "__firstlineno__" (t+11)<|.int l<|t+10;let z:=λa t=>e P "__static_attributes__" (t+sa.length)<|r a;let b':=(c.map sz).sum+(a+7);let u:=(c.map λf=>6+(kd f).length).sum+(t+12);let v:=u+sa.length
 [tu [],fx "builtin_function_or_method" [b "type.__prepare__",Hd.t "type"],ja (4+c.length) (m::e P "__qualname__" (t+9) (s nm (t+8))::o::ks P c (a+7) (t+12) λa t=>[z a t]),tu [],
  fl (c.foldr (λf g a=>i (ln f)::i 4::r (a+sz f-2)::g (a+sz f)) (λ_=>[])<|a+7),cd nm nm l 0 (t+2) 0 [i 0,i 0,i 0,r<|a+3,ff,i 181,r<|a+4,n,n,n,n],
  fr "frame" [some (r (a+5)),some (r 3),some (r (a+2)),none,some d,none,some (r 0)]]++(fs k d c 0 (a+7) (t+12)++[tu (wN u sa),
  ja 4 (m::o::ks P c (a+7) (t+12) λa t=>[z a t,e P "__dict__" (v+2)<|r<|b'+3,e P "__weakref__" (v+4)<|r<|b'+4,e P "__doc__" (v+5) n]),
  cl nm [Hd.t "object"] [r<|b'+2,Hd.t "object"] (b'+1) nm [] [none,none,some<|s nm t,some<|s nm<|t+8,some<|b "object.__new__",some tt],
  fx "getset_descriptor" [s "__dict__"<|v+1,r<|b'+2,b "function.__dict__",b "function.__dict__#set"],fx "getset_descriptor" [s "__weakref__"<|v+3,r<|b'+2,b "ExceptionGroup.__weakref__",n],
  fx "super" [r (b'+2),r (b'+2),r (b'+2)],fx "builtin_function_or_method" [b "object.__init_subclass__",r (b'+2)]])
noncomputable def a7(P:Params)(a c rX rY:Obj):List Obj:=
 [boot_o_0 P,
 boot_o_1 P,
 a,
 c,
 boot_o_4 P,
 boot_o_5 P,
 boot_o_6 P,
 boot_o_7 P,
 boot_o_8 P,
 boot_o_9 P,
 boot_o_10 P,
 tu [],
 rX,
 fx "code" [(s "<module>" 182),(s "<module>" 183),(s "/claim/cut.py" 184),(i 1),(i 0),(i 0),(i 0),(i 0),(r 11),ff,(i 181),(r 12),n,n,n,n,(i 185),(i 1),(s "/claim/cut.py" 186)],
 fr "frame" [some (r 13),some (r 3),some (r 3),none,some (s "__main__" 164),none,some (r 0)]]++(fA (cC 0) ("_wall","_wall",1,1,["k"]) (s "__main__" 164) 15 187++([tu [(t "Exception")],
 fx "builtin_function_or_method" [(b "type.__prepare__"),(t "type")],
 ja 7 [e P "__module__" 203<|s "alikeheap.errors" 194,e P "__qualname__" 205<|s "HeapError" 204,e P "__firstlineno__" 207<|Value.int 5 206,e P "__init__" 216<|r 37,e P "told" 223<|r 44,e P "__static_attributes__" 225<|r 45,e P "__classcell__" 226<|r 25],
 ce [some<|r 47],
 tu [],
 fl [(i 7),(i 4),(r 36),(i 11),(i 4),(r 43)],
 fx "code" [(s "HeapError" 198),(s "HeapError" 199),(s "/claim/cut.py" 200),(i 5),(i 0),(i 0),(i 0),(i 0),(r 26),ff,(i 181),(r 27),n,n,n,n,(i 201),(i 5),(s "/claim/cut.py" 202)],
 fr "frame" [some<|r 28,some<|r 3,some<|r 24,none,some<|s "alikeheap.errors" 194,none,some<|r 0],
 tu [(r 25)],
 tu [(s "__class__" 211)],
 fl [],
 tu [(s "self" 212),(s "what" 213)],
 tu [],
 fp (bX 2 0) "HeapError.__init__",
 fx "code" [(s "__init__" 208),(s "HeapError.__init__" 209),(s "/claim/cut.py" 210),(i 7),(i 2),(i 0),(i 0),(i 3),(r 31),tt,(i 181),(r 32),n,(r 33),(r 34),(r 35),(i 214),(i 7),(s "/claim/cut.py" 215)],
 fn (bX 2 0) "HeapError.__init__" (s "alikeheap.errors" 194) (r 36) (r 30) [("__class__",25)]]++(fA (bX 2 1) ("told","HeapError.told",11,1,["self"]) (s "alikeheap.errors" 194) 38 217++([tu [(s "what" 224)],
 ja 4 [e P "__module__" 203<|s "alikeheap.errors" 194,e P "__firstlineno__" 207<|Value.int 5 206,e P "__init__" 216<|r 37,e P "told" 223<|r 44,e P "__static_attributes__" 225<|r 45,e P "__weakref__" 228<|r 48,e P "__doc__" 229 n],
 rY,
 fx "getset_descriptor" [(s "__weakref__" 227),(r 47),(b "ExceptionGroup.__weakref__"),n],
 fx "super" [(r 47),(r 47),(r 47)],
 fx "builtin_function_or_method" [(b "object.__init_subclass__"),(r 47)],
 tu [(r 47)],
 fx "builtin_function_or_method" [(b "type.__prepare__"),(t "type")],
 ja 4 [e P "__module__" 241<|s "alikeheap.errors" 194,e P "__qualname__" 243<|s "TermFault" 242,e P "__firstlineno__" 245<|Value.int 13 244,e P "__static_attributes__" 246<|r 58],
 tu [],
 fl [],
 fx "code" [(s "TermFault" 236),(s "TermFault" 237),(s "/claim/cut.py" 238),(i 13),(i 0),(i 0),(i 0),(i 0),(r 54),ff,(i 181),(r 55),n,n,n,n,(i 239),(i 13),(s "/claim/cut.py" 240)],
 fr "frame" [some<|r 56,some<|r 3,some<|r 53,none,some<|s "alikeheap.errors" 194,none,some<|r 0],
 tu [],
 ja 2 [e P "__module__" 241<|s "alikeheap.errors" 194,e P "__firstlineno__" 245<|Value.int 13 244,e P "__static_attributes__" 246<|r 58,e P "__doc__" 247 n],
 cl "TermFault" [(r 47)] [(r 60),(r 47),(t "Exception"),(t "BaseException"),(t "object")] 59 "TermFault" [] [some<|r 51,none,some<|s "TermFault" 234,some<|s "TermFault" 242,some<|b "Exception.__new__",some tt],
 fx "super" [(r 60),(r 60),(r 60)],
 fx "builtin_function_or_method" [(b "object.__init_subclass__"),(r 60)],
 tu [(r 47)],
 fx "builtin_function_or_method" [(b "type.__prepare__"),(t "type")],
 ja 4 [e P "__module__" 257<|s "alikeheap.errors" 194,e P "__qualname__" 259<|s "RuleFault" 258,e P "__firstlineno__" 261<|Value.int 15 260,e P "__static_attributes__" 262<|r 70],
 tu [],
 fl [],
 fx "code" [(s "RuleFault" 252),(s "RuleFault" 253),(s "/claim/cut.py" 254),(i 15),(i 0),(i 0),(i 0),(i 0),(r 66),ff,(i 181),(r 67),n,n,n,n,(i 255),(i 15),(s "/claim/cut.py" 256)],
 fr "frame" [some<|r 68,some<|r 3,some<|r 65,none,some<|s "alikeheap.errors" 194,none,some<|r 0],
 tu [],
 ja 2 [e P "__module__" 257<|s "alikeheap.errors" 194,e P "__firstlineno__" 261<|Value.int 15 260,e P "__static_attributes__" 262<|r 70,e P "__doc__" 263 n],
 cl "RuleFault" [(r 47)] [(r 72),(r 47),(t "Exception"),(t "BaseException"),(t "object")] 71 "RuleFault" [] [some<|r 63,none,some<|s "RuleFault" 250,some<|s "RuleFault" 258,some<|b "Exception.__new__",some tt],
 fx "super" [(r 72),(r 72),(r 72)],
 fx "builtin_function_or_method" [(b "object.__init_subclass__"),(r 72)]]++(fA (cC 6) ("is_op","is_op",18,1,[]) (s "alikeheap.terms" 266) 75 268++(fA (cC 7) ("is_variable","is_variable",20,1,["t"]) (s "alikeheap.terms" 266) 80 274++(fA (cC 8) ("variables","variables",22,1,[]) (s "alikeheap.terms" 266) 87 281++(fA (cC 9) ("parts","parts",24,1,[]) (s "alikeheap.terms" 266) 92 287++(fA (cC 10) ("renamed","renamed",29,2,[]) (s "alikeheap.terms" 266) 97 293++(k9 P "Bank" 11 (s "alikeheap.terms" 266) 31 102 299 [("__init__","Bank.__init__",33,1,["self"]),("size","Bank.size",39,1,["self"]),("take","Bank.take",42,3,[]),("require","Bank.require",56,2,["self","op"]),("put","Bank.put",60,2,["self","t","path","part"]),("put_all","Bank.put_all",65,2,[]),("cut","Bank.cut",68,2,["self","many"]),("op","Bank.op",71,2,["self","n"]),("kids","Bank.kids",74,2,["self","n"]),("node","Bank.node",77,2,["self","n"]),("term","Bank.term",80,2,[]),("weight","Bank.weight",92,2,["self","n"]),("depth","Bank.depth",95,2,["self","n"]),("seek","Bank.seek",98,3,["self","op","kids"])] ["depths","nodes","numbers","weights"]++(k9 P "Unions" 13 (s "alikeheap.unions" 430) 101 208 432 [("__init__","Unions.__init__",103,1,["self"]),("make","Unions.make",108,1,["self"]),("size","Unions.size",113,1,["self"]),("find","Unions.find",116,2,["self","a"]),("merge","Unions.merge",121,3,["self","a","b","kept","gone"]),("members","Unions.members",130,2,["self","a"]),("classes","Unions.classes",133,1,[]),("log","Unions.log",136,1,["self"]),("back","Unions.back",139,2,["self","many","kept","gone"]),("cut","Unions.cut",145,2,["self","many"])] ["above","lots","merged"]++(k9 P "Heap" 15 (s "alikeheap.heap" 534) 148 290 536 [("__init__","Heap.__init__",150,1,["self"]),("size","Heap.size",159,1,["self"]),("node","Heap.node",162,2,[]),("add","Heap.add",165,3,[]),("put","Heap.put",176,2,[]),("look_at","Heap.look_at",179,2,["self","n","other"]),("find","Heap.find",184,2,["self","n"]),("are_like","Heap.are_like",187,3,["self","a","b"]),("merge","Heap.merge",190,4,["self","a","b","reason"]),("join","Heap.join",193,4,["self","a","b","reason","merged","kept","gone"]),("settle","Heap.settle",204,1,["self"]),("is_settled","Heap.is_settled",208,1,["self"]),("classes","Heap.classes",211,1,["self"]),("members","Heap.members",214,2,["self","c"]),("nodes_of","Heap.nodes_of",217,2,[]),("many_nodes","Heap.many_nodes",220,1,["self"]),("seek","Heap.seek",223,3,[]),("users","Heap.users",227,2,["self","c"])] ["above","bank","edges","forest","known","unions","waiting"]++(k9 P "Walker" 17 (s "alikeheap.matching" 700) 230 420 702 [("__init__","Walker.__init__",232,2,["self","heap"]),("extended","Walker.extended",235,4,[]),("found_in","Walker.found_in",250,3,["self","c","pattern","substs","table"]),("found","Walker.found",256,2,[])] ["heap"]++([tu [(s "together" 756),(s "turns" 757),(s "rests" 758)]]++(k9 P "Rule" 20 (s "alikeheap.rules" 754) 260 459 760 [("__init__","Rule.__init__",262,5,[]),("turned","Rule.turned",278,1,["self"])] ["left","name","needs","right"]++(k9 P "Placer" 21 (s "alikeheap.rules" 754) 280 485 797 [("__init__","Placer.__init__",282,2,["self","heap"]),("put","Placer.put",285,3,[]),("class_of","Placer.class_of",290,3,[]),("holds","Placer.holds",296,3,["self","need","table","kind","one","other","here"])] ["heap"]++(k9 P "Runner" 22 (s "alikeheap.rules" 754) 300 523 851 [("__init__","Runner.__init__",302,4,[]),("is_full","Runner.is_full",318,1,["self"]),("matches","Runner.matches",321,2,["self","k","found"]),("apply","Runner.apply",332,3,[]),("apply_all","Runner.apply_all",341,3,["self","k","found","joined","c","subst"]),("one_round","Runner.one_round",349,1,[]),("run","Runner.run",363,1,[])] ["heap","history","options","placer","rests","rounds","rules","wakes","walker"]++(fA (cC 24) ("is_given","is_given",372,4,[]) (s "alikeheap.finding" 932) 578 934++(fA (cC 25) ("without_given","without_given",383,2,[]) (s "alikeheap.finding" 932) 583 940++([tu [(s "?x" 949)],
 tu [(s "?y" 950)],
 tu [(s "g" 948),(r 588),(r 589)],
 tu [(s "?y" 952)],
 tu [(s "?x" 953)],
 tu [(s "g" 951),(r 591),(r 592)],
 tu [(r 590),(r 593)]]++(fA (cC 28) ("_law_next","_law_next",392,2,["reel","many","at"]) (s "law_pq0092_01" 946) 595 955++(fA (cC 29) ("_law_leaf","_law_leaf",396,1,["reel"]) (s "law_pq0092_01" 946) 602 964++(fA (cC 30) ("_law_side","_law_side",398,1,["reel","way"]) (s "law_pq0092_01" 946) 609 971++(fA (cC 31) ("_law_pairs","_law_pairs",405,1,["reel","found","lap","way"]) (s "law_pq0092_01" 946) 616 979++(fA (cC 32) ("_law_plain","_law_plain",416,1,["pair"]) (s "law_pq0092_01" 946) 623 989++(fA (cC 33) ("_law_inside","_law_inside",420,1,[]) (s "law_pq0092_01" 946) 630 996++(fA (cC 34) ("_law_follows","_law_follows",422,2,[]) (s "law_pq0092_01" 946) 635 1002++(fA (cC 35) ("law","law",442,1,[]) (s "law_pq0092_01" 946) 640 1008))))))))))))))))))))))))))))
noncomputable def ob(P:Params)(sz:Nat)(k2:List DictEntry)(n3 a:Nat)(nm:Value)(b c:Nat):List Obj:=(a7 P (dn k2.length k2) (ja n3<|e P "__name__" 165 nm::(m3 P).take a) (fl<|rX.take b)<|rY c).take sz
noncomputable def k2(P:Params):List DictEntry:=[e P "type.__subclasses__.Exception.0" 230<|i 47,e P "type.__subclasses__.Exception.n" 231<|i 1]
noncomputable def ev{a:Type}:List a->List a
 |[]=>[]
 |[x]=>[x]
 |x::_::l=>x::ev l
noncomputable def od{a:Type}:List a->List a
 |[]=>[]
 |[_]=>[]
 |_::y::l=>y::od l
noncomputable def tree:Nat->List Obj->BT
 |0,_=> .nil
 |_+1,[]=> .nil
 |k+1,x::l=> .node x (tree k<|ev l)<|tree k<|od l
noncomputable def La(P:Params):List Obj:=ob P 15 [] 9 8 (s "__main__" 164) 0 2
noncomputable def l5(P:Params):List Obj:=ob P 15 [] 9 8 (s "__main__" 164) 0 2
noncomputable def Lb(P:Params):List Obj:=ob P 51 (k2 P) 11 10 (s "alikeheap.errors" 194) 6 0
noncomputable def Ld(P:Params):List Obj:=ob P 63 (k2 P) 12 11 (s "alikeheap.errors" 194) 9 1
noncomputable def Lf(P:Params):List Obj:=ob P 102 (k2 P) 18 17 (s "alikeheap.terms" 266) 27 2
noncomputable def rZ(P:Params):List Obj:=ob P 208 (k2 P) 19 18 (s "alikeheap.terms" 266) 30 2
noncomputable def Lg(P:Params):List Obj:=ob P 290 (k2 P) 20 19 (s "alikeheap.unions" 430) 33 2
noncomputable def Lh(P:Params):List Obj:=ob P 420 (k2 P) 21 20 (s "alikeheap.heap" 534) 36 2
noncomputable def r0(P:Params):List Obj:=ob P 459 (k2 P) 23 22 (s "alikeheap.rules" 754) 39 2
noncomputable def Li(P:Params):List Obj:=ob P 485 (k2 P) 24 23 (s "alikeheap.rules" 754) 42 2
noncomputable def Lj(P:Params):List Obj:=ob P 523 (k2 P) 25 24 (s "alikeheap.rules" 754) 45 2
noncomputable def Lk(P:Params):List Obj:=ob P 578 (k2 P) 26 25 (s "alikeheap.rules" 754) 48 2
noncomputable def ft(P:Params):List Obj:=ob P 645 (k2 P) 37 36 (s "law_pq0092_01" 946) 78 2
noncomputable def env:Env:={scope:=pw.main.scope,locals:=mainNs,globals:=mainNs,cells:=[],code:=r 13,frame:=some 14}
noncomputable def body:List Stmt:=behindTheImports pw
noncomputable def et:Code:=Code.body body env
noncomputable def p0:Pos:=⟨0,0,0,0⟩
noncomputable def B:List Frame:=[topFrame p0]
noncomputable def sh(l:Params->List Obj)(n k:Nat)(w:World)(os:OsState):SharedT:=⟨tree 12<|l w.params,n,{}, #[],{},k,os⟩
noncomputable def fZ(a z:Nat):List Stmt:=(body.drop a).take<|z-a
noncomputable def ps(a b c d:Nat):Pos:=⟨a,b,c,d⟩
theorem r1: @segRunT treeTable=PySem.W.Fast.tw10110043849684766642 PySem.W.Fast.tw14364793385576792824:=by rw[PySem.W.Fast.te10110043849684766642,PySem.W.Fast.te14364793385576792824]
theorem Gq(w:World)(os:OsState):segRunT treeTable pw w 11 (some (r 6)) 1 1512 (sh l5 15 187 w os) (piecesOf (fZ 0 12) env et p0 B)=some (.next,sh rZ 208 430 w os,et,(ps 31 0 99 56)):=by rewrite [r1];kernel_rfl
theorem Gr(w:World)(os:OsState):segRunT treeTable pw w 11 (some (r 6)) 1 1627 (sh rZ 208 430 w os) (piecesOf (fZ 12 20) env et (ps 31 0 99 56) B)=some (.next,sh r0 459 760 w os,et,(ps 259 0 259 6)):=by rewrite [r1];kernel_rfl
theorem Gs(w:World)(os:OsState):segRunT treeTable pw w 11 (some (r 6)) 1 1305 (sh r0 459 760 w os) (piecesOf (fZ 20 36) env et (ps 259 0 259 6) B)=some (.next,sh ft 645 1014 w os,et,(ps 442 0 462 15)):=by rewrite [r1];kernel_rfl
noncomputable abbrev lw:OpenLaw:=PySem.Challenge.rw_pq0092_01
noncomputable def q:Program:={pw with main:={pw.main with body:=[cC 35]}}
noncomputable def H1(P:Params):Heap:=absHeap (tree 12<|ft P) 645 {}
noncomputable def loose:List Str:=["_wall","HeapError","TermFault","RuleFault","is_op","is_variable","variables","parts","renamed","Bank","Unions","Heap","Walker","ORDERS","Rule","Placer","Runner","is_given","without_given","_law_swap","_law_next","_law_leaf","_law_side","_law_pairs","_law_plain","_law_inside","_law_follows"]
theorem Gu:opening pw=plainProg pw.main.scope.names:=by kernel_rfl
theorem Gv(s:Shared):fenceModules? pw s=some s:=by kernel_rfl
theorem Gw:∀w:World,(fencedOpening treeTable pw w 9000).map (λs=>(s.heap,s.gens,s.drawn,s.toks))=some (boot_heap w.params,Array.mk [],boot_drawn,boot_toks):=boot_open Gu rfl Gv
theorem size(w:World):((boot_heap w.params).isNs mainGlobals&&(Array.mk ([]:List GenState)).size==0,(boot_heap w.params).objs.size,(boot_heap w.params).nsMap mainGlobals "__annotations__")=(true,11,some (r 6)):=by kernel_rfl
theorem pre(w:World)(os:OsState):topGo treeTable pw w 11 (some (r 6)) 12 ⟨boot_heap w.params,Array.mk [],boot_drawn,boot_toks,os⟩ (topStub pw)=some ((sh l5 15 187 w os).abs,⟨denote treeTable (.body body env),et,p0,[topFrame p0]⟩):=by kernel_rfl
theorem Gx(w:World)(os:OsState):segRun treeTable pw w 11 (some (r 6)) 1 1 (sh l5 15 187 w os).abs (blockOf body env et p0 B)=some (.next,(sh l5 15 187 w os).abs,et,p0):=by kernel_rfl
theorem Gy(w:World)(os:OsState):topRun treeTable pw w 11 (some (r 6)) 2 (sh ft 645 1014 w os).abs ⟨doneF .next,et,ps 442 0 462 15,B⟩=some (sh ft 645 1014 w os).abs:=by kernel_rfl
theorem Gz:body=fZ 0 12++(fZ 12 20++(fZ 20 36++[])):=by kernel_rfl
theorem r2{w:World}{n N:Nat}{s a x:Shared}{l rest:List Stmt}{pos b:Pos}(h:segRun treeTable pw w 11 (some (r 6)) 1 n s (piecesOf l env et pos B)=some (.next,a,et,b))
  (k:topRun treeTable pw w 11 (some<|r 6) N a (restOf rest env et b B)=some x):topRun treeTable pw w 11 (some<|r 6) (n+N) s (restOf (l++rest) env et pos B)=some x:=
 @piece_app treeTable pw w 11 (some<|r 6) env p0 n N s a x l rest et pos b h k
theorem GA(w:World)(os:OsState):topRun treeTable pw w 11 (some (r 6)) (1305+2) (sh r0 459 760 w os).abs (restOf (fZ 20 36++[]) env et (ps 259 0 259 6) B)=some (sh ft 645 1014 w os).abs:=r2 (segRun_of<|Gs w os)<|Gy w os
theorem GB(w:World)(os:OsState):topRun treeTable pw w 11 (some (r 6)) (1627+(1305+2)) (sh rZ 208 430 w os).abs (restOf (fZ 12 20++(fZ 20 36++[])) env et (ps 31 0 99 56) B)=some (sh ft 645 1014 w os).abs:=r2 (segRun_of<|Gr w os)<|GA w os
theorem GC(w:World)(os:OsState):topRun treeTable pw w 11 (some (r 6)) (1512+(1627+(1305+2))) (sh l5 15 187 w os).abs (restOf (fZ 0 12++(fZ 12 20++(fZ 20 36++[]))) env et p0 B)=some (sh ft 645 1014 w os).abs:=r2 (segRun_of<|Gq w os)<|GB w os
theorem GD(w:World)(os:OsState):topRun treeTable pw w 11 (some (r 6)) (1512+(1627+(1305+2))) (sh l5 15 187 w os).abs (restOf body env et p0 B)=some (sh ft 645 1014 w os).abs:=Gz▸GC w os
theorem run(w:World)(os:OsState):topRun treeTable pw w 11 (some (r 6)) (12+(1+(1512+(1627+(1305+2))))) ⟨boot_heap w.params,Array.mk [],boot_drawn,boot_toks,os⟩ (topStub pw)=some (sh ft 645 1014 w os).abs:=go_top (pre w os) (@piece_block treeTable pw w 11 (some<|r 6) env p0 1 _ _ _ _ body et p0 p0 (Gx w os)<|GD w os)
theorem GF(w:World)(os:OsState):(staticsOk (importedModules pw.main.body) (boot_heap w.params) (H1 w.params)&&namesBound pw (H1 w.params)&&gensDone (sh ft 645 1014 w os).abs&&laidKept (boot_heap w.params) (H1 w.params))=true:=by kernel_rfl
theorem GG(w:World)(os:OsState):openSeen q loose (importedModules pw.main.body) (recOk []) true (sh ft 645 1014 w os).abs=openGood q loose:=by kernel_rfl
theorem GH:lw.wellSaid=true:=by
 unfold OpenLaw.wellSaid OpenLaw.row OpenRow.wellSaid OpenRow.partSaid looksOpen
 repeat' with_reducible apply look_both
 all_goals decide+kernel
theorem left:LeftO pw q loose (recOk []) Shared.heap (λw=>H1 w.params) 9000:=LeftO.of_pieces (H₁:=H1) (gs₁:= #[]) (d₁:={}) (k₁:=1014) Gw size run rfl λw=>funext λos=>Prod.ext (GF w os)<|Prod.ext (GG w os) rfl
noncomputable def dr:DefRec:=match cC 35 with
 | .FunctionDef n a b _ _ _ c _ _ p=>⟨n,a,b,c,p⟩
 |_=>⟨"",⟨[],[],none,[],[],none,[]⟩,[],pw.main.scope,p0⟩
noncomputable def YP(w:World)(h:Heap):Prop:=∀b o,(H1 w.params).get? b=some o->h.get? b=some o
theorem holds_of(call:WalkO q loose (λZ Z=>True) YP lw.row.toRowW dr [] λf vs=>PySem.call f vs):lw.Holds:=
 holds_law GH λa=>holds_open (r:=lw.row) (q:=q) (loose:=loose) (Xt:=recOk []) (XP:=λZ Z=>True) (Yf:=Shared.heap) (Ya:=λw=>H1 w.params) (YP:=YP) (d:=dr) (kwd:=[]) (N:=9000)
  left (λw s e b o g=>by rw[e];exact g) (λw h c y k b o g=>k b o<|y b o g) (λZ Z=>trivial) (λZ Z Z Z Z=>trivial)
  (by kernel_rfl) (by kernel_rfl) (by kernel_rfl) (λs e=>recFacts_of e) rfl a (by decide+kernel) ⟨rfl,rfl,rfl,rfl,rfl,by decide+kernel⟩ ⟨[.list []],by decide+kernel,by decide+kernel⟩ call
end Mine.Hd
namespace Mine
noncomputable def num(n:Nat)(l:List Obj):Frag:=match l with
 |[]=>[]
 |o::r=>(n,o)::num (n+1) r
noncomputable def hK(P:Params):Frag:=num 0<|Hd.ft P
theorem wO:∀(l:List Obj)(n a:Nat),(num n l).lookup (a+n)=l[a]?
 |[],_,_=>rfl
 |o::r,n,0=>by show List.lookup (0+n) ((n,o)::num (n+1) r)=some o;rw[eE,iK,d1]
 |o::r,n,a+1=>by show List.lookup (a+1+n) ((n,o)::num (n+1) r)=r[a]?;rw[iK,beq_false_of_ne<|du<|Nat.lt_add_of_pos_left<|fj a,Nat.succ_add_eq_add_succ];exact wO r (n+1) a
theorem wQ(P:Params):(List.range 645).map (λa=>((Hd.tree 12 (Hd.ft P)).get a).bind alive)=(Hd.ft P).map some:=by kernel_rfl
theorem wR{P:Params}{a:Addr}{o:Obj}(e:(Hd.ft P)[a]? =some o):(Hd.H1 P).get? a=some o:=by have z:=ar (λl=>l[a]?)<|wQ P;rw[b9,b9,e] at z;refine ak (dY.mp z) λb f g=>?_;refine ak (Option.bind_eq_some_iff.mp g) λx h i=>?_;refine(cN.mp f).elim λc d=>?_;rw[List.getElem_range] at d;rw[cF] at c;subst d;exact(abs_get c h).trans i
theorem j3(P:Params):(hK P).In (Hd.H1 P):=λa o e=>wR<|(wO _ 0 a).symm.trans e
theorem GI(vals:List Value):(List.range vals.length).map (λi=>vals.getD i .none)=vals:=ic λi=>by
 refine Y b9<|Or.elim (gw i vals.length) (λh=>?_) λh=>?_
 .refine Y (h7 h) (Y (cc h) ?_);show some (vals.getD i .none)=_;refine Y eQ<|Y (cc h) ?_;rfl
 .refine Y (ez h)<|Y (ez (by rw[cF];exact h)) ?_;rfl
theorem GJ:∀(names:List (Str×NameKind))(m:Nat)(acc:List (Str×Addr))(n:Str),((n,NameKind.cell)∈names\/∃c,acc.lookup n=some c)->∃c,(cellsFrom m names acc).lookup n=some c:=by
 intro names;induction names with
 |nil=>exactλm acc n h=>h.resolve_left nofun
 |cons p r b=>
  intro m acc n h;obtain⟨x,k⟩:=p;unfold cellsFrom;split
  .rename_i a;refine b _ _ n ?_;refine Or.elim h (λh=>?_) λd=>jE d λc h=>?_
   .refine Or.elim (ba.mp h) (λq=>?_) λq=>?_
    .clear a h;cases q;exact .inr ⟨m,Y iK<|Y (d1 ..) rfl⟩
    .exact .inl q
   .refine .inr ?_;refine Y iK ?_;split
    .exact⟨_,rfl⟩
    .exact⟨c,h⟩
  .rename_i a;refine b _ _ n<|h.imp_left λh=>(ba.mp h).resolve_left λq=>?_;clear h;cases q;exact a rfl
theorem GK:∀(names:List (Str×NameKind))(m:Nat)(acc:List (Str×Addr)),(∀x∈acc,x.2<m)->acc.Pairwise (λx y=>x.2≠y.2)->(cellsFrom m names acc).Pairwise (λx y=>x.2≠y.2):=by
 intro names;induction names with
 |nil=>exactλm acc Z h=>h
 |cons p r c=>
  intro m acc a h;obtain⟨x,k⟩:=p;unfold cellsFrom;split
  .refine c _ _ (λy b=>?_) (List.pairwise_cons.mpr ⟨λy b q=>eh _<|(q:m=y.2)▸a y b,h⟩);refine Or.elim (ba.mp b) (λq=>?_) λq=>?_
   .exact Y q<|eg m
   .exact gn<|a y q
  .exact c _ _ a h
theorem wU:∀(l:List (Str×Addr)),l.Pairwise (λx y=>x.2≠y.2)->∀n a c,(n,c)∈l->(a,c)∈l->n=a
 |[],_,n,a,c,h,_=>(bw h)
 |x::r,hp,n,a,c,h,e=>by
  have d:=List.pairwise_cons.mp hp;refine Or.elim (ba.mp h) (λq=>?_) λq=>?_<;>refine Or.elim (ba.mp e) (λb=>?_) λb=>?_
  .exact ar Prod.fst<|q.trans b.symm
  .exact absurd (Y q.symm rfl)<|d.1 _ b
  .exact absurd (Y b.symm rfl)<|d.1 _ q
  .exact wU r d.2 n a c q b
noncomputable def r3(Γ:bl)(d:FuncData):Bool:=
 (d.scope.kind== .function&&d.globals==mainGlobals&&d.builtins==builtinsNs)&&(decide Γ.names.Nodup&&Γ.names.all (λn=> !(n==("__debug__":Str))))&&
 (Γ.names.all (λn=>d.scope.names.lookup n==some .local||d.scope.names.lookup n==some .cell)&&
 Γ.globals.all (λn=>d.scope.names.lookup n==some .globalImplicit&& !(n==("__debug__":Str)))&&Γ.cells.all (λn=>Γ.names.contains n&&d.scope.names.lookup n==some .cell))
theorem wV{Γ:bl}{d:FuncData}(h:r3 Γ d=true)(L a:Addr):cG Γ (callEnvC d L a):=by unfold r3 at h;simp only[Bool.and_eq_true,List.all_eq_true,Bool.or_eq_true,beq_iff_eq,decide_eq_true_eq,Bool.not_eq_true',List.contains_eq_mem] at h;obtain⟨⟨⟨⟨g,i⟩,j⟩,k,l⟩,⟨m,b⟩,o⟩:=h;exact⟨g,i,j,k,l,λn hn=>(m n hn).imp_right λf=>⟨f,GJ _ _ _ n<|.inl<|mem_of_lookup f⟩,λn hn=>(b n hn).1,λn hn=>(b n hn).2,λn hn=>o n hn,λn p c e e'=>wU _ (GK d.scope.names (L+1) [] (λZ=>bw) List.Pairwise.nil) n p c (mem_of_lookup e)<|mem_of_lookup e'⟩
noncomputable def pf(Γ:bl)(locs a rest:List Str)(K:Frag)(d:FuncData):Bool:=(codeIn K d.code d.qualname&&d.closure.isEmpty&& !d.scope.isCoroutine&& !d.scope.isGenerator)&&(r3 Γ d&&decide (Γ.names=a++rest)&&locs.all (λn=>d.scope.names.lookup n==some .local))
noncomputable def fX(d:FuncData)(v:Nat->Value):Sem (List (Str×Value)):=bindArgs d ⟨(List.range d.params.args.length).map v,[]⟩
noncomputable def r4(d:FuncData)(v:Nat->Value):Sem (List (Str×Value)):=pure ((d.params.args.map (·.arg)).zip<|(List.range d.params.args.length).map v)
theorem wW{S:aN}{f:Addr}{Γ:bl}{locs rest:List Str}{body:List Stmt}{d:FuncData}{b:Value}{od:Option Addr}{c:Array (Option Value)}
  (e:S.K.lookup f=some ⟨b,od,.func d,c⟩) (g:d.body= .stmts body) (h:pf Γ locs (d.params.args.map (·.arg)) rest S.K d=true) (j:∀v,fX d v=r4 d v):rt S f d Γ (d.params.args.map (·.arg)) rest body/\∀m∈locs,d.scope.names.lookup m=some .local:=by
 unfold pf at h;simp only[Bool.and_eq_true,List.all_eq_true,beq_iff_eq,decide_eq_true_eq,Bool.not_eq_true',List.isEmpty_iff] at h;obtain⟨⟨⟨⟨k,l⟩,n⟩,o⟩,⟨a,p⟩,q⟩:=h
 exact⟨⟨⟨_,S.X _ _ e,rfl⟩,codeRec_of S.X k,g,l,n,o,(wV a 0 0).kind,λvals r=>by have z:=j λi=>vals.getD i .none;unfold fX r4 at z;rw[←aV (·.arg),←r,GI] at z;exact z,λL=>wV a L _,p⟩,q⟩
theorem l6{f g:Type}[BEq f][LawfulBEq f]{l:List (f×g)}{a:f}{b:g}(h:l.lookup a=some b):(a,b)∈l:=by
 induction l with
 |nil=>nomatch h
 |cons p r i=>
  obtain⟨c,d⟩:=p;rw[iK] at h;cases e:a==c with
  |true=>rw[e] at h;obtain rfl:=eq_of_beq e;cases h;exact .head _
  |false=>rw[e] at h;exact .tail _<|i h
noncomputable def pg:List Addr:=[203,285,415,453,480,518,573]
noncomputable def wX(K:Frag)(a:Addr):Bool:=
 (findIn K (.ref a) "__getattribute__"==some (some<|.builtin "object.__getattribute__")&&findIn K (.ref a) "__getattr__"==some none&&findIn K (.ref a) "__setattr__"==some (some<|.builtin "object.__setattr__"))&&
 (makesIn K a&&plainOver K a&&(clsIn K a).any (·.hasDict)&&l1.all λn=>findIn K (.ref a) n==some none)
theorem GL(P:Params):pg.all (wX (hK P))=true:=by kernel_rfl
theorem GN(P:Params)(c:Addr)(h:pg.contains c=true):tx (hK P) l1 c:=by have h:=e3.mp (GL P) c<|List.contains_iff_mem.mp h;unfold wX at h;simp only[Bool.and_eq_true,List.all_eq_true] at h;obtain⟨⟨⟨a,b⟩,d⟩,⟨⟨e,f⟩,g⟩,i⟩:=h;exact⟨eq_of_beq a,eq_of_beq b,eq_of_beq d,e,f,g,λn hn=>eq_of_beq<|i n hn⟩
noncomputable def gK(w:World)(p:Program)(lo:List Str)(mg mb:Str->Option Value)(T:TopRead p lo mg mb (Hd.H1 w.params)):aN:={prog:=pw,w,K:=hK w.params,B:=Hd.H1 w.params,p,loose:=lo,mg,mb,X:=j3 _,T,gy:=(show(Hd.H1 w.params).objs.size=645 from absHeap_size _ _ _)▸af,attrs:=l1,aL:=by decide,cls:=λc=>pg.contains c,mI:=λc h=>GN _ c h}
noncomputable def kX(K:Frag)(p:Str×Addr):Bool:=nsIn K mainGlobals p.1==some (some<|.ref p.2)&&keepIn K (.ref p.2)
theorem GO(P:Params):vP.all (kX (hK P))=true:=by kernel_rfl
noncomputable def wY(K:Frag)(p:Str×Addr×Addr):Bool:=(nsIn K mainGlobals p.1==some (some<|.ref p.2.1)&&pg.contains p.2.1)&&(findIn K (.ref p.2.1) "__init__"==some (some<|.ref p.2.2)&&typeIn K (.ref p.2.2)==some (.type "function")&&keepIn K (.ref p.2.1))
theorem GP(P:Params):vQ.all (wY (hK P))=true:=by kernel_rfl
noncomputable def GQ(K:Frag)(c:Addr×List (Str×Addr)):Bool:=c.2.all λp=>(findIn K (.ref c.1) p.1==some (some<|.ref p.2)&&typeIn K (.ref p.2)==some (.type "function"))&&(keepIn K (.ref p.2)&& !l1.contains p.1)
theorem GR(P:Params):vS.all (GQ (hK P))=true:=by kernel_rfl
noncomputable def wZ(f:Option Obj):Option (Nat×Nat×(aG->aE)):=match f with
 |some ⟨_,_,.func d,_⟩=>(match d.body with
  | .stmts b=>some ((d.params.args.map (·.arg)).length,((namesOf d.scope o3).filter λn=> !(d.params.args.map (·.arg)).contains n).length,(o1 o2 ⟨rJ d.params d.scope,namesOf d.scope (· == .local),[]⟩ 12 6 b).1)
  |_=>none)
 |_=>none
noncomputable def w0(K:Frag)(f:Addr):Bool:=match K.lookup f with
 |some ⟨_,_,.func d,_⟩=>(match d.body with
  | .stmts b=>pf (rJ d.params d.scope) (namesOf d.scope (· == .local)) (d.params.args.map (·.arg)) ((namesOf d.scope o3).filter λn=> !(d.params.args.map (·.arg)).contains n) K d
  |_=>false)
 |_=>false
theorem GS(P:Params):((79,cC 6)::l2).all (λp=>w0 (hK P) p.1)=true:=by kernel_rfl
noncomputable def w1(f:FuncData->(Nat->Value)->Sem (List (Str×Value)))(v:Nat->Value)(o:Option Obj):Sem (List (Str×Value)):=match o with
 |some ⟨_,_,.func d,_⟩=>f d v
 |_=>pure []
theorem GU(P:Params)(v:Nat->Value):((79,cC 6)::l2).map (λp=>w1 fX v ((hK P).lookup p.1))=((79,cC 6)::l2).map (λp=>w1 r4 v ((hK P).lookup p.1)):=by kernel_rfl
theorem GV(P:Params):l2.map (λp=>vT p.2)=l2.map (λp=>wZ ((hK P).lookup p.1)):=by kernel_rfl
noncomputable def Ll(K:Frag):Bool:=(["enumerate","zip","set"]:List Str).all λx=>nsIn K mainGlobals x==some none
theorem GW(P:Params)(b:PB):nsIn (hK P) mainGlobals (ek b)=some none:=by cases b<;>kernel_rfl
theorem GX(b:PB):bootBuiltins (ek b)=some (i0 b):=by cases b<;>kernel_rfl
theorem GY(P:Params):nsIn (hK P) mainGlobals "enumerate"=some none:=by kernel_rfl
theorem GZ(P:Params):nsIn (hK P) mainGlobals "zip"=some none:=by kernel_rfl
theorem G0(P:Params):nsIn (hK P) mainGlobals "set"=some none:=by kernel_rfl
theorem r5:bootBuiltins "enumerate"=some (.type "enumerate")/\bootBuiltins "zip"=some (.type "zip")/\bootBuiltins "set"=some (.type "set"):=⟨by kernel_rfl,by kernel_rfl,by kernel_rfl⟩
section
variable{w:World}{p:Program}{lo:List Str}{mg mb:Str->Option Value}{T:TopRead p lo mg mb (Hd.H1 w.params)}
theorem G1(f:Addr)(q:Nat×Nat×(aG->aE))(h:bc f=some q):rH (gK w p lo mg mb T) o2 f q:=by
 obtain⟨st,i,a⟩:=Option.bind_eq_some_iff.mp h;have m:=l6 i;have g:=e3.mp (GS w.params) _<|fc _ m;rw[List.map_inj_left.mp (GV w.params) _ m] at a;unfold w0 at g;unfold wZ at a;dsimp only at g a;split at g
 .rename_i k od d l c;rw[c] at a;split at g
  .rename_i b e;dsimp only at a;rw[e] at a
   obtain⟨X,j⟩:=wW (S:=gK w p lo mg mb T) c e g λv=>by have z:=List.map_inj_left.mp (GU w.params v) _<|fc _ m;rw[c] at z;exact z
   clear h;cases a;exact .mk _ _ _ _ _ _ _ _ X j
  .exact b3 g
 .exact b3 g
theorem j4{a:Addr}{vs:Array Value}{l:List V}(e:(hK w.params).lookup a=some (fE vs 0))(r:aA [] (Hd.H1 w.params) l vs.toList):VR [] (Hd.H1 w.params) (.tup l) (.ref a):=.tup l a vs 0 (λf=>by cases f with|l p m=>nomatch m|r p m=>nomatch m) (j3 _ _ _ e) r
theorem G2(x:Str)(v:V)(h:vR.lookup x=some v):∃y,(gK w p lo mg mb T).mg x=some y/\VR [] (Hd.H1 w.params) v y:=by
 have m:=l6 h;refine Or.elim (ba.mp m) (λe=>?_) λe=>?_
 .clear h m;cases e
  exact⟨.ref 594,mg_of (j3 _) T.g (by kernel_rfl),j4 (a:=594) (vs:= #[.ref 590,.ref 593]) (by kernel_rfl)
   (.cons _ _ _ _ (j4 (a:=590) (vs:= #[.str "g" 948,.ref 588,.ref 589]) (by kernel_rfl) (.cons _ _ _ _ (.str _ _ (by decide+kernel)) (.cons _ _ _ _ (j4 (a:=588) (vs:= #[.str "?x" 949]) (by kernel_rfl) (.cons _ _ _ _ (.str _ _ (by decide+kernel)) .nil)) (.cons _ _ _ _ (j4 (a:=589) (vs:= #[.str "?y" 950]) (by kernel_rfl) (.cons _ _ _ _ (.str _ _ (by decide+kernel)) .nil)) .nil))))
   (.cons _ _ _ _ (j4 (a:=593) (vs:= #[.str "g" 951,.ref 591,.ref 592]) (by kernel_rfl) (.cons _ _ _ _ (.str _ _ (by decide+kernel)) (.cons _ _ _ _ (j4 (a:=591) (vs:= #[.str "?y" 952]) (by kernel_rfl) (.cons _ _ _ _ (.str _ _ (by decide+kernel)) .nil)) (.cons _ _ _ _ (j4 (a:=592) (vs:= #[.str "?x" 953]) (by kernel_rfl) (.cons _ _ _ _ (.str _ _ (by decide+kernel)) .nil)) .nil)))) .nil))⟩
 .refine Or.elim (ba.mp e) (λe=>?_) λe=>?_
  .cases e
   exact⟨.ref 458,mg_of (j3 _) T.g (by kernel_rfl),j4 (a:=458) (vs:= #[.str "together" 756,.str "turns" 757,.str "rests" 758]) (by kernel_rfl)<|.cons _ _ _ _ (.str _ _ (by decide+kernel))<|.cons _ _ _ _ (.str _ _ (by decide+kernel))<|.cons _ _ _ _ (.str _ _ (by decide+kernel)) .nil⟩
  .exact bw e
theorem ph{x:Str}{v:Value}(hn:x≠"__name__")(n:nsIn (hK w.params) mainGlobals x=some none)(b:bootBuiltins x=some v):(gK w p lo mg mb T).mg x=none/\(gK w p lo mg mb T).mb x=some v:=⟨mg_none_of (j3 _) T.g n,(T.builtins _ hn).trans b⟩
theorem G3{pr:aG}(hp:∀n,hP (gK w p lo mg mb T) pr (n+1)):Known (gK w p lo mg mb T) o2 bc pr:=
 have pb:∀b,(gK w p lo mg mb T).mg (ek b)=none/\(gK w p lo mg mb T).mb (ek b)=some (i0 b):=λb=>ph (by cases b<;>decide) (GW _ b)<|GX b;have hs:=ph (T:=T) (x:="set") af (G0 _) r5.2.2
 {attr:=λx h=>h
  kX:=λx a h=>by have g:=e3.mp (GO w.params) _<|l6 h;rw[kX,kG] at g;exact⟨mg_of (j3 _) T.g<|eq_of_beq g.1,g.2⟩
  oS:=λx c f h=>by have g:=e3.mp (GP w.params) _<|l6 h;simp only[wY,Bool.and_eq_true] at g;obtain⟨⟨e,g2⟩,⟨i,d⟩,j⟩:=g;exact⟨mg_of (j3 _) T.g<|eq_of_beq e,g2,eq_of_beq i,eq_of_beq d,j⟩
  oT:=G2
  oU:=λc n f h=>by obtain⟨l,k,o⟩:=Option.bind_eq_some_iff.mp h;have g:=e3.mp (e3.mp (GR w.params) _<|l6 k) _<|l6 o;simp only[Bool.and_eq_true] at g;obtain⟨⟨e,g2⟩,i,d⟩:=g;exact⟨eq_of_beq e,eq_of_beq g2,i,λm=>by rw[List.contains_iff_mem.mpr (show n∈l1 from m)] at d;exact b3 d⟩
  pb:=pb
  enum:=ph af (GY _) r5.1
  zip:=ph af (GZ _) r5.2.1
  sset:=λA n r=>Gn r.handled (by have:=r.units;lia) hs<|pb .sorted
  oV:=λA n r=>Gp r.handled (by have:=r.units;lia) hs<|pb .len
  prim:=hp
  fns:=G1}
end
noncomputable abbrev TH:=Nat->Option aQ
noncomputable def Hd(S:TH)(a:ai):Prop:=∀(i:Nat) o,S i=some o->a[i]? =some o
noncomputable def upd(S:TH)(i:Nat)(o:aQ):TH:=λj=>if j=i then some o else S j
noncomputable def Sub(S T:TH):Prop:=∀(i:Nat) o,S i=some o->T i=some o
noncomputable def Eg(S:TH)(l:au)(e:M)(v:V):Prop:=∀T,Sub S T->∀a,Hd T a->∀P:V->ai->Prop,(∀b,Hd T b->P v b)->e l a P
noncomputable def Es(S:TH)(l:au)(e:Ms)(vs:List V):Prop:=∀T,Sub S T->∀a,Hd T a->∀P:List V->ai->Prop,(∀b,Hd T b->P vs b)->e l a P
noncomputable def El(S:TH)(l:au)(e:M)(vs:List V):Prop:=∀T,Sub S T->∀a,Hd T a->∀P:V->ai->Prop,(∀r b,T r=none->Hd (upd T r<|.list vs) b->P (.ref r) b)->e l a P
noncomputable def Ex(S:TH)(l:au)(e:M)(Q:V->TH->Prop):Prop:=∀a,Hd S a->∀P:V->ai->Prop,(∀v b c,Q v b->Hd b c->P v c)->e l a P
noncomputable def eM(S:TH)(l:au)(e:Ms)(Q:List V->TH->Prop):Prop:=∀a,Hd S a->∀P:List V->ai->Prop,(∀v b c,Q v b->Hd b c->P v c)->e l a P
noncomputable def Sw(S:TH)(l:au)(e:aE)(Q:Fl->au->TH->Prop):Prop:=∀a,Hd S a->∀P:Fl->au->ai->Prop,(∀f l' b c,Q f l' b->Hd b c->P f l' c)->e l a P
noncomputable def Fg(fn:aG)(f:Addr)(vs:List V)(S:TH)(v:V):Prop:=∀T,Sub S T->∀a,Hd T a->∀P:V->ai->Prop,(∀b,Hd T b->P v b)->fn f vs a P
noncomputable def Fn(fn:aG)(f:Addr)(vs:List V)(S:TH)(ws:List V):Prop:=∀T,Sub S T->∀a,Hd T a->∀P:V->ai->Prop,(∀r b,T r=none->Hd (upd T r<|.list ws) b->P (.ref r) b)->fn f vs a P
noncomputable def Fx(fn:aG)(f:Addr)(vs:List V)(S:TH)(Q:V->TH->Prop):Prop:=∀a,Hd S a->∀P:V->ai->Prop,(∀v b c,Q v b->Hd b c->P v c)->fn f vs a P
noncomputable def dg(S:TH)(l:au)(s:cK)(vs:List V)(G:TH->Prop):Prop:=∀T,Sub S T->∀a,Hd T a->∀k:List V->(ai->Prop)->ai->Prop,(∀ok b,Hd T b->(∀c d,Hd c d->G c->ok d)->k vs ok b)->s l a k
noncomputable def hV(S:TH)(l:au)(s:cK)(vs:List V)(o:aQ):Prop:=∀T,Sub S T->∀a,Hd T a->∀k:List V->(ai->Prop)->ai->Prop,(∀r ok b,T r=none->Hd (upd T r o) b->(∀c d,Hd c d->c r=some o->ok d)->k vs ok b)->s l a k
section
variable{S B:TH}{z A:ai}{l:au}{e e' C:M}{es:Ms}{v w u:V}{vs ws:List V}{i j r:Nat}{o:aQ}{n:Str}{c:Addr}{fs:List (Str×V)}{kk:KK}{ds:List (V×V)}{Q:V->TH->Prop}
theorem aJ:upd S i o i=some o:=az rfl
theorem bC(h:j≠i):upd S i o j=S j:=ay h
theorem br(h:S r=none)(g:S i=some o){o'}:upd S r o' i=some o:=by unfold upd;rw[if_neg,g];rintro rfl;exact(a4<|h.symm.trans g)
theorem Hd.put(h:Hd S z){o'}(g:S i=some o'):Hd (upd S i o) (z.set i o):=λj p e=>by
 unfold upd at e;split at e
 .obtain rfl:=aT e;subst j;exact gU (cN.mp<|h _ _ g).1
 .rename_i q;exact Y (hB<|cO q)<|h _ _ e
theorem Hd.cv(h:Hd S z):S z.length=none:=h4.mpr λo e=>eh _ (cN.mp<|h _ _ e).1
theorem Hd.new(h:Hd S z):Hd (upd S z.length o) (z++[o]):=λj p e=>by
 unfold upd at e;split at e
 .obtain rfl:=aT e;subst j;exact fq _ _
 .exact fG<|h _ _ e
theorem Hd.weak(h:Hd (upd S r o) A)(g:S r=none):Hd S A:=λj p e=>h _ _<|br g e
theorem Hd.at(h:Hd (upd S r o) A):A[r]? =some o:=h _ _ aJ
theorem Sub.refl(S:TH):Sub S S:=λZ Z e=>e
theorem Sub.new(g:S r=none):Sub S (upd S r o):=λZ Z e=>br g e
theorem Sub.trans{T U:TH}(a:Sub S T)(b:Sub T U):Sub S U:=λi o e=>b i o<|a i o e
theorem Eg.pj{T:TH}(h:Eg S l e v)(a:Sub S T):Eg T l e v:=λU b=>h U<|a.trans b
theorem Eg.x(h:Eg S l e v)(q:Q v S):Ex S l e Q:=λz a P k=>h S (.refl S) z a P λA b=>k v S A q b
theorem El.x(h:El S l e vs)(q:∀r,S r=none->Q (.ref r) (upd S r (.list vs))):Ex S l e Q:=λz a P k=>h S (.refl S) z a P λr A g b=>k _ _ A (q r g) b
theorem Es.x{Q:List V->TH->Prop}(h:Es S l es vs)(q:Q vs S):eM S l es Q:=λz a P k=>h S (.refl S) z a P λA b=>k vs S A q b
theorem Ex.mono{a:V->TH->Prop}(h:Ex S l e a)(q:∀v B,a v B->Q v B):Ex S l e Q:=λz b P k=>h z b P λv B A p=>k v B A<|q v B p
theorem Eg.vr(h:l[i]? =some (some v)):Eg S l (vr i) v:=λT s z a P k=>by show kI l i _;unfold kI;exact Y h<|k z a
theorem Eg.cst:Eg S l (cst v) v:=λT s z a P k=>k z a
theorem Eg.attr(h:Eg S l e (.ref i))(g:S i=some (.inst c fs))(f:fs.lookup n=some v):Eg S l (aw e n) v:=λT s z b P k=>h T s z b _ λA a=>⟨c,fs,a _ _<|s _ _ g,v,f,k A a⟩
theorem Es.nil:Es S l aa []:=λT s z a P k=>k z a
theorem Es.cons(h:Eg S l e v)(a:Es S l es vs):Es S l (H e es) (v::vs):=λT s z b P k=>h T s z b _ λA c=>a T s A c _ k
theorem Es.one(h:Eg S l e v):Es S l (H e aa) [v]:= .cons h .nil
theorem eM.cons{Q:List V->TH->Prop}(Q₁:V->TH->Prop)(h:Ex S l e Q₁)(b:∀v B,Q₁ v B->eM B l es λvs a=>Q (v::vs) a):eM S l (H e es) Q:=λz c P k=>h z c _ λv B A q d=>b v B q A d _ λvs a f p g=>k _ _ f p g
theorem eM.jb{Q:List V->TH->Prop}(h:Eg S l e v)(b:eM S l es λvs a=>Q (v::vs) a):eM S l (H e es) Q:=λz c P k=>h S (.refl S) z c _ λA d=>b A d _ λvs a f p g=>k _ _ f p g
theorem eM.nil{Q:List V->TH->Prop}(h:Q [] S):eM S l aa Q:=λz a P k=>k _ _ z h a
theorem eM.one{Q:List V->TH->Prop}(h:Ex S l e λv B=>Q [v] B):eM S l (H e aa) Q:=λz a P k=>h z a _ λv B A q b=>k _ _ A q b
theorem Eg.tup(h:Es S l es vs)(a:vs.length<=aF):Eg S l (bj es) (.tup vs):=λT s z b P k=>h T s z b _ λA c=>⟨a,k A c⟩
theorem Ex.tup(h:eM S l es λvs B=>vs.length<=aF/\Q (.tup vs) B):Ex S l (bj es) Q:=λz a P k=>h z a _ λvs B A q b=>⟨q.1,k _ _ A q.2 b⟩
theorem El.lst(h:Es S l es vs)(b:vs.length<=aF):El S l (cg es) vs:=λT s z c P k=>h T s z c _ λA a=>⟨b,k _ _ a.cv a.new⟩
theorem Eg.not{b:Bool}(h:Eg S l e (.bool b)):Eg S l (notM e) (.bool !b):=λT s z a P k=>h T s z a _ k
theorem Eg.ite{b:Bool}{c:M}(h:Eg S l c (.bool b))(a:b=true->Eg S l e v)(d:b=false->Eg S l e' v):Eg S l (eI c e e') v:=λT s z g P k=>h T s z g _ λA f=>match b,a,d with
 |true,a,_=>a rfl T s A f _ k
 |false,_,d=>d rfl T s A f _ k
theorem Eg.and{a b:Bool}(h:Eg S l e (.bool a))(c:a=true->Eg S l e' (.bool b)):Eg S l (andM e e') (.bool (a&&b)):=λT s z f P k=>h T s z f _ λA d=>match a,c,k with
 |true,c,k=>c rfl T s A d _ k
 |false,_,k=>k A d
theorem Eg.or{a b:Bool}(h:Eg S l e (.bool a))(c:a=false->Eg S l e' (.bool b)):Eg S l (orM e e') (.bool (a||b)):=λT s z f P k=>h T s z f _ λA d=>match a,c,k with
 |false,c,k=>c rfl T s A d _ k
 |true,_,k=>k A d
theorem Eg.cmp{op:CmpOp}{b:Bool}(h:Eg S l e v)(d:Eg S l e' w)(hf:∀A,Hd S A->∀P:Bool->Prop,P b->qA op A v w P):Eg S l (aH op e e') (.bool b):=λT s z f P k=>h T s z f _ λA j=>d T s A j _ λa c=>hf a (λi o g=>c i o<|s i o g) (λr=>P (.bool r) a)<|k a c
theorem Eg.bin{op:Operator}(h:Eg S l e v)(b:Eg S l e' w)(hf:∀A,∀P:V->ai->Prop,P u A->qr op A v w P):Eg S l (a9 op e e') u:=λT s z c P k=>h T s z c _ λA d=>b T s A d _ λa f=>hf a P<|k a f
theorem Eg.sub(h:Eg S l e v)(c:Eg S l e' w)(hf:∀A,Hd S A->∀P:V->Prop,P u->qx A v w P):Eg S l (ax e e') u:=λT s z d P k=>h T s z d _ λA f=>c T s A f _ λa b=>hf a (λi o g=>b i o<|s i o g) (P · a)<|k a b
open Classical in
theorem w2(a:a8 40 v)(b:a8 40 w){P:Bool->Prop}(p:P (decide (v=w))):oe z v w P:= .inl ⟨a,b,p⟩
open Classical in
theorem Eg.eq(h:Eg S l e v)(a:Eg S l e' w)(b:a8 40 v)(c:a8 40 w):Eg S l (aH .Eq e e') (.bool (decide (v=w))):= .cmp h a λA Z P p=>w2 b c p
open Classical in
theorem Eg.ne(h:Eg S l e v)(a:Eg S l e' w)(b:a8 40 v)(c:a8 40 w):Eg S l (aH .NotEq e e') (.bool !(decide (v=w))):= .cmp h a λA Z P p=> .inl<|w2 b c p
open Classical in
theorem w3(a b:Int):decide (V.int a=V.int b)=decide (a=b):=gq.mpr ⟨V.int.inj,ar _⟩
theorem Eg.fu{a b:Int}(h:Eg S l e (.int a))(c:Eg S l e' (.int b)):Eg S l (aH .Eq e e') (.bool (decide (a=b))):=w3 a b▸.eq h c (.int _ _) (.int _ _)
open Classical in
theorem G4(a b:Str):decide (V.str a=V.str b)=decide (a=b):=gq.mpr ⟨V.str.inj,ar _⟩
theorem Eg.j5{a b:Str}(h:Eg S l e (.str a))(c:Eg S l e' (.str b)):Eg S l (aH .Eq e e') (.bool (decide (a=b))):=G4 a b▸.eq h c (.str _ _) (.str _ _)
theorem Eg.pk{a b:Int}(h:Eg S l e (.int a))(c:Eg S l e' (.int b)):Eg S l (aH .NotEq e e') (.bool !(decide (a=b))):=w3 a b▸.ne h c (.int _ _) (.int _ _)
theorem Eg.lt{a b:Int}(h:Eg S l e (.int a))(c:Eg S l e' (.int b)):Eg S l (aH .Lt e e') (.bool (decide (a<b))):= .cmp h c λA Z P p=>p
theorem Eg.gt{a b:Int}(h:Eg S l e (.int a))(c:Eg S l e' (.int b)):Eg S l (aH .Gt e e') (.bool (decide (a>b))):= .cmp h c λA Z P p=>p
theorem Eg.l7{a b:Int}(h:Eg S l e (.int a))(c:Eg S l e' (.int b)):Eg S l (a9 .Add e e') (.int (a+b)):= .bin h c λA P p=> .inl p
theorem Eg.nv{a b:Int}(h:Eg S l e (.int a))(c:Eg S l e' (.int b)):Eg S l (a9 .Sub e e') (.int (a-b)):= .bin h c λA P p=>p
theorem Eg.r6{a b:Str}(h:Eg S l e (.str a))(c:Eg S l e' (.str b))(d:a.length+b.length<=aF):Eg S l (a9 .Add e e') (.str (a++b)):= .bin h c λA P p=> .inr<|.inl ⟨d,p⟩
theorem Eg.ny(h:Eg S l e (.tup vs))(a:Eg S l e' (.tup ws))(b:vs.length+ws.length<=aF):Eg S l (a9 .Add e e') (.tup (vs++ws)):= .bin h a λA P p=> .inr<|.inr<|.inl ⟨b,p⟩
theorem Eg.eu(h:Eg S l e (.tup vs))(b:Eg S l e' (.int j))(a:vs[j]? =some v)(c:vs.length<=1000000):Eg S l (ax e e') v:= .sub h b λA Z P p=> .inl ⟨eR j,(cN.mp a).1,c,v,a,p⟩
theorem Eg.eY(h:Eg S l e (.ref r))(b:Eg S l e' (.int j))(g:S r=some (.list vs))(a:vs[j]? =some v)(c:vs.length<=1000000):Eg S l (ax e e') v:= .sub h b λA d P p=> .inr<|.inr<|.inl ⟨vs,d _ _ g,eR j,(cN.mp a).1,c,v,a,p⟩
theorem Eg.gL{k:V}(h:Eg S l e (.ref r))(a:Eg S l e' k)(g:S r=some (.dict kk ds))(b:bK kk k)(c:aW ds k=some v):Eg S l (ax e e') v:= .sub h a λA d P p=> .inr<|.inr<|.inr ⟨kk,ds,d _ _ g,b,v,c,p⟩
theorem Eg.f9(h:Eg S l e (.tup vs)){k:Nat}(a:1<=k/\k<=vs.length/\vs.length<=aF):Eg S l (c4 e k) (.tup (vs.drop k)):=λT s z b P q=>h T s z b _ λA c=> .inl ⟨a.1,a.2.1,a.2.2,q A c⟩
theorem Eg.l8(h:Eg S l e (.tup vs))(a:vs.length<=aF):Eg S l (aC (aD .len) (H e aa)) (.int vs.length):=λT s z b P k=>h T s z b _ λA c=> .inl ⟨a,k A c⟩
theorem Eg.ec(h:Eg S l e (.ref r))(g:S r=some (.list vs))(b:vs.length<=aF):Eg S l (aC (aD .len) (H e aa)) (.int vs.length):=λT s z c P k=>h T s z c _ λA a=> .inr ⟨vs,a _ _<|s _ _ g,b,k A a⟩
theorem Eg.r7(h:Eg S l e (.tup vs)):Eg S l (aC (aD .tuple) (H e aa)) (.tup vs):=λT s z a P k=>h T s z a _ λA b=> .inl<|k A b
theorem Eg.nz(h:El S l e vs)(b:vs.length<=aF):Eg S l (aC (aD .tuple) (H e aa)) (.tup vs):=λT s z c P k=>h T s z c _ λr A g a=> .inr ⟨vs,a.at,b,k A<|a.weak g⟩
theorem El.pn(h:Eg S l e (.ref r))(g:S r=some (.list vs))(b:vs.length<=aF):El S l (aC (aD .list) (H e aa)) vs:=λT s z c P k=>h T s z c _ λA a=> .inl<|.inr ⟨vs,a _ _<|s _ _ g,b,k _ _ a.cv a.new⟩
theorem Eg.getD{k d:V}{a b:M}(h:Eg S l e (.ref r))(g:S r=some (.dict kk ds))(i:Eg S l a k)(j:Eg S l b d)(m:bK kk k):Eg S l (bB (bG .get) (bH .get) e (H a (H b aa))) ((aW ds k).getD d):=λT s z n P q=>h T s z n _ λA c=>⟨⟨kk,ds,c _ _<|s _ _ g,trivial⟩,i T s A c _ λo p=>j T s o p _ λt f=>⟨kk,ds,f _ _<|s _ _ g,m,q t f⟩⟩
theorem Eg.G5(h:Eg S l e v)(a:Eg S l e' (.ref r))(g:S r=some (.dict kk ds))(b:bK kk v):Eg S l (aH .In e e') (.bool (aW ds v).isSome):= .cmp h a λA c P p=> .inr<|.inr ⟨kk,ds,c _ _ g,b,p⟩
variable{fn:aG}{f:Addr}{el:Addr->Str->Option Addr}
theorem Eg.call(h:Es S l es vs)(hf:Fg fn f vs S v):Eg S l (b2 fn f es) v:=λT s z a P k=>h T s z a _ λA b=>hf T s A b P k
theorem Eg.bP(h:Eg S l e (.ref i))(g:S i=some (.inst c fs))(hm:el c n=some f)(hs:Es S l es vs)(hf:Fg fn f (.ref i::vs) S v):Eg S l (aX fn el e n es) v:=λT s z b P k=>h T s z b _ λA a=>⟨c,fs,a _ _<|s _ _ g,f,hm,hs T s A a _ λd j=>hf T s d j P k⟩
theorem El.call(h:Es S l es vs)(hf:Fn fn f vs S ws):El S l (b2 fn f es) ws:=λT s z a P k=>h T s z a _ λA b=>hf T s A b P k
theorem El.bP(h:Eg S l e (.ref i))(g:S i=some (.inst c fs))(hm:el c n=some f)(hs:Es S l es vs)(hf:Fn fn f (.ref i::vs) S ws):El S l (aX fn el e n es) ws:=λT s z b P k=>h T s z b _ λA a=>⟨c,fs,a _ _<|s _ _ g,f,hm,hs T s A a _ λd j=>hf T s d j P k⟩
theorem Ex.call(h:eM S l es λvs B=>Fx fn f vs B Q):Ex S l (b2 fn f es) Q:=λz a P k=>h z a _ λvs B A q b=>q A b P k
theorem Ex.bP(h:Eg S l e (.ref i))(g:S i=some (.inst c fs))(hm:el c n=some f)(hs:eM S l es λvs B=>Fx fn f (.ref i::vs) B Q):Ex S l (aX fn el e n es) Q:=λz b P k=>h S (.refl S) z b _ λA a=>⟨c,fs,a _ _ g,f,hm,hs A a _ λvs B d q j=>q d j P k⟩
theorem El.add(h:El S l e vs)(b:El S l e' ws)(c:vs.length+ws.length<=aF):El S l (a9 .Add e e') (vs++ws):=λT s z d P k=>h T s z d _ λr A g f=>b _ (s.trans<|.new g) A f _ λi j g' a=>
 .inr (.inr<|.inr ⟨vs,(a.weak g').at,ws,a.at,c,k _ _ ((a.weak g').weak g).cv ((a.weak g').weak g).new⟩)
theorem Ex.new(h:eM S l es λvs B=>∀r,B r=none->Fx fn f (.ref r::vs) (upd B r (.inst c [])) λv a=>v= .none/\Q (.ref r) a):Ex S l (gG fn c f es) Q:=λz d P k=>h z d _ λvs B A q b=>q _ b.cv _ b.new _ λv a e p g=>⟨p.1,k _ _ e p.2 g⟩
theorem dg.tup(h:Eg S l e (.tup vs)):dg S l (aI e) vs λZ=>True:=λT s z a k q=>h T s z a _ λA b=> .inl<|q _ A b λZ Z Z Z=>trivial
theorem dg.list(h:Eg S l e (.ref r))(g:S r=some (.list vs)):dg S l (aI e) vs λB=>B r=some (.list vs):=λT s z b k q=>h T s z b _ λA a=> .inr<|.inl ⟨vs,a _ _<|s _ _ g,q _ A a λd f c g'=>c _ _ g'⟩
theorem dg.cP{a b c:Int}(h:Eg S l e (.cP a b c))(d:lO a b c):dg S l (aI e) (gD a b c) λZ=>True:=λT s z f k q=>h T s z f _ λA g=> .inr<|.inr ⟨d,q _ A g λZ Z Z Z=>trivial⟩
theorem dg.G6(h:Eg S l e (.tup vs)):dg S l (enumSrc e) (fa 0 vs) λZ=>True:=λT s z a k q=>h T s z a _ λA b=> .inl<|q _ A b λZ Z Z Z=>trivial
theorem dg.w4(h:Eg S l e (.ref r))(g:S r=some (.list vs)):dg S l (enumSrc e) (fa 0 vs) λB=>B r=some (.list vs):=λT s z b k q=>h T s z b _ λA a=> .inr ⟨vs,a _ _<|s _ _ g,q _ A a λd f c g'=>c _ _ g'⟩
theorem hV.new(h:El S l e vs):hV S l (aI e) vs (.list vs):=λT s z b k q=>h T s z b _ λr A g a=> .inr<|.inl ⟨vs,a.at,q r _ A g a λd f c g'=>c _ _ g'⟩
theorem hV.zip(h:Eg S l e (.tup vs))(b:Eg S l e' (.tup ws))(c:vs.length=ws.length):hV S l (zipSrc e e') (ir vs ws) .pair:=λT s z d k q=>h T s z d _ λA f=>b T s A f _ λi a=>⟨c,q _ _ _ a.cv a.new λj m g g'=>g _ _ g'⟩
theorem nA{body:V->List V->ai->(List V->ai->Prop)->Prop}{ok:ai->Prop}(I:List V->List V->ai->Prop)(c:∀r acc z,I r acc z->ok z)(step:∀v r acc z,I (v::r) acc z->∀P:List V->ai->Prop,(∀a b,I r a b->P a b)->body v acc z P):
  ∀(items acc:List V)(z:ai)(P:List V->ai->Prop),I items acc z->(∀a b,I [] a b->P a b)->jT body ok items acc z P:=by
 intro items;induction items with
 |nil=>exactλacc z P h k=>⟨c _ _ _ h,k acc z h⟩
 |cons v r d=>exactλacc z P h k=>⟨c _ _ _ h,step v r acc z h _ λa b e=>d a b P e k⟩
noncomputable def Gb(S:TH)(b:List V->ai->(List V->ai->Prop)->Prop)(ws:List V):Prop:=∀T,Sub S T->∀z,Hd T z->∀(acc:List V)(P:List V->ai->Prop),acc.length+ws.length<=aF->(∀A,Hd T A->P (acc++ws) A)->b acc z P
theorem la{T:TH}{items:List V}{body:V->List V->ai->(List V->ai->Prop)->Prop}{ok:ai->Prop}{f:V->List V}(s:Sub S T)(d:∀z,Hd T z->ok z)(g:∀v,v∈items->Gb S (body v) (f v))(acc:List V)(c:acc.length+(items.flatMap f).length<=aF)(z:ai)(i:Hd T z)(P:List V->ai->Prop)
  (k:∀A,Hd T A->P (acc++items.flatMap f) A):jT body ok items acc z P:=
 nA (ok:=ok) (λr a b=>Hd T b/\a++r.flatMap f=acc++items.flatMap f/\∀v∈r,v∈items) (λr a b h=>d b h.1) (λv r a b h P j=>by
  have e:a++(f v++r.flatMap f)=acc++items.flatMap f:=h.2.1;refine g v (h.2.2 v<|.head _) T s b h.1 a P ?_ λl y=>j _ l ⟨y,Y (gV ..) e,λw m=>h.2.2 w<|.tail _ m⟩;rw[←a0,←e,a0,a0] at c
  exact ah (bz (cp _ _) _) c) items acc z P ⟨i,rfl,λZ=>id⟩ λa b h=>by rw[←(d2 a).symm.trans h.2.1] at k;exact k b h.1
theorem pq{n m:Nat}(h:n<=m):([]:List V).length+n<=m:=(eE n).symm▸h
variable{src:cK}{js:List Nat}{k:Nat}{t:Mt}{c':Mb}{b:Mg}{items:List V}{g:V->List V}{G:TH->Prop}
theorem El.comp(hs:dg S l src items G)(d:∀T,Sub S T->G T)(e:(items.flatMap g).length<=aF)(f:∀v,v∈items->Gb S (gI t c' b (cH js k l) v) (g v)):El S l (aS src js k t c' b) (items.flatMap g):=λT s z h P q=>hs T s z h _ λok A i j=>
 la s (λc a=>j T c a<|d T s) f [] (pq e) A i _ λc a=>q _ _ a.cv a.new
theorem El.r8(hs:hV S l src items o)(d:(items.flatMap g).length<=aF)(f:∀v,v∈items->Gb S (gI t c' b (cH js k l) v) (g v)):El S l (aS src js k t c' b) (items.flatMap g):=λT s z h P q=>hs T s z h _ λr ok A e i j=>
 la (s.trans<|.new e) (λc a=>j _ c a aJ) f [] (pq d) A i _ λc a=>q _ _ (a.weak e).cv (a.weak e).new
theorem Gb.gen{l':au}(hs:dg S l' src items G)(a:∀T,Sub S T->G T)(c:∀v,v∈items->Gb S (gI t c' b l' v) (g v)):Gb S (e9 src t c' b l') (items.flatMap g):=λT s z d acc P e q=>hs T s z d _ λok A f h=>la s (λi j=>h T i j<|a T s) c acc e A f _ q
theorem Gb.w5{l':au}(hs:hV S l' src items o)(d:∀v,v∈items->Gb S (gI t c' b l' v) (g v)):Gb S (e9 src t c' b l') (items.flatMap g):=λT s z f acc P h q=>hs T s z f _ λr ok A e i j=>la (s.trans<|.new e) (λa c=>j _ a c aJ) d acc h A i _ λa c=>q a<|c.weak e
theorem Gb.elt(h:Eg S l e v):Gb S (aR e l) [v]:=λT s z a acc P b q=>h T s z a _ λA c=>⟨b,q A c⟩
theorem Gb.name{ws:List V}(h:Gb S (b (l.set i (some v))) ws):Gb S (gI (aj i) aK b l v) ws:=h
theorem Gb.if{b':Bool}{ws:List V}(h:Eg S (l.set i (some v)) e (.bool b'))(a:b'=true->Gb S (b (l.set i (some v))) ws)(c:b'=false->ws=[]):Gb S (gI (aj i) (c1 e aK) b l v) ws:=λT s z f acc P g q=>h T s z f _ λA d=>match b',a,c with
 |true,a,_=>a rfl T s A d acc P g q
 |false,_,c=>by have q:=q A d;rw[c rfl,d2] at q;exact q
theorem j6{a b:Type}(f:a->b)(l:List a):l.map f=l.flatMap λv=>[f v]:=List.map_eq_flatMap
theorem l9{a b:Type}(f:a->b)(l:List a):(l.flatMap λv=>[f v]).length=l.length:=Y (j6 ..).symm<|Y (aV ..) rfl
theorem El.map{g:V->V}(hs:dg S l src items G)(a:∀T,Sub S T->G T)(b:items.length<=aF)(c:∀v,v∈items->Eg S ((cH js 1 l).set i (some v)) e (g v)):El S l (aS src js 1 (aj i) aK (aR e)) (items.map g):=(j6 g items).symm▸.comp hs a ((l9 g items).symm▸b) λv m=> .name<|.elt<|c v m
theorem El.G7{g:V->V}(hs:hV S l src items o)(a:items.length<=aF)(b:∀v,v∈items->Eg S ((cH js 1 l).set i (some v)) e (g v)):El S l (aS src js 1 (aj i) aK (aR e)) (items.map g):=(j6 g items).symm▸.r8 hs ((l9 g items).symm▸a) λv m=> .name<|.elt<|b v m
end
section
variable{S d:TH}{m A:ai}{l l':au}{e e' E a b:M}{es:Ms}{v w u:V}{vs ws:List V}{i j r:Nat}{o:aQ}{n:Str}{c:Addr}{fs:List (Str×V)}{kk:KK}{ds:List (V×V)}{Q:Fl->au->TH->Prop}{q D rest:aE}{K:V->TH->Prop}
theorem Sw.mono{a:Fl->au->TH->Prop}(h:Sw S l q a)(k:∀f l' d,a f l' d->Q f l' d):Sw S l q Q:=λm b P p=>h m b P λf l' d A x=>p f l' d A<|k f l' d x
theorem Sw.weak(h:Sw S l q Q)(s:Sub S d):Sw d l q Q:=λm a P k=>h m (λi o g=>a i o<|s i o g) P k
theorem Ex.append(h:Eg S l a (.ref r))(g:S r=some (.list vs))(e:Eg S l b v)(f:vs.length<=aF)(k:K .none (upd S r (.list (vs++[v])))):Ex S l (bB (bG .append) (bH .append) a (H b aa)) K:=λm i P p=>h S (.refl S) m i _ λA c=>⟨⟨vs,c _ _ g,trivial⟩,e S (.refl S) A c _ λj d=>⟨vs,d _ _ g,f,p _ _ _ k<|d.put g⟩⟩
theorem Ex.extend(h:Eg S l a (.ref r))(g:S r=some (.list vs))(e:Eg S l b (.ref j))(g':S j=some (.list ws))(f:vs.length+ws.length<=aF)(k:K .none (upd S r (.list (vs++ws)))):Ex S l (bB (bG .extend) (bH .extend) a (H b aa)) K:=λm i P p=>h S (.refl S) m i _ λA d=>⟨⟨vs,d _ _ g,trivial⟩,e S (.refl S) A d _ λn c=>⟨vs,c _ _ g,ws,c _ _ g',f,p _ _ _ k<|c.put g⟩⟩
theorem Ex.G8(h:Eg S l a (.ref r))(g:S r=some (.list vs))(f:El S l b ws)(i:vs.length+ws.length<=aF)(k:K .none (upd S r (.list (vs++ws)))):Ex S l (bB (bG .extend) (bH .extend) a (H b aa)) K:=λm n P p=>h S (.refl S) m n _ λA d=>⟨⟨vs,d _ _ g,trivial⟩,f S (.refl S) A d _ λj o e c=>⟨vs,(c.weak e) _ _ g,ws,c.at,i,p _ _ _ k<|(c.weak e).put g⟩⟩
theorem Ex.pop(h:Eg S l a (.ref r))(g:S r=some (.list (vs++[v])))(c:(vs++[v]).length<=aF)(k:K v (upd S r (.list vs))):Ex S l (bB (bG .pop) (bH .pop) a aa) K:=λm d P p=>h S (.refl S) m d _ λA b=>⟨⟨_,b _ _ g,trivial⟩,⟨_,b _ _ g,c,v,vs,rfl,p _ _ _ k<|b.put g⟩⟩
theorem Ex.gH(h:Eg S l a (.ref r))(g:S r=some (.dict kk ds))(e:Eg S l b w)(f:bK kk w)(i:ds.length<=aF)(hd:aW ds w=some v)(k:K v (upd S r (.dict kk (iU ds w)))):Ex S l (bB (bG .gH) (bH .gH) a (H b aa)) K:=λm j P p=>h S (.refl S) m j _ λA c=>⟨⟨kk,ds,c _ _ g,trivial⟩,e S (.refl S) A c _ λn d=>⟨kk,ds,d _ _ g,f,i,v,hd,p _ _ _ k<|d.put g⟩⟩
theorem Ex.eJ(h:Eg S l a (.ref r))(g:S r=some (.dict kk ds))(f:Eg S l b w)(i:Eg S l e v)(j:bK kk w)(k:ds.length<=aF)(n:∀u,aW ds w=some u->K u S)(k2:aW ds w=none->K v (upd S r (.dict kk (bD ds w v)))):
  Ex S l (bB (bG .eJ) (bH .eJ) a<|H b<|H e aa) K:=λm o P p=>h S (.refl S) m o _ λA d=>⟨⟨kk,ds,d _ _ g,trivial⟩,f S (.refl S) A d _ λq s=>i S (.refl S) q s _ λt c=>⟨kk,ds,c _ _ g,j,k,λu e=>p _ _ _ (n u e) c,λe=>p _ _ _ (k2 e)<|c.put g⟩⟩
theorem Sw.pass(h:Q .next l S):Sw S l av Q:=λm a P k=>k _ _ _ m h a
theorem Sw.ret(h:Ex S l e λv d=>Q (.ret v) l d):Sw S l (a5 e) Q:=λm a P k=>h m a _ λv d A q b=>k _ _ _ A q b
theorem Sw.G9(h:Eg S l e v)(k:Q (.ret v) l S):Sw S l (a5 e) Q:= .ret<|h.x k
theorem Sw.seq(Q₁:au->TH->Prop)(h:Sw S l q λf l' d=>match f with| .next=>Q₁ l' d| .ret v=>Q (.ret v) l' d)(k:∀l' d,Q₁ l' d->Sw d l' rest Q):Sw S l (ag q rest) Q:=λm b P p=>h m b _ λf l' d A x a=>match f,x with
 | .next,x=>k l' d x A a P p
 | .ret v,x=>p _ _ _ A x a
theorem Sw.fst(h:Sw S l q λf l' d=>match f with| .next=>False| .ret v=>Q (.ret v) l' d):Sw S l (ag q rest) Q:= .seq (λZ Z=>False) h λZ Z x=>x.elim
theorem Sw.dz(h:Eg S l e v)(k:Q (.ret v) l S):Sw S l (ag (a5 e) rest) Q:=λm a P p=>h S (.refl S) m a _ λA b=>p _ _ _ A k b
theorem Sw.iw(h:Ex S l e λv d=>Q (.ret v) l d):Sw S l (ag (a5 e) rest) Q:=λm a P p=>h m a _ λv d A q b=>p _ _ _ A q b
theorem Sw.asg(h:Eg S l e v)(k:Sw S (l.set i (some v)) rest Q):Sw S l (ag (aB (aj i) e) rest) Q:=λm a P p=>h S (.refl S) m a _ λA b=>k A b P p
theorem Sw.b8(h:Ex S l e λv d=>Sw d (l.set i (some v)) rest Q):Sw S l (ag (aB (aj i) e) rest) Q:=λm a P p=>h m a _ λv d A q b=>q A b P p
theorem Sw.dp(h:Ex S l e λv d=>Sw d l rest Q):Sw S l (ag (cn e) rest) Q:=λm a P p=>h m a _ λv d A q b=>q A b P p
theorem Sw.attr{t:M}(h:Ex S l e λv d=>∃i c fs,Eg d l t (.ref i)/\d i=some (.inst c fs)/\Sw (upd d i (.inst c (gC fs n v))) l rest Q):Sw S l (ag (aB (cA t n) e) rest) Q:=
 λm b P p=>h m b _ λv d A q f=>by refine cj q λi c j=>?_;refine bE j λfs k g o=>?_;exact k d (.refl d) A f _ λr a=>⟨c,fs,a _ _ g,o _ (a.put g) P p⟩
theorem Sw.eY{t:M}(h:Ex S l e λv d=>∃r vs j,Eg d l t (.ref r)/\Eg d l b (.int (j:Nat))/\d r=some (.list vs)/\(j<vs.length/\vs.length<=1000000)/\Sw (upd d r (.list (vs.set j v))) l rest Q):Sw S l (ag (aB (e8 t b) e) rest) Q:=
 λm f P p=>h m f _ λv d A q i=>by refine hI q λr vs j k n g o=>?_;refine jA o λa s=>?_;exact k d (.refl d) A i _ λu w=>n d (.refl d) u w _ λx c=> .inl ⟨vs,c _ _ g,eR j,a.1,a.2,s _ (c.put g) P p⟩
theorem Sw.gL{t:M}(h:Ex S l e λv d=>∃r kk ds w,Eg d l t (.ref r)/\Eg d l b w/\d r=some (.dict kk ds)/\(bK kk w/\ds.length<=aF)/\Sw (upd d r (.dict kk (bD ds w v))) l rest Q):Sw S l (ag (aB (e8 t b) e) rest) Q:=
 λm f P p=>h m f _ λv d A q i=>by refine cj q λr kk j=>?_;refine dE j λds w k n g o=>?_;refine jA o λa s=>?_;exact k d (.refl d) A i _ λu x=>n d (.refl d) u x _ λy c=> .inr ⟨kk,ds,c _ _ g,a.1,a.2,s _ (c.put g) P p⟩
theorem Sw.jZ(h:Ex S l e λx d=>∃v w,(x= .tup [v,w]\/∃r,x= .ref r/\d r=some (.list [v,w]))/\Sw d ((l.set i (some v)).set j (some w)) rest Q):Sw S l (ag (aB (cB 2 (bb (aj i) (bb (aj j) cu))) e) rest) Q:=
 λm n P p=>h m n _ λx d A q b=>by
  refine cq q λv w o s=>?_;have k:([v,w]:List V).length=2/\bb (aj i) (bb (aj j) cu) [v,w] l A (λa t=>(λf a c=>oM f (rest a c P) λv=>P (.ret v) a c) Fl.next a t):=⟨rfl,v,[w],rfl,w,[],rfl,rfl,s A b P p⟩;clear q;rcases o with rfl|⟨r,rfl,g⟩
  .exact .inl k
  .exact .inr ⟨_,b _ _ g,k⟩
theorem Sw.ite{t:Bool}(h:Eg S l e (.bool t))(a:t=true->Sw S l q Q)(b:t=false->Sw S l D Q):Sw S l (bW e q D) Q:=λm d P k=>h S (.refl S) m d _ λA c=>match t,a,b with
 |true,a,_=>a rfl A c P k
 |false,_,b=>b rfl A c P k
theorem Sw.r9(h:Ex S l e λv d=>∃t,v= .bool t/\(t=true->Sw d l q Q)/\(t=false->Sw d l D Q)):Sw S l (bW e q D) Q:=λm b P k=>h m b _ λv d A x a=>by
 refine bE x λt c f g=>?_;obtain rfl:=c;clear x;cases t with
 |true=>exact f rfl A a P k
 |false=>exact g rfl A a P k
theorem Sw.guard{t:Bool}(h:Eg S l e (.bool t))(a:t=true->Sw S l q λf l' d=>match f with| .next=>False| .ret v=>Q (.ret v) l' d)(b:t=false->Sw S l rest Q):Sw S l (ag (bW e q av) rest) Q:=.seq (λl' d=>t=false/\l'=l/\d=S) (.ite h (λx m c P k=>a x m c P λf l' d A y g=>k _ _ _ A (match f,y with| .next,y=>y.elim| .ret v,y=>y) g) λx=> .pass ⟨x,rfl,rfl⟩) λl' d x=>x.2.1▸x.2.2▸b x.1
theorem Sw.ma{t:Bool}(h:Eg S l e (.bool t))(a:t=true->Sw S l (ag q rest) Q)(b:t=false->Sw S l (ag D rest) Q):Sw S l (ag (bW e q D) rest) Q:=λm d P k=>h S (.refl S) m d _ λA c=>match t,a,b with
 |true,a,_=>a rfl A c P k
 |false,_,b=>b rfl A c P k
theorem Sw.no(h:Sw S l rest Q):Sw S l (ag av rest) Q:=h
theorem Sw.assoc{a:aE}(h:Sw S l (ag q (ag a rest)) Q):Sw S l (ag (ag q a) rest) Q:=λm b P k=>by have h:=h m b P k;unfold ag at h⊢;refine cast (ar (q l m)<|funext λf=>funext λc=>funext λd=>?_) h;cases f<;>rfl
theorem Sw.while{t:Nat}(I:Nat->au->TH->Prop)(j:I t l S)(h:∀n l S,I n l S->∃t,Eg S l e (.bool t)/\(t=true->Sw S l q λf l' d=>match f with| .next=>∃k,k<n/\I k l' d| .ret v=>Q (.ret v) l' d)/\(t=false->Q .next l S)):Sw S l (i3 e q) Q:=
 λm a P k=>⟨λn l m=>∃S,I n l S/\Hd S m,⟨t,S,j,a⟩,λn l m x=>by
  refine ak x λS i a=>?_;refine bE (h n l S i) λt b o p=>?_;refine b S (.refl S) m a _ λA c=>?_;clear b;cases t with
  |true=>exact o rfl A c _ λf l' d r y g=>match f,y with
   | .next,y=>y.elim λk z=>⟨k,z.1,d,z.2,g⟩
   | .ret v,y=>k _ _ _ r y g
  |false=>exact k _ _ _ A (p rfl) c⟩
theorem mc{body:V->aE}{ok:ai->Prop}(I:List V->au->TH->Prop)(b:∀r l S,I r l S->∀m,Hd S m->ok m)(step:∀v r l S,I (v::r) l S->Sw S l (body v) λf l' d=>match f with| .next=>I r l' d| .ret v=>Q (.ret v) l' d)
  (a7:∀l S,I [] l S->Q .next l S):∀(items:List V)(l:au)(S:TH),I items l S->Sw S l (oN body ok items) Q
 |[],l,S,h=>λm a P k=>⟨b _ _ _ h m a,k _ _ _ m (a7 l S h) a⟩
 |v::r,l,S,h=>λm a P k=>⟨b _ _ _ h m a,step v r l S h m a _ λf l' d A x c=>match f,x with
  | .next,x=>mc I b step a7 r l' d x A c P k
  | .ret v,x=>k _ _ _ A x c⟩
variable{src:cK}{t:Mt}{items:List V}{G:TH->Prop}
theorem Sw.for(I:List V->au->TH->Prop)(hs:dg S l src items G)(b:I items l S)(c:∀r l S,I r l S->G S)(step:∀v r l S,I (v::r) l S->Sw S l (dF t q v) λf l' d=>match f with| .next=>I r l' d| .ret v=>Q (.ret v) l' d)
  (a7:∀l S,I [] l S->Q .next l S):Sw S l (forM src t q) Q:=λm a P k=>hs S (.refl S) m a _ λok A e g=>mc I (λr l S i m a=>g S m a<|c r l S i) step a7 items l S b A e P k
theorem Sw.w6(I:Nat->List V->au->TH->Prop)(hs:hV S l src items o)(c:∀r,S r=none->I r items l (upd S r o))(g:∀r a l S,I r a l S->S r=some o)
  (step:∀r v a l S,I r (v::a) l S->Sw S l (dF t q v) λf l' d=>match f with| .next=>I r a l' d| .ret v=>Q (.ret v) l' d) (a7:∀r l S,I r [] l S->Q .next l S):Sw S l (forM src t q) Q:=
 λm b P k=>hs S (.refl S) m b _ λr ok A e h j=>mc (I r) (λa l S i m b=>j S m b<|g r a l S i) (step r) (a7 r) items l _ (c r e) A h P k
theorem Sw.dF(h:Sw S (l.set i (some v)) q Q):Sw S l (dF (aj i) q v) Q:=h
theorem Sw.me(h:Sw S ((l.set i (some v)).set j (some w)) q Q):Sw S l (Mine.dF (cB 2 (bb (aj i) (bb (aj j) cu))) q (.tup [v,w])) Q:=λm a P k=> .inl ⟨rfl,v,[w],rfl,w,[],rfl,rfl,h m a P k⟩
theorem Sw.then(h:Sw S l q λf l' d=>match f with| .next=>Sw d l' rest Q| .ret v=>Q (.ret v) l' d):Sw S l (ag q rest) Q:= .seq (λl' d=>Sw d l' rest Q) h λZ Z x=>x
variable{tb:i9}{pr:aG}{f:Addr}{B C k:Nat}{body:aG->aE}
theorem cT{K:V->TH->Prop}(h:tb f=some (B,C,body))(a:vs.length=B)(b:Sw S (dw vs C) (body (ea tb pr k)) λfl Z d=>K (eX fl) d):Fx (ea tb pr (k+1)) f vs S K:=λm c P p=>by
 show(match tb f with
   |some q=>vs.length=q.1/\q.2.2 (ea tb pr k) (dw vs q.2.1) m λfl Z e=>P (eX fl) e
   |none=>pr f vs m P)
 exact Y h ⟨a,b m c _ λfl l' d A x g=>p _ _ A x g⟩
theorem mf(h:tb f=some (B,C,body))(a:vs.length=B)(b:∀T,Sub S T->Sw T (dw vs C) (body (ea tb pr k)) λfl Z d=>eX fl=v/\Sub T d):Fg (ea tb pr (k+1)) f vs S v:=λT s m c P p=>cT (K:=λx d=>x=v/\Sub T d) h a (b T s) m c P λx d A y e=>y.1▸p A λi o g=>e i o<|y.2 i o g
theorem hl{e:aG->M}(h:tb f=some (B,C,λfn=>ag (a5 (e fn)) av))(a:vs.length=B)(b:Eg S (dw vs C) (e (ea tb pr k)) v):Fg (ea tb pr (k+1)) f vs S v:=λT s m c P p=>by
 show(match tb f with
   |some q=>vs.length=q.1/\q.2.2 (ea tb pr k) (dw vs q.2.1) m λfl Z d=>P (eX fl) d
   |none=>pr f vs m P)
 exact Y h ⟨a,b T s m c _ p⟩
theorem sg{e:aG->M}(h:tb f=some (B,C,λfn=>ag (a5 (e fn)) av))(a:vs.length=B)(b:El S (dw vs C) (e (ea tb pr k)) ws):Fn (ea tb pr (k+1)) f vs S ws:=λT s m c P p=>by
 show(match tb f with
   |some q=>vs.length=q.1/\q.2.2 (ea tb pr k) (dw vs q.2.1) m λfl Z d=>P (eX fl) d
   |none=>pr f vs m P)
 exact Y h ⟨a,b T s m c _ p⟩
end
noncomputable def iV(n:Nat):V:= .int (n:Int)
noncomputable abbrev Nd:=Str×List Nat
noncomputable def aZ(p:Nd):V:= .tup<|.str p.1::p.2.map iV
set_option genInjectivity false
set_option genSizeOf false
set_option genSizeOfSpec false
inductive Ro where
 |hp|cL|un|nodes|fv|gM|gb|up|eZ|merged|gc|ho|known|above|waiting
 |aP (i:Nat)
 |ab (i:Nat)
structure G where
 T:Nat->V
 rp:Nat->Nat
 nd:List Nd
 nu:List (V×V)
 wd:List Int
 hq:List Int
 up:List Nat
 aP:List (List Nat)
 mg:List V
 ed:List V
 fo:List V
 kn:List (V×V)
 bu:List Nat
 ab:Nat->List Nat
 wt:List Nat
noncomputable def j7(a:Ro->Nat):List (Str×V):=[("bank",.ref<|a .cL),("unions",.ref<|a .un),("edges",.ref<|a .gc),("forest",.ref<|a .ho),("known",.ref<|a .known),("above",.ref<|a .above),("waiting",.ref<|a .waiting)]
noncomputable def nB(a:Ro->Nat):List (Str×V):=[("nodes",.ref<|a .nodes),("numbers",.ref<|a .fv),("weights",.ref<|a .gM),("depths",.ref<|a .gb)]
noncomputable def pv(a:Ro->Nat):List (Str×V):=[("above",.ref<|a .up),("lots",.ref<|a .eZ),("merged",.ref<|a .merged)]
open Classical in
noncomputable def dh(a:Ro->Nat)(g:G):Ro->Option aQ
 | .hp=>some<|.inst 415<|j7 a
 | .cL=>some<|.inst 203<|nB a
 | .un=>some<|.inst 285<|pv a
 | .nodes=>some<|.list<|g.nd.map aZ
 | .fv=>some<|.dict .t g.nu
 | .gM=>some<|.list<|g.wd.map .int
 | .gb=>some<|.list<|g.hq.map .int
 | .up=>some<|.list<|g.up.map iV
 | .eZ=>some<|.list<|(List.range g.aP.length).map λi=> .ref<|a<|.aP i
 | .merged=>some<|.list g.mg
 | .gc=>some<|.list g.ed
 | .ho=>some<|.list g.fo
 | .known=>some<|.dict .t g.kn
 | .above=>some<|.dict .i<|g.bu.map λc=>(iV c,.ref<|a<|.ab c)
 | .waiting=>some<|.list<|g.wt.map iV
 | .aP i=>g.aP[i]?.map λl=> .list<|l.map iV
 | .ab c=>if c∈g.bu then some (.list<|(g.ab c).map iV) else none
structure Rep(c S:TH)(a:Ro->Nat)(g:G):Prop where
 base:Sub c S
 get:∀r o,dh a g r=some o->S (a r)=some o
 new:∀r o,dh a g r=some o->c (a r)=none
 inj:∀r b o o',dh a g r=some o->dh a g b=some o'->a r=a b->r=b
noncomputable abbrev F(pr:aG)(k:Nat):aG:=ea bc pr k
section
variable{b S c:TH}{a:Ro->Nat}{g g':G}{l:au}{e:M}{r:Ro}{x:Nat}{o o':aQ}
theorem Rep.sup{T:TH}(R:Rep b S a g)(s:Sub S T):Rep b T a g:=⟨R.base.trans s,λr o h=>s _ _<|R.get r o h,R.new,R.inj⟩
theorem e0{y:Nat}(h:S x=none)(q:S y=some o):y≠x:=by rintro rfl;exact(a4<|h.symm.trans q)
theorem Rep.put(R:Rep b S a g)(r:Ro)(f:dh a g r=some o')(h:dh a g' r=some o)(hs:∀c p,dh a g' c=some p->c=r\/dh a g c=some p):Rep b (upd S (a r) o) a g':=by
 have j:∀c p,dh a g' c=some p->∃d,dh a g c=some d:=λc p q=>(hs c p q).elim (λe=>⟨_,e▸f⟩) λe=>⟨p,e⟩;refine⟨λi p q=>?_,λc p q=>?_,λc p q=>(j c p q).elim λd k=>R.new c d k,λl m p1 p2 n s e=>(j l p1 n).elim λd k=>(j m p2 s).elim λu t=>R.inj _ _ _ _ k t e⟩
 .rw[bC];exact R.base _ _ q;rintro rfl;exact(a4<|(R.new r _ f).symm.trans q)
 .rcases hs c p q with rfl|z
  .exact Y aJ<|h.symm.trans q
  .by_cases e:a c=a r
   .clear hs;obtain rfl:=R.inj _ _ _ _ z f e;exact Y aJ<|h.symm.trans q
   .exact Y (bC e)<|R.get _ _ z
noncomputable def mh(a:Ro->Nat)(r:Ro)(x:Nat):Ro->Nat:=λb=>open Classical in if b=r then x else a b
theorem mi:mh a r x r=x:=az rfl
theorem j8{b:Ro}(h:b≠r):mh a r x b=a b:=ay h
theorem Rep.put2(R:Rep b S a g)(q r:Ro)(s:S x=none){a':Ro->Nat}(C:a'=mh a r x)(D:q≠r)(l:dh a g q=some o'){o₂:aQ}(v:dh a' g' r=some o)(y:dh a' g' q=some o₂)(hs:∀c p,dh a' g' c=some p->c=r\/c=q\/dh a g c=some p):
  Rep b (upd (upd S x o) (a q) o₂) a' g':=by
 subst C;have nx:∀c p,dh a g c=some p->a c≠x:=λc p w=>e0 s<|R.get _ _ w;have old:∀c p,c≠r->dh (mh a r x) g' c=some p->∃f,dh a g c=some f/\(c≠q->f=p):=λc p n w=>(hs c p w).elim (λe=>absurd e n) λz=>z.elim (λe=>⟨o',e▸l,λn=>absurd e n⟩) λe=>⟨p,e,λZ=>rfl⟩;refine⟨λi p w=>?_,λc p w=>?_,λc p w=>?_,λt u p1 p2 A B e=>?_⟩
 .rw[bC,bC];exact R.base _ _ w
  .clear v y hs nx old;rintro rfl;exact(a4<|s.symm.trans<|R.base _ _ w)
  .rintro rfl;exact(a4<|(R.new q _ l).symm.trans w)
 .by_cases n:c=r
  .clear D;subst n;exact Y mi<|Y (bC<|cO<|nx q _ l)<|Y aJ<|v.symm.trans w
  .refine ak (old c p n w) λf d k=>?_;refine Y (j8 n) ?_;by_cases m:c=q
   .clear l k;subst m;exact Y aJ<|y.symm.trans w
   .exact Y (bC λe=>m<|R.inj _ _ _ _ d l e)<|Y (bC<|nx _ _ d)<|Y (k m).symm<|R.get _ _ d
 .by_cases n:c=r
  .clear w;subst n;exact Y mi<|h4.mpr λo w=>(a4<|s.symm.trans<|R.base _ _ w)
  .refine ak (old c p n w) λf d k=>?_;exact Y (j8 n)<|R.new _ _ d
 .by_cases h:t=r<;>by_cases j:u=r
  .exact Y h<|Y j rfl
  .refine ak (old u p2 j B) λf d Z=>?_;rw[h,mi,j8 j] at e;exact absurd e.symm<|nx _ _ d
  .refine ak (old t p1 h A) λf d Z=>?_;rw[j,mi,j8 h] at e;exact absurd e<|nx _ _ d
  .refine ak (old t p1 h A) λf d Z=>?_;refine ak (old u p2 j B) λF E Z=>?_;rw[j8 h,j8 j] at e;exact R.inj _ _ _ _ d E e
theorem Rep.loc(R:Rep b S a g){x:Nat}(c:S x=none):Rep (upd b x o) (upd S x o) a g:=by
 refine⟨λi p w=>?_,λr p w=>br c<|R.get r p w,λr p w=>?_,R.inj⟩
 .unfold upd at w⊢;split
  .rename_i e;rw[az e] at w;exact w
  .rename_i e;rw[ay e] at w;exact R.base _ _ w
 .rw[bC];exact R.new r p w;exact e0 c<|R.get r p w
theorem Rep.Ha(R:Rep b S a g)(x:List Nd):Rep b (upd S (a .nodes) (.list (x.map aZ))) a {g with nd:=x}:=R.put .nodes rfl rfl λr p h=>by cases r<;>first|exact .inl rfl|exact .inr h
theorem Rep.Hb(R:Rep b S a g)(x:List (V×V)):Rep b (upd S (a .fv) (.dict .t x)) a {g with nu:=x}:=R.put .fv rfl rfl λr p h=>by cases r<;>first|exact .inl rfl|exact .inr h
theorem Rep.Hc(R:Rep b S a g)(x:List Int):Rep b (upd S (a .gM) (.list (x.map .int))) a {g with wd:=x}:=R.put .gM rfl rfl λr p h=>by cases r<;>first|exact .inl rfl|exact .inr h
theorem Rep.He(R:Rep b S a g)(x:List Int):Rep b (upd S (a .gb) (.list (x.map .int))) a {g with hq:=x}:=R.put .gb rfl rfl λr p h=>by cases r<;>first|exact .inl rfl|exact .inr h
theorem Rep.w7(R:Rep b S a g)(x:List Nat):Rep b (upd S (a .up) (.list (x.map iV))) a {g with up:=x}:=R.put .up rfl rfl λr p h=>by cases r<;>first|exact .inl rfl|exact .inr h
theorem Rep.Hf(R:Rep b S a g)(x:List V):Rep b (upd S (a .merged) (.list x)) a {g with mg:=x}:=R.put .merged rfl rfl λr p h=>by cases r<;>first|exact .inl rfl|exact .inr h
theorem Rep.Hg(R:Rep b S a g)(x:List V):Rep b (upd S (a .gc) (.list x)) a {g with ed:=x}:=R.put .gc rfl rfl λr p h=>by cases r<;>first|exact .inl rfl|exact .inr h
theorem Rep.Hh(R:Rep b S a g)(x:List V):Rep b (upd S (a .ho) (.list x)) a {g with fo:=x}:=R.put .ho rfl rfl λr p h=>by cases r<;>first|exact .inl rfl|exact .inr h
theorem Rep.Hi(R:Rep b S a g)(x:List (V×V)):Rep b (upd S (a .known) (.dict .t x)) a {g with kn:=x}:=R.put .known rfl rfl λr p h=>by cases r<;>first|exact .inl rfl|exact .inr h
theorem Rep.w8(R:Rep b S a g)(x:List Nat):Rep b (upd S (a .waiting) (.list (x.map iV))) a {g with wt:=x}:=R.put .waiting rfl rfl λr p h=>by cases r<;>first|exact .inl rfl|exact .inr h
theorem Rep.ghost(R:Rep b S a g)(h:dh a g=dh a g'):Rep b S a g':=⟨R.base,h▸R.get,h▸R.new,h▸R.inj⟩
theorem lg(a:Ro->Nat):(j7 a).lookup ("bank":Str)=some (.ref (a .cL))/\(j7 a).lookup ("unions":Str)=some (.ref (a .un))/\(j7 a).lookup ("edges":Str)=some (.ref (a .gc))/\(j7 a).lookup ("forest":Str)=some (.ref (a .ho))/\(j7 a).lookup ("known":Str)=some (.ref (a .known))/\(j7 a).lookup ("above":Str)=some (.ref (a .above))/\(j7 a).lookup ("waiting":Str)=some (.ref (a .waiting)):=⟨by kernel_rfl,by kernel_rfl,by kernel_rfl,by kernel_rfl,by kernel_rfl,by kernel_rfl,by kernel_rfl⟩
theorem mj(a:Ro->Nat):(nB a).lookup ("nodes":Str)=some (.ref (a .nodes))/\(nB a).lookup ("numbers":Str)=some (.ref (a .fv))/\(nB a).lookup ("weights":Str)=some (.ref (a .gM))/\(nB a).lookup ("depths":Str)=some (.ref (a .gb)):=⟨by kernel_rfl,by kernel_rfl,by kernel_rfl,by kernel_rfl⟩
theorem si(a:Ro->Nat):(pv a).lookup ("above":Str)=some (.ref (a .up))/\(pv a).lookup ("lots":Str)=some (.ref (a .eZ))/\(pv a).lookup ("merged":Str)=some (.ref (a .merged)):=⟨by kernel_rfl,by kernel_rfl,by kernel_rfl⟩
section
variable(R:Rep b S a g)
include R
theorem Rep.w9(h:Eg S l e (.ref (a .hp))):Eg S l (aw e "bank") (.ref (a .cL)):= .attr h (R.get .hp _ rfl) (lg a).1
theorem Rep.lh(h:Eg S l e (.ref (a .hp))):Eg S l (aw e "unions") (.ref (a .un)):= .attr h (R.get .hp _ rfl) (lg a).2.1
theorem Rep.gc(h:Eg S l e (.ref (a .hp))):Eg S l (aw e "edges") (.ref (a .gc)):= .attr h (R.get .hp _ rfl) (lg a).2.2.1
theorem Rep.ho(h:Eg S l e (.ref (a .hp))):Eg S l (aw e "forest") (.ref (a .ho)):= .attr h (R.get .hp _ rfl) (lg a).2.2.2.1
theorem Rep.known(h:Eg S l e (.ref (a .hp))):Eg S l (aw e "known") (.ref (a .known)):= .attr h (R.get .hp _ rfl) (lg a).2.2.2.2.1
theorem Rep.above(h:Eg S l e (.ref (a .hp))):Eg S l (aw e "above") (.ref (a .above)):= .attr h (R.get .hp _ rfl) (lg a).2.2.2.2.2.1
theorem Rep.waiting(h:Eg S l e (.ref (a .hp))):Eg S l (aw e "waiting") (.ref (a .waiting)):= .attr h (R.get .hp _ rfl) (lg a).2.2.2.2.2.2
theorem Rep.nodes(h:Eg S l e (.ref (a .cL))):Eg S l (aw e "nodes") (.ref (a .nodes)):= .attr h (R.get .cL _ rfl) (mj a).1
theorem Rep.fv(h:Eg S l e (.ref (a .cL))):Eg S l (aw e "numbers") (.ref (a .fv)):= .attr h (R.get .cL _ rfl) (mj a).2.1
theorem Rep.gM(h:Eg S l e (.ref (a .cL))):Eg S l (aw e "weights") (.ref (a .gM)):= .attr h (R.get .cL _ rfl) (mj a).2.2.1
theorem Rep.gb(h:Eg S l e (.ref (a .cL))):Eg S l (aw e "depths") (.ref (a .gb)):= .attr h (R.get .cL _ rfl) (mj a).2.2.2
theorem Rep.up(h:Eg S l e (.ref (a .un))):Eg S l (aw e "above") (.ref (a .up)):= .attr h (R.get .un _ rfl) (si a).1
theorem Rep.eZ(h:Eg S l e (.ref (a .un))):Eg S l (aw e "lots") (.ref (a .eZ)):= .attr h (R.get .un _ rfl) (si a).2.1
theorem Rep.merged(h:Eg S l e (.ref (a .un))):Eg S l (aw e "merged") (.ref (a .merged)):= .attr h (R.get .un _ rfl) (si a).2.2
end
end
structure UI(up:List Nat)(rp:Nat->Nat):Prop where
 aL:up.length<=1000
 par:∀a,a<up.length->∃b,up[a]? =some b/\b<=a/\rp b=rp a/\(b=a->rp a=a)
 le:∀a,a<up.length->rp a<=a
 rr:∀a,a<up.length->rp (rp a)=rp a
noncomputable def bY(rp:Nat->Nat)(p:Nd):Nd:=(p.1,p.2.map rp)
section
variable{pr:aG}{k:Nat}{c S d:TH}{a:Ro->Nat}{g g':G}{l:au}{e:M}{r:Ro}{x n:Nat}{o o':aQ}{v:V}{p:Nd}
theorem nC{a b:Type}(f:a->b){l:List a}{i:Nat}{x:a}(h:l[i]? =some x):(l.map f)[i]? =some (f x):=by refine Y b9<|Y h ?_;rfl
theorem big(h:n<=1000):n<=1000000:=ah h af
theorem Rep.xa(R:Rep c S a g)(U:UI g.up g.rp)(h:Eg S l e (.ref (a .un))){i:M}{m b:Nat}(hi:Eg S l i (iV m))(d:g.up[m]? =some b):Eg S l (ax (aw e "above") i) (iV b):=.eY (R.up h) hi (R.get .up _ rfl) (nC iV d) (aV (f:=iV)▸big U.aL)
theorem xb{p:Prop}[Decidable p](t:(!decide p)=false):p:=by
 cases h:decide p with
 |true=>exact cf h
 |false=>rw[h] at t;exact e4 t
theorem px(R:Rep c S a g)(U:UI g.up g.rp)(hn:n<g.up.length):Fg (F pr (k+1)) 242 [.ref (a .un),iV n] S (iV (g.rp n)):=
 mf DI rfl λT s=>by
  have R:=R.sup s;have j:∀{m},Eg T [some<|.ref<|a .un,some<|iV m] (vr 0) (.ref<|a .un):= .vr rfl;have f:∀{m},Eg T [some<|.ref<|a .un,some<|iV m] (vr 1) (iV m):= .vr rfl;refine .then (.while (t:=n) (λm l d=>d=T/\m<g.up.length/\g.rp m=g.rp n/\l=[some<|.ref<|a .un,some<|iV m]) ⟨rfl,hn,rfl,rfl⟩ λm l d i=>?_);refine dK i λo hm e p=>?_;clear s;obtain rfl:=o;clear i;obtain rfl:=p;refine gx (U.par m hm) λb r h u v=>?_;have at_:=R.xa U j f r;refine⟨_,.pk at_ f,λt=> .asg at_<|.pass ⟨b,kC h λq=>?_,rfl,b0 h hm,u.trans e,rfl⟩,λt=> .dz f ⟨?_,.refl _⟩⟩
  .rw[q,bJ rfl] at t;exact b3 t
  .show iV m=iV (g.rp n);exact Y e.symm<|Y (v<|ih<|xb t) rfl
theorem Hj(R:Rep c S a g)(h:Eg S l e (.ref (a .hp))){n:Str}{es:Ms}{vs:List V}{f:Addr}{fn:aG}(hm:aY 285 n=some f)(hs:Es S l es vs)(hf:Fg fn f (.ref (a .un)::vs) S v):Eg S l (aX fn aY (aw e "unions") n es) v:= .bP (R.lh h) (R.get .un _ rfl) hm hs hf
theorem sj(R:Rep c S a g)(h:Eg S l e (.ref (a .hp))){n:Str}{es:Ms}{vs:List V}{f:Addr}{fn:aG}(hm:aY 203 n=some f)(hs:Es S l es vs)(hf:Fg fn f (.ref (a .cL)::vs) S v):Eg S l (aX fn aY (aw e "bank") n es) v:= .bP (R.w9 h) (R.get .cL _ rfl) hm hs hf
theorem hW(R:Rep c S a g)(h:Eg S l e (.ref (a .hp))){n:Str}{es:Ms}{vs:List V}{f:Addr}{fn:aG}(hm:aY 415 n=some f)(hs:Es S l es vs)(hf:Fg fn f (.ref (a .hp)::vs) S v):Eg S l (aX fn aY e n es) v:= .bP h (R.get .hp _ rfl) hm hs hf
theorem j9(R:Rep c S a g)(U:UI g.up g.rp)(hn:n<g.up.length):Fg (F pr (k+2)) 339 [.ref (a .hp),iV n] S (iV (g.rp n)):=hl D2 rfl<|Hj R (.vr rfl) (by kernel_rfl) (.one<|.vr rfl)<|px R U hn
structure pz(nd:List Nd)(nu:List (V×V))(wd hq:List Int):Prop where
 aL:nd.length<=1000
 fw:∀n(p:Nd),nd[n]? =some p->p.2.length<=2/\∀j∈p.2,j<n
 num:∀(p:Nd) v,aW nu (aZ p)=some v↔∃n,v=iV n/\nd[n]? =some p
 nl:nu.length=nd.length
 wl:wd.length=nd.length
 dl:hq.length=nd.length
noncomputable abbrev BI(g:G):Prop:=pz g.nd g.nu g.wd g.hq
theorem lj{p:Nd}(h:p.2.length<=2):(V.str p.1::p.2.map iV).length<=3:=Y fS<|Y (aV ..)<|cR h
theorem Hk(R:Rep c S a g)(B:BI g)(h:g.nd[n]? =some p):Fg (F pr (k+1)) 160 [.ref (a .cL),iV n] S (.str p.1):=hl Dw rfl<|.eu (.eY (R.nodes<|.vr rfl) (.vr rfl) (R.get .nodes _ rfl) (nC aZ h)<|aV (f:=aZ)▸big B.aL) (j:=0) .cst rfl<|ah (lj (B.fw n p h).1) af
theorem sk{p:Nd}(h:p.2.length<=2):1<=1/\1<=(V.str p.1::p.2.map iV).length/\(V.str p.1::p.2.map iV).length<=aF:=⟨aM _,cR<|a6 _,ah (lj h) af⟩
theorem Hl(R:Rep c S a g)(B:BI g)(h:g.nd[n]? =some p):Fg (F pr (k+1)) 167 [.ref (a .cL),iV n] S (.tup (p.2.map iV)):=hl Dy rfl<|.f9 (.eY (R.nodes<|.vr rfl) (.vr rfl) (R.get .nodes _ rfl) (nC aZ h)<|aV (f:=aZ)▸big B.aL)<|sk (B.fw n p h).1
theorem bM{a b:Type}{l:List a}{f:a->b}{n:Nat}(h:l.length<=n):(l.map f).length<=n:=(aV (as:=l) f).symm▸h
theorem dO:1<=aF:=by decide
theorem dA:2<=aF:=by decide
theorem nD{a b:Type}{l:List a}{f:a->b}(h:l.length<=2):(l.map f).length<=aF:=ah (bM h) af
theorem hr{v:V}{l:List Nat}(h:v∈l.map iV):∃j,j∈l/\v=iV j:=(bS.mp h).imp λj q=>⟨q.1,q.2.symm⟩
theorem xc{src:cK}{js:List Nat}{ks:List Nat}{G:TH->Prop}(R:Rep c S a g)(U:UI g.up g.rp)(hs:dg S l src (ks.map iV) G)(b:∀T,Sub S T->G T)(d:ks.length<=2)(f:∀j∈ks,j<g.up.length)(n:cH js 1 l=[some (.ref (a .hp)),none]):
  El S l (aS src js 1 (aj 1) aK<|aR<|aX (F pr<|k+2) aY (vr 0) "find"<|H (vr 1) aa) ((ks.map g.rp).map iV):=by
 have h:=El.map (g:=λv=>match v with| .int j=>iV (g.rp j.toNat)|v=>v) (i:=1) (js:=js) (e:=aX (F pr<|k+2) aY (vr 0) "find"<|H (vr 1) aa) hs b (nD d) λv m=>by refine ak (hr m) λj o p=>?_;clear m;obtain rfl:=p;exact Y n<|hW R (.vr rfl) (by kernel_rfl) (.one<|.vr rfl)<|j9 R U<|f j o
 rw[c3] at h⊢;exact h
theorem xd(R:Rep c S a g)(B:BI g)(U:UI g.up g.rp)(h:g.nd[n]? =some p)(d:∀j∈p.2,j<g.up.length):Fg (F pr (k+3)) 315 [.ref (a .hp),iV n] S (aZ (bY g.rp p)):=
 have b:=(B.fw n p h).1
 hl DU rfl (.ny (.tup (.one (sj R (.vr rfl) (by kernel_rfl) (.one (.vr rfl)) (Hk R B h))) dO)
  (.nz (xc R U (.tup<|sj R (.vr rfl) (by kernel_rfl) (.one<|.vr rfl)<|Hl R B h) (λZ Z=>trivial) b d rfl)<|nD<|bM b)
  (ah (bz (bM (bM b)) 1) af))
end
noncomputable def cX:List Str:=["a","b","c","f","g","leafx","leafy","own1","own2"]
noncomputable def aU:aG:=λf vs a P=>f=79/\(∃x,x∈cX/\vs=[.str x])/\∀u v,P (.bool true)<|a++[.list u]++[.list v]
theorem Hn:cX.all (λx=>match x.cps[0]? with|some c=>(⟨#[c]⟩:Str)!="?"&&decide (x.cps.size<=100)|none=>false)=true:=by decide+kernel
theorem Ho{x:Str}(h:x∈cX):∃c,x.cps[0]? =some c/\x.cps.size<=100/\(⟨#[c]⟩:Str)≠"?":=by
 have k:=e3.mp Hn x h;cases e:x.cps[0]? with
 |none=>rw[e] at k;exact b3 k
 |some c=>rw[e] at k;have k:=fe.mp k;exact⟨c,rfl,cf k.2,hG.mp k.1⟩
section
variable{k:Nat}{C S A:TH}{a:Ro->Nat}{g g':G}{l:au}{e:M}{r:Ro}{x n:Nat}{o o':aQ}{v:V}{p:Nd}{K:V->TH->Prop}{op:Str}
theorem Hp(h:op∈cX):Fg (F aU (k+1)) 79 [.str op] S (.bool true):=λT s b a P p=>by exact⟨rfl,⟨op,h,rfl⟩,λu v=>p _<|(a.new (o:= .list u)).weak a.cv|>λq=>(q.new (o:= .list v)).weak q.cv⟩
theorem Eg.so{x:Str}{e':M}{j:Nat}{c:Nat}(h:Eg S l e (.str x))(b:Eg S l e' (.int j))(a:x.cps[j]? =some c)(d:x.cps.size<=1000000):Eg S l (ax e e') (.str ⟨#[c]⟩):= .sub h b λf Z P p=> .inr<|.inl ⟨eR j,(gT.mp a).1,d,c,a,p⟩
theorem Hq(h:op∈cX):Fg (F aU (k+2)) 134 [v,.str op] S .none:=mf Du rfl λT s=>by refine bE (Ho h) λc b d ne=>?_;have a:Eg T (dw [v,.str op] 0) (vr 1) (.str op):= .vr rfl;refine .guard (.or (.not<|.call (.one a)<|Hp h) λZ=> .j5 (.so a (.cst (v:= .int (0:Nat))) b<|ah d af) .cst) (λt=>?_) λZ=> .pass ⟨rfl,.refl _⟩;rw[dd ne] at t;exact b3 t
theorem Sw.look{src:cK}{items:List V}{b:TH->Prop}{i:Nat}{q rest:aE}{Q:Fl->au->TH->Prop}(hs:dg S l src items b)(a:b S)(h:∀v,v∈items->Sw S (l.set i (some v)) q λf l' A=>match f with| .next=>A=S/\l'=l.set i (some v)| .ret v=>Q (.ret v) l' A)
  (c:Sw S l rest Q) (k:∀v,Sw S (l.set i<|some v) rest Q):Sw S l (ag (forM src (aj i) q) rest) Q:=
 .then (.for (λd l' A=>A=S/\(l'=l\/∃v,l'=l.set i (some v))/\∀v∈d,v∈items) hs ⟨rfl,.inl rfl,λZ=>id⟩ (λZ Z Z x=>x.1▸a) (λv d l' A x=>by
  clear a;obtain⟨rfl,x,m⟩:=x
  have e:l'.set i (some v)=l.set i (some v):=by
   clear hs h c k;rcases x with rfl|⟨v',rfl⟩
   .rfl
   .exact Y (List.set_set ..) rfl
  refine .dF<|e▸(h v<|m v<|.head _).mono λf l' A y=>?_;cases f with
  |next=>exact⟨y.1,.inr ⟨v,y.2⟩,λw g=>m w<|.tail _ g⟩
  |ret v=>exact y) λl' A x=>by
   clear a;obtain⟨rfl,x,_⟩:=x;clear hs h;rcases x with rfl|⟨v,rfl⟩
   .exact c
   .exact k v)
noncomputable def Num(S:TH)(v:V)(ks:List Nat):Prop:=v= .tup (ks.map iV)\/∃r,v= .ref r/\S r=some (.list<|ks.map iV)
theorem Num.sup{S T:TH}{ks:List Nat}(h:Num S v ks)(s:Sub S T):Num T v ks:=h.imp id λx=>x.imp λr y=>⟨y.1,s _ _ y.2⟩
theorem Num.tup{ks:List Nat}(h:Num S v ks)(c:ks.length<=2)(a:Eg S l e v):Eg S l (aC (aD .tuple) (H e aa)) (.tup (ks.map iV)):=by
 rcases h with rfl|⟨r,rfl,q⟩
 .exact .r7 a
 .exactλT s d f P k=>a T s d f _ λg b=> .inr ⟨_,b _ _<|s _ _ q,nD c,k g b⟩
theorem lk(p:Nd):bK .t (aZ p):= .t _ (.tup 6 _ λv h=>by
 rcases ba.mp h with rfl|h
 .exact .str _ _
 .refine ak (hr h) λj Z a=>?_;clear h;obtain rfl:=a;exact .int _ _)
theorem ka{p q:Nd}(h:aZ p=aZ q):p=q:=by obtain⟨a,b⟩:=p;obtain⟨c,d⟩:=q;refine jA (b5<|V.tup.inj h) λf g=>?_;clear h;obtain rfl:=V.str.inj f;exact ar _<|(List.map_inj_right λx y e=>ih<|V.int.inj e).mp g
noncomputable def G.add(g:G)(p:Nd)(w d:Int):G:={g with nd:=g.nd++[p],nu:=bD g.nu (aZ p)<|iV g.nd.length,wd:=g.wd++[w],hq:=g.hq++[d]}
theorem ints_map{f:Nat->Int}(ks:List Nat):ks.map (λj=>V.int (f j))=(ks.map f).map V.int:=by refine Y c3 ?_;rfl
theorem xe{src:cK}{c:Nat}{fs:List (Str×V)}{n:Str}{ks:List Nat}{a:TH->Prop}{ws:List Int}{r b:Nat}(d:S b=some (.inst c fs))(hf:fs.lookup n=some (.ref r))(f:S r=some (.list (ws.map .int)))(hs:dg S l src (ks.map iV) a)(k:∀T,Sub S T->a T)(o:ks.length<=2)(hz:ws.length<=1000)(p:∀j∈ks,j<ws.length)(q:cH [0] 1 l=[some (.ref b),none]):
  El S l (aS src [0] 1 (aj 1) aK<|aR<|ax (aw (vr 0) n)<|vr 1) ((ks.map λj=>ws.getD j 0).map .int):=by
 have h:=El.map (g:=λv=>match v with| .int j=>V.int (ws.getD j.toNat 0)|v=>v) (i:=1) (js:=[0]) (e:=ax (aw (vr 0) n)<|vr 1) hs k (nD o) λv m=>by refine ak (hr m) λj s t=>?_;clear m;obtain rfl:=t;refine Y q ?_;have u:=p j s;refine .eY (.attr (.vr rfl) d hf) (.vr rfl) f (nC V.int (x:=ws.getD j 0) ?_)<|bM<|big hz;refine Y eQ<|Y (cc u) ?_;rfl
 rw[c3] at h⊢;exact h
theorem Eg.Hr{is:List Int}(h:El S l e (is.map .int))(b:is.length<=aF):Eg S l (aC (aD .sum) (H e aa)) (.int is.sum):=λT s c d P k=>h T s c d _ λr f q a=>⟨_,a.at,is,rfl,bM b,k f<|a.weak q⟩
theorem Ex.Hs{is:List Int}(h:El S l e (is.map .int))(hn:is≠[])(k:∀m:Int,K (.int m) S):Ex S l (aC (aD .max) (H e aa)) K:=λb c P p=>h S (.refl S) b c _ λr d q a=>⟨_,a.at,is,rfl,hn,λm=>p _ _ d (k m)<|a.weak q⟩
theorem Ex.Ht{c:Int}(h:Ex S l e λv A=>∃m:Int,v= .int m/\K (.int (c+m)) A):Ex S l (a9 .Add (cst (.int c)) e) K:=λa b P p=>h a b _ λv A d q f=>by obtain⟨m,rfl,q⟩:=q;exact .inl<|p _ _ d q f
theorem Ex.nE{b:M}{vs:List V}{r:Nat}{a:M}(h:Eg S l a (.ref r))(g:S r=some (.list vs))(e:Ex S l b λv A=>A r=some (.list vs)/\K .none (upd A r (.list (vs++[v]))))(f:vs.length<=aF):Ex S l (bB (bG .append) (bH .append) a (H b aa)) K:=λi j P p=>h S (.refl S) i j _ λk c=>⟨⟨vs,c _ _ g,trivial⟩,e k c _ λv A m q d=>⟨vs,d _ _ q.1,f,p _ _ _ q.2<|d.put q.1⟩⟩
theorem lb{n:Nat}(h:n<=1000):n<=aF:=ah h af
noncomputable def Hu:aE:=aB (e8 (aw (vr 0) "numbers")<|vr 3)<|aC (aD .len)<|H (aw (vr 0) "nodes") aa
noncomputable def Hv:aE:=ag (cn (bB (bG .append) (bH .append) (aw (vr 0) "nodes") (H (vr 3) aa))) (ag (cn (bB (bG .append) (bH .append) (aw (vr 0) "weights") (H (a9 .Add (cst (.int 1)) (aC (aD .sum) (H (aS (aI (c4 (vr 3) 1)) [0] 1 (aj 1) aK (aR (ax (aw (vr 0) "weights") (vr 1)))) aa))) aa)))
 (ag (cn (bB (bG .append) (bH .append) (aw (vr 0) "depths") (H (a9 .Add (cst (.int 1)) (aC (aD .max) (H (a9 .Add (aS (aI (c4 (vr 3) 1)) [0] 1 (aj 1) aK (aR (ax (aw (vr 0) "depths") (vr 1)))) (cg (H (cst (.int 0)) aa))) aa))) aa))) (ag (a5 (a9 .Sub (aC (aD .len) (H (aw (vr 0) "nodes") aa)) (cst (.int 1)))) av)))
theorem xf(R:Rep C S a g)(B:BI g){ks:List Nat}(c:ks.length<=2)(h:∀j∈ks,j<g.nd.length){x y z:Option V}(i:∀A w d,Rep C A a (g.add (op,ks) w d)->K (iV g.nd.length) A):
  Sw S [some<|.ref<|a .cL,y,z,some<|aZ (op,ks),x] (ag Hu Hv) λfl Z A=>K (eX fl) A:=by
 have b:∀{T},Eg T [some<|.ref<|a .cL,y,z,some<|aZ (op,ks),x] (vr 0) (.ref<|a .cL):= .vr rfl;have f:∀{T},Eg T [some<|.ref<|a .cL,y,z,some<|aZ (op,ks),x] (vr 3) (aZ (op,ks)):= .vr rfl;have sl:∀{T},Eg T [some<|.ref<|a .cL,y,z,some<|aZ (op,ks),x] (c4 (vr 3) 1) (.tup<|ks.map iV):= .f9 f<|sk c;refine .gL<|(Eg.ec (R.nodes b) (R.get .nodes _ rfl)<|bM<|lb B.aL).x ⟨_,_,_,_,R.fv b,f,R.get .fv _ rfl,⟨lk _,B.nl▸lb B.aL⟩,?_⟩;refine Y (aV ..) ?_;have R:=R.Hb<|bD g.nu (aZ (op,ks))<|iV g.nd.length;refine .dp<|.append (R.nodes b) (R.get .nodes _ rfl) f (bM<|lb B.aL) ?_;have R:=R.Ha<|g.nd++[(op,ks)];rw[dT] at R;refine .dp<|.append (R.gM b) (R.get .gM _ rfl) (.l7 .cst<|.Hr (xe (R.get .cL _ rfl) (mj a).2.2.1 (R.get .gM _ rfl) (.tup sl) (λZ Z=>trivial) c (B.wl▸B.aL) (B.wl▸h) rfl)<|nD c) (bM<|lb<|B.wl▸B.aL) ?_;have R:=R.Hc<|g.wd++[1+(ks.map λj=>g.wd.getD j 0).sum];rw[dT] at R;refine .dp<|.nE (R.gb b) (R.get .gb _ rfl) (.Ht<|.Hs (is:=(ks.map λj=>g.hq.getD j 0)++[0]) ?_ (λe=>(eG<|(List.append_eq_nil_iff.mp e).2)) λm=>⟨m,rfl,R.get .gb _ rfl,?_⟩)<|bM<|lb<|B.dl▸B.aL
 .exact Y dT<|.add (xe (R.get .cL _ rfl) (mj a).2.2.2 (R.get .gb _ rfl) (.tup sl) (λZ Z=>trivial) c (B.dl▸B.aL) (B.dl▸h) rfl) (.lst (.one .cst) dO)<|ah (ef (bM<|bM c) 1) af
 have R:=R.He<|g.hq++[1+m];rw[dT] at R;refine .dz (.nv (.ec (R.nodes b) (R.get .nodes _ rfl)<|bM ?_) .cst) (?_:K _ _)
 .exact Y a0<|ah (cR B.aL) af
 .have e:(((g.nd++[(op,ks)]).map aZ).length:Int)-1=(g.nd.length:Int):=Y (aV ..) (Y a0<|Int.add_sub_cancel (g.nd.length:Int) 1);show K (.int _) _;exact Y e<|i _ _ _ R
theorem Eg.Hw{x y z:M}{i j m:Int}(b:Eg S l x (.int i))(c:Eg S l y (.int j))(hz:Eg S l z (.int m))(d:i<=j)(e:j<m):Eg S l (notM (oD x y z)) (.bool false):=λT s f g P p=>b T s f g _ λh k=>c T s h k _ λn o=>by show(bif decide (i<=j) then _ else _:Prop);refine Y (bJ d)<|hz T s n o _ λa q=>?_;show P (.bool !decide (j<m)) a;exact Y (bJ e)<|p a q
theorem Hx(R:Rep C S a g)(B:BI g){b:V}{ks:List Nat}(p:Num C b ks)(c:ks.length<=2)(e:∀j∈ks,j<g.nd.length)(q:op∈cX)(r:∀n:Nat,g.nd[n]? =some (op,ks)->K (iV n) S)
  (i:(∀n:Nat,g.nd[n]?≠some (op,ks))->∀A w d,Rep C A a (g.add (op,ks) w d)->K (iV g.nd.length) A):Fx (F aU<|k+3) 127 [.ref<|a .cL,.str op,b] S K:=by
 refine cT Ds rfl ?_;have s:=p.sup R.base;refine .asg (.ny (.tup (.one<|.vr rfl) dO) (s.tup c<|.vr rfl)<|ah (bz (bM c) 1) af) ?_;have f:∀{T x},Eg T [some<|.ref<|a .cL,some<|.str op,some b,some<|aZ (op,ks),x] (vr 0) (.ref<|a .cL):= .vr rfl;have h:∀{T x},Eg T [some<|.ref<|a .cL,some<|.str op,some b,some<|aZ (op,ks),x] (vr 3) (aZ (op,ks)):= .vr rfl;refine .guard (.G5 h (R.fv f) (R.get .fv _ rfl)<|lk _) (λt=>?_) λt=>?_
 .refine jE (Option.isSome_iff_exists.mp t) λv l=>?_;refine ak ((B.num _ _).mp l) λn u hn=>?_;obtain rfl:=u;exact .dz (.gL (R.fv f) h (R.get .fv _ rfl) (lk _) l)<|r n hn
 have o:∀n:Nat,g.nd[n]?≠some (op,ks):=λn hn=>by rw[(B.num (op,ks)<|iV n).mpr ⟨n,rfl,hn⟩] at t;exact e4 t
 refine .dp<|(Eg.bP f (R.get .cL _ rfl) (by kernel_rfl) (.one<|.vr rfl)<|Hq q).x ?_;have sl:∀{T x},Eg T [some<|.ref<|a .cL,some<|.str op,some b,some<|aZ (op,ks),x] (c4 (vr 3) 1) (.tup<|ks.map iV):= .f9 h<|sk c;refine .look (.tup sl) trivial (λv m=>?_) (xf R B c e<|i o) λv=>xf R B c e<|i o;refine ak (hr m) λj y z=>?_;clear m;obtain rfl:=z;exact .guard (.Hw .cst (.vr rfl) (Eg.ec (R.nodes<|.vr rfl) (R.get .nodes _ rfl)<|bM<|lb B.aL) (eR j)<|Y (aV ..)<|ij.mpr<|e j y) (λt=>(b3 t)) λZ=> .pass ⟨rfl,rfl⟩
end
section
variable{S:aN}{Γ:bl}{env:Env}{A:Around}{μ g G:Lay}{f J w K:ai}{s L N:Shared}{l l':au}{B D:M}{x y:Expr}{pos:Pos}
noncomputable def pA(x:Str):List V:=x.cps.toList.map λc=> .str ⟨#[c]⟩
theorem Hy{I:Addr}{x:Str}{t:Tok}{tup:Bool}(r:x.cps.all (· <128)=true):hc S tup ⟨[],I,λb=>b=I,pA x,λZ=>True,λi h=>h.IsStrIter I "str_ascii_iterator" x t i⟩:=
 oQ (n:="str_ascii_iterator") af af af (λi h j=>j.imp λo e=>⟨e.1,e.2.1⟩) (λi h p j k=>j.imp λo e=>⟨k _ e.1,e.2⟩) (λA E Q s i j h=>wpAny_pyIter_striter_ascii j h)
  (λA s g f i v Q hh u w a l=>by obtain⟨c,y,rfl⟩:=dY.mp<|b9.symm.trans u;have q:x.cps[i]? =some c:=(cE ..).symm.trans y;have lc:c<128:=cf<|Array.all_eq_true'.mp r c<|Array.mem_of_getElem? q;exact wpAny_pyNext_ascii_item a.j q λp z hs=>l _ p _ hs (.str _ _ (Array.all_eq_true'.mpr λd m=>Y (Array.mem_singleton.mp m) (bJ (ei lc af)))) z)
  λA s g f Q E hh w a l=>wpAny_pyNext_ascii_end hh a.j (kz<|bF (by show _=(pA x).length;rw[pA,aV,cZ])) l
noncomputable def xg(e:M):cK:=λl f k=>e l f λa b=>∃x,a= .str x/\x.cps.all (· <128)=true/\k (pA x) (λZ=>True) b
theorem Hz{e:Expr}{m:M}{tup:Bool}(h:ej S Γ env A e m):jR S Γ env A e tup (xg m):=λμ s l f k I hm=>b4 h I hm λg v d x s₁ b t r hm=>by obtain⟨y,rfl,a,hm⟩:=hm;refine VR.d5 r λi j=>?_;exact wpAny_pyIter_ascii a<|oR b.st t (Hy a) (λq c=>(bw c)) ⟨_,cy _ rfl,rfl,rfl⟩ hm
noncomputable def xh(f:ai)(v:V):Prop:=∃x,v= .str x
noncomputable def xi(f:ai)(a:V)(vs:List V)(P:V->ai->Prop):Prop:=vs=[]/\∃x,a= .str x/\P (.bool<|Txt.isspace x) f
theorem HA{o:Expr}{b:Pos}{c:M}(d:attributeBase o "isspace" env (eval o env)=eval o env)(e:(b.endLine==pos.line)=true)(g:bh S Γ env A o c):bh S Γ env A (.Call (.Attribute o "isspace" b) [] [] pos) (bB xh xi c aa):=
 kS (T:="str") (id:="str.isspace") (λ{μ f s a x} st r h=>by obtain⟨y,rfl⟩:=h;refine VR.d5 r λt Z=>?_;exact⟨typeIs_str _ _ _,F.slot_str_isspace,F.plainAttrs_str,F.type_str_isspace,nofun⟩)
  (λ{μ f s a x vs xs P} st r i h=>by obtain⟨rfl,y,rfl,p⟩:=h;obtain rfl:=i.nil_inv;refine VR.d5 r λt Z=>?_;exact da F.slot_str_isspace (typeIs_str _ _ _) F.entry_str_isspace (aq ⟨_,rfl,jO st (.refl _ _) p⟩) (F.args_str_isspace_1 _))
  d af e g qT
noncomputable def xj(x y:M):M:=λl f P=>x l f λa c=>y l c λb d=>∃u v,a= .str u/\b= .str v/\P (.bool<|Txt.contains v u) d
theorem HB(j:behindInMarks .In y=false)(k:bh S Γ env A x B)(m:bh S Γ env A y D):bh S Γ env A (.Compare x [.In] [y] pos) (xj B D) where
 ev μ s l f P I hm:=wpAny_Compare1 (b4 k.ev I hm λn a o q s₁ c d e hm=>b4 m.ev c hm λr b w z C g h i hm=>by obtain⟨u,v,rfl,rfl,p⟩:=hm;refine VR.d5 e λt Z=>?_;refine VR.d5 i λE Z=>?_;exact SB.contains (jO g.st (d.trans h) p)) j
 tr μ s l f P I hm:=wpAny_isTrue_Compare1 (b4 k.ev I hm λn a o q s₁ c d e hm=>b4 m.ev c hm λr b w z C g h i hm=>by obtain⟨u,v,rfl,rfl,p⟩:=hm;refine VR.d5 e λt Z=>?_;refine VR.d5 i λE Z=>?_;exact SB.contains (h9 (g8 g.st (d.trans h) p))) j
noncomputable def sq:Str:="()[]{},:"
noncomputable def pB:Scope:={kind:= .function,names:=[(".0",.local),("sign",.local)],isGenerator:=false,isCoroutine:=false,more:=[]}
noncomputable def HC:Scope:={kind:= .function,names:=[("text",.local)],isGenerator:=false,isCoroutine:=false,more:=[("fast",.str "text"),("fast",.str "sign")]}
noncomputable def xk:Expr:= .BoolOp .And [.Compare (.Name "text" ⟨19,11,19,15⟩) [.NotEq] [.Constant (.str "") 0 ⟨19,19,19,21⟩] ⟨19,11,19,21⟩,
 .Compare (.ListComp (.Name "sign" ⟨19,27,19,31⟩) [⟨.Name "sign" ⟨19,36,19,40⟩,.Name "text" ⟨19,44,19,48⟩,[.BoolOp .Or [.Call (.Attribute (.Name "sign" ⟨19,52,19,56⟩) "isspace" ⟨19,52,19,64⟩) [] [] ⟨19,52,19,66⟩,.Compare (.Name "sign" ⟨19,70,19,74⟩) [.In] [.Constant (.str sq) 0 ⟨19,78,19,88⟩] ⟨19,70,19,88⟩] ⟨19,52,19,88⟩],0⟩] pB ⟨19,26,19,89⟩) [.Eq] [.List [] ⟨19,93,19,95⟩] ⟨19,26,19,95⟩] ⟨19,11,19,95⟩
noncomputable def xm:FuncData:={name:="is_op",qualname:="is_op",params:={posonlyargs:=[],args:=[{arg:="text",annotation:=none,pos:=⟨18,10,18,14⟩}],vararg:=none,kwonlyargs:=[],kw_defaults:=[],kwarg:=none,defaults:=[]},body:= .stmts [.Return (some xk) ⟨19,4,19,95⟩],scope:=HC,globals:=3,closure:=[],defaults:= .none,kwdefaults:= .none,pyModule:= .str "alikeheap.terms" 266,code:= .ref 78,closureTuple:= .none}
theorem HD(P:Params):(hK P).lookup 79=some ⟨.type "function",none,.func xm, #[]⟩:=by kernel_rfl
noncomputable def ml:bl:=⟨["text"],[],[]⟩
noncomputable def pC:bl:=⟨["sign"],[],[]⟩
theorem HE(P:Params):pf ml ["text"] ["text"] [] (hK P) xm=true:=by kernel_rfl
noncomputable def HF:M:=aS (xg<|vr 0) [] 1 (aj 0) (c1 (orM (bB xh xi (vr 0) aa)<|xj (vr 0)<|Mine.cst<|.str sq) aK)<|aR<|vr 0
noncomputable def xn:M:=andM (aH .NotEq (vr 0)<|Mine.cst<|.str "")<|aH .Eq HF<|cg aa
theorem xo:iq ml pB pC []:= @cf _ (vM ml pB pC []) (by kernel_rfl)
theorem HG{n:Nat}(R:fV A n)(F:cG ml env):bh S ml env A xk xn:=by have b:A.units+60<cLine:=R.u af;have c:∀{p:Pos},bh S ml env A (.Name "text" p) (vr 0):=qo F rfl;refine uT (qS b rfl c<|qn (by decide+kernel))<|qS b rfl ?_<|uX qT;refine vq (Γc:=pC) (tup:=false) (st:=[0]) (ss:=[]) ⟨F,R.handled,xo,rfl,λZ Z=>a6 _,λZ=>rfl,nofun,Hz c.ev,vI,nofun,λcl C d=>?_⟩;have a:∀{p:Pos},bh S pC (compEnvC pB cl C env) A (.Name "sign" p) (vr 0):=qo d rfl;exact⟨q4 d rfl<|.inl<|kV F xo C (k:= .local) af,vi (uV (HA rfl rfl a)<|HB rfl a<|qn (by decide+kernel)).tr vh,vg rfl a.ev⟩
theorem xp{body:V->List V->ai->(List V->ai->Prop)->Prop}{acc:List V}{P:List V->ai->Prop}:∀{items:List V},(∀v∈items,∀P:List V->ai->Prop,P acc f->body v acc f P)->P acc f->jT body (λZ=>True) items acc f P
 |[],_,p=>⟨trivial,p⟩
 |v::r,h,p=>⟨trivial,h v (.head _) _<|xp (λu m=>h u<|.tail _ m) p⟩
theorem HH:cX.all (λx=>x !=""&&x.cps.all (· <128)&&x.cps.toList.all λc=> !Txt.isspace ⟨#[c]⟩&& !Txt.contains sq ⟨#[c]⟩)=true:=by decide+kernel
open Classical in
theorem HI{x:Str}{P:V->ai->Prop}(h:x∈cX)(k:∀u v,P (.bool true) (w++[.list u]++[.list v])):xn [some (.str x)] w P:=by
 have q:=e3.mp HH x h;rw[kG,kG] at q;obtain⟨⟨b,d⟩,e⟩:=q;have ne:V.str x≠.str "":=λz=>hG.mp b<|V.str.inj z;refine .inl<|.inl ⟨.str _ _,.str _ _,?_⟩;refine Y (dd ne) ⟨x,rfl,d,xp (λv m P p=>?_) ⟨a6 _,.inr<|.inr ⟨[],?_,[],?_,(λZ=>bw),(λZ=>bw),?_⟩⟩⟩
 .obtain⟨c,f,rfl⟩:=bS.mp m;have a:=e3.mp e c f;rw[kG,hE,hE] at a;refine⟨⟨_,rfl⟩,rfl,_,rfl,?_⟩;refine Y a.1 ⟨_,_,rfl,rfl,?_⟩;exact Y a.2 p
 .refine Y (fP (by rw[a0];exact eg _))<|Y (h5<|aM _)<|Y (iO ..) ?_;rfl
 .refine Y (h5<|aM _)<|Y (iO ..) ?_;rfl
 .exact Y (bJ rfl)<|k _ _
end
theorem HJ{w:World}{p:Program}{lo:List Str}{mg mb:Str->Option Value}{T:TopRead p lo mg mb (Hd.H1 w.params)}(n:Nat):hP (gK w p lo mg mb T) aU (n+1):=by
 intro f A a d g s vs xs P R st vr e b;obtain⟨rfl,⟨x,c,rfl⟩,k⟩:=e;obtain⟨X,h⟩:=wW (S:=gK w p lo mg mb T) (HD _) rfl (HE _) λv=>by kernel_rfl
 exact vC X a (λL=>vc (vd (HG (a.deeper _)<|X.env L).ev) vb) st vr rfl (HI c k) b
noncomputable def bN(S:TH)(l:au)(e:M)(D:List V->Prop):Prop:=∀T,Sub S T->∀a,Hd T a->∀P:V->ai->Prop,(∀vs r b,D vs->T r=none->Hd (upd T r<|.list vs) b->P (.ref r) b)->e l a P
noncomputable def eN(fn:aG)(f:Addr)(vs:List V)(S:TH)(D:List V->Prop):Prop:=∀T,Sub S T->∀a,Hd T a->∀P:V->ai->Prop,(∀ws r b,D ws->T r=none->Hd (upd T r<|.list ws) b->P (.ref r) b)->fn f vs a P
section
variable{k:Nat}{B S A:TH}{a:Ro->Nat}{g g':G}{l:au}{e e':M}{es:Ms}{r:Ro}{n:Nat}{o o':aQ}{v:V}{vs:List V}{D:List V->Prop}{K:V->TH->Prop}{i:Nat}
theorem El.p(h:El S l e vs):bN S l e (· =vs):=λT s a b P k=>h T s a b _ λr c q d=>k vs r c rfl q d
theorem bN.x(h:bN S l e D)(q:∀vs r,D vs->S r=none->K (.ref r) (upd S r (.list vs))):Ex S l e K:=λa b P k=>h S (.refl S) a b P λvs r c d g f=>k _ _ c (q vs r d g) f
theorem bN.mono{a:List V->Prop}(h:bN S l e D)(q:∀vs,D vs->a vs):bN S l e a:=λT s b c P k=>h T s b c P λvs r f d g i=>k vs r f (q vs d) g i
theorem bN.bP{c:Addr}{fs:List (Str×V)}{nm:Str}{f:Addr}{fn:aG}{j:Nat}(h:Eg S l e (.ref j))(g:S j=some (.inst c fs))(hm:aY c nm=some f)(hs:Es S l es vs)(hf:eN fn f (.ref j::vs) S D):bN S l (aX fn aY e nm es) D:=λT s b d P k=>h T s b d _ λi a=>⟨c,fs,a _ _<|s _ _ g,f,hm,hs T s i a _ λm n=>hf T s m n P k⟩
theorem nF{tb:i9}{pr:aG}{f:Addr}{b c:Nat}{e:aG->M}(h:tb f=some (b,c,λfn=>ag (a5 (e fn)) av))(d:vs.length=b)(g:bN S (dw vs c) (e (ea tb pr k)) D):eN (ea tb pr (k+1)) f vs S D:=λT s a i P p=>by
 show(match tb f with
   |some q=>vs.length=q.1/\q.2.2 (ea tb pr k) (dw vs q.2.1) a λfl Z j=>P (eX fl) j
   |none=>pr f vs a P)
 exact Y h ⟨d,g T s a i _ p⟩
theorem bN.map{js:List Nat}{f:V->V}(h:bN S l e D)(c:∀vs,D vs->vs.length<=aF)(j:∀vs,D vs->∀v,v∈vs->Eg S ((cH js 1 l).set i (some v)) e' (f v)):bN S l (aS (aI e) js 1 (aj i) aK (aR e')) λws=>∃vs,D vs/\ws=vs.map f:=λT s k n P q=>h T s k n _ λvs r o d g b=>
 .inr (.inl ⟨vs,b.at,la (f:=λv=>[f v]) (s.trans<|.new g) (λp a=>a.at) (λv m=> .name<|.elt<|j vs d v m) [] (pq<|(l9 f vs).symm▸c vs d) o b _ λp a=>q _ _ _ ⟨vs,d,(j6 f vs).symm⟩ (a.weak g).cv (a.weak g).new⟩)
theorem all_ints:∀(l:List V),(∀v∈l,∃i:Int,v= .int i)->∃is:List Int,l=is.map V.int
 |[],_=>⟨[],rfl⟩
 |v::l,h=>by refine jE (h v<|.head _) λi a=>?_;obtain rfl:=a;refine jE (all_ints l λw m=>h w<|.tail _ m) λis e=>?_;exact⟨i::is,ar _ e⟩
noncomputable def mm(vs:List V):Prop:=vs.length<=63/\((∀v∈vs,∃i:Int,v= .int i)\/(∀a∈vs,∀b∈vs,e6 30 a b)/\∃k,∀v∈vs,oq k v)
theorem mm.go{d:List V}(h:mm vs)(m:∀v∈d,v∈vs)(hd:d.length<=63){k:List V->Prop}(q:∀r:List V,r.Perm d->k r):ou d k:=by
 refine Or.elim h.2 (λh=>?_) λh=>?_
 .refine jE (all_ints d λv w=>h v<|m v w) λis c=>?_;clear m;obtain rfl:=c;exact .inl ⟨is,rfl,hD hd,λjs p Z=>q _<|p.map _⟩
 .exact .inr ⟨⟨hD hd,λa e b f=>h.1 a (m a e) b<|m b f,.inr<|.inr<|h.2.imp λk z v w=>z v<|m v w⟩,q⟩
theorem bN.sorted(h:Eg S l e (.ref n))(g:S n=some (.list vs))(hs:mm vs):bN S l (aC (aD .sorted) (H e aa)) λws=>ws.Perm vs:=λT s b c P k=>h T s b c _ λd a=> .inl ⟨vs,a _ _<|s _ _ g,hs.go (λZ=>id) hs.1 λr p=>k _ _ _ p a.cv a.new⟩
noncomputable def gN(vs ws:List V):Prop:=ws.Nodup/\∀v,v∈ws↔v∈vs
theorem gN.len{ws:List V}(h:gN vs ws):ws.length<=vs.length:=h.1.length_le_of_subset λv m=>(h.2 v).mp m
theorem bN.pD(h:bN S l e D)(hs:∀vs,D vs->mm vs/\∃kk,∀v∈vs,bK kk v):bN S l (dV hk e) λws=>∃vs,D vs/\gN vs ws:=λT s b c P k=>h T s b c _ λvs r f d g a=>
 have q:=hs vs d
 ⟨vs,a.at,q.2,gp q.1.1,λds nd m=>q.1.go (λv w=>(m v).mp w) (ah (nd.length_le_of_subset λv w=>(m v).mp w) q.1.1) λr p=>k _ _ _ ⟨vs,d,p.nodup_iff.mpr nd,λv=>p.mem_iff.trans<|m v⟩ (a.weak g).cv (a.weak g).new⟩
theorem Sw.sr{t:Mt}{q:aE}{Q:Fl->au->TH->Prop}(I:Nat->List V->List V->au->TH->Prop)(h:bN S l e D)(m:∀vs r,D vs->S r=none->I r vs vs l (upd S r (.list vs)))(n:∀r vs a l S,I r vs a l S->S r=some (.list vs))
  (step:∀r vs v a l S,I r vs (v::a) l S->Sw S l (Mine.dF t q v) λf l' A=>match f with| .next=>I r vs a l' A| .ret v=>Q (.ret v) l' A) (a7:∀r vs l S,I r vs [] l S->Q .next l S):Sw S l (forM (aI e) t q) Q:=
 λc b P k=>h S (.refl S) c b _ λvs r o d g j=> .inr<|.inl ⟨vs,j.at,mc (I r vs) (λa l S i c b=>b _ _<|n r vs a l S i) (step r vs) (a7 r vs) vs l _ (m vs r d g) o j P k⟩
noncomputable def ll(a:Ro->Nat)(i x:Nat):Ro->Nat
 | .aP j=>if j=i then x else a (.aP j)
 |r=>a r
theorem HK(i x:Nat):ll a i x=mh a (.aP i) x:=by
 funext r;by_cases h:r= .aP i
 .subst h;exact Y mi<|az rfl
 .refine Y (j8 h) ?_;cases r with
  |aP j=>exact ay λe=>h<|ar _ e
  |_=>rfl
noncomputable def G.make(g:G):G:={g with up:=g.up++[g.up.length],aP:=g.aP++[[g.up.length]]}
theorem HL(R:Rep B S a g)(d:g.up.length<=1000)(c:g.aP.length=g.up.length)(h:∀A x,Rep B A (ll a g.up.length x) g.make->K (iV g.up.length) A):Fx (F aU (k+1)) 228 [.ref (a .un)] S K:=by
 refine cT DD rfl ?_;have b:∀{T},Eg T [some<|.ref<|a .un] (vr 0) (.ref<|a .un):= .vr rfl;refine .dp<|.append (R.up b) (R.get .up _ rfl) (.ec (R.up b) (R.get .up _ rfl)<|bM<|lb d) (bM<|lb d) ?_;have R:=R.w7<|g.up++[g.up.length];rw[dT] at R;refine Y (aV ..) ?_;have f:(List.range g.aP.length).length<=1000:=cF.symm▸c▸d;refine .dp<|.nE (R.eZ b) (R.get .eZ _ rfl) ((El.lst (.one<|.ec (R.eZ b) (R.get .eZ _ rfl)<|bM<|lb f) dO).x λx j=>⟨br j<|R.get .eZ _ rfl,?_⟩)<|bM<|lb f;refine Y (aV ..)<|Y cF<|Y c ?_;have R:=R.put2 .eZ (.aP g.up.length) j (a':=ll a g.up.length x) (g':=g.make) (HK _ _) nofun rfl (o:= .list [iV g.up.length]) ?_ (o₂:= .list<|(List.range g.up.length).map (λi=>V.ref<|a<|.aP i)++[.ref x]) ?_ λm p w=>?_
 .have b:∀{T},Eg T [some<|.ref<|a .un] (vr 0) (.ref<|ll a g.up.length x .un):= .vr rfl;refine .dz (.nv (.ec (R.up b) (R.get .up _ rfl)<|bM ?_) .cst) ?_
  .show(g.up++[g.up.length]).length<=aF;exact Y a0<|ah (cR d) af
  .show K (.int _) _;have e:((g.make.up.map iV).length:Int)-1=(g.up.length:Int):=by refine Y (aV ..) ?_;show((g.up++[g.up.length]).length:Int)-1=_;exact Y a0<|Int.add_sub_cancel (g.up.length:Int) 1
   exact Y e<|h _ x R
 .show((g.aP++[[g.up.length]])[g.up.length]?).map _=_;refine Y c.symm<|Y (fq ..) ?_;rfl
 .show some (aQ.list<|(List.range (g.aP++[[g.up.length]]).length).map _)=_;refine Y a0<|Y c ?_;show some (aQ.list<|(List.range<|g.up.length+1).map _)=_;refine Y List.range_succ<|Y dT<|ar some<|ar aQ.list<|congr (ar _<|dZ λi hi=>?_)<|ar (λy=>[V.ref y])<|az rfl;exact ar V.ref<|ay<|bk<|cz.mp hi
 .cases m with
  |aP i=>
   by_cases hi:i=g.up.length
   .exact .inl<|ar _ hi
   .refine .inr (.inr<|w▸ar (Option.map λl:List Nat=>aQ.list<|l.map iV) (Eq.symm ?_));show(g.aP++[_])[i]? =g.aP[i]?;refine Or.elim (Nat.lt_or_gt_of_ne<|c▸hi) (λq=>?_) λq=>?_
    .exact fP q
    .exact Y (ez (by rw[a0];exact q))<|Y (ez<|c2 q) rfl
  |eZ=>exact .inr<|.inl rfl
  |_=>exact .inr<|.inr w
noncomputable def G.union(g:G)(c d:Nat):G:={g with rp:=λn=>if g.rp n=d then c else g.rp n,up:=g.up.set d c,aP:=g.aP.set c<|g.aP.getD c []++g.aP.getD d [],mg:=g.mg++[.tup [iV c,iV d]]}
theorem HM{x y:Nat}{js:List Int}(p:js.Perm [(x:Int),(y:Int)])(s:js.Pairwise (· <= ·)):∃c d:Nat,js=[(c:Int),(d:Int)]/\c<=d/\(c=x/\d=y\/c=y/\d=x):=by
 match js,p.length_eq with
 |[u,v],_=>
  have le:u<=v:=(List.pairwise_cons.mp s).1 v<|.head _;rcases ba.mp (p.mem_iff.mp (.head _:u∈[u,v])) with rfl|h
  .clear s;obtain rfl:=a3.mp (((List.perm_cons _).mp p).mem_iff.mp<|.head _);exact⟨x,y,rfl,fT.mp le,.inl ⟨rfl,rfl⟩⟩
  .obtain rfl:=a3.mp h;clear s;obtain rfl:=a3.mp<|((List.perm_cons _).mp<|p.trans<|.swap _ _ _).mem_iff.mp<|.head _;exact⟨y,x,rfl,fT.mp le,.inr ⟨rfl,rfl⟩⟩
theorem Ex.HN{x y:Nat}(h:El S l e [iV x,iV y])(k:∀c d,c<=d->(c=x/\d=y\/c=y/\d=x)->∀r,S r=none->K (.ref r) (upd S r (.list [iV c,iV d]))):Ex S l (aC (aD .sorted) (H e aa)) K:=λb f P p=>h S (.refl S) b f _ λr j g a=>
 .inl ⟨_,a.at,.inl ⟨[x,y],rfl,(by decide:2<64),λjs q s=>by refine b6 (HM q s) λc d i le h=>?_;clear q s;obtain rfl:=i;exact p _ _ _ (k c d le h _ (a.weak g).cv) ((a.weak g).new)⟩⟩
theorem pE{c:Nat}{w:List Nat}(h:g.aP[c]? =some w):dh a g (.aP c)=some (.list (w.map iV)):=by show(g.aP[c]?).map _=_;refine Y h ?_;rfl
theorem su(R:Rep B S a g)(b:Eg S l e (.ref (a .un))){c:Nat}(d:c<g.aP.length)(hz:g.aP.length<=1000){i:M}(hi:Eg S l i (iV c)):Eg S l (ax (aw e "lots") i) (.ref (a (.aP c))):=.eY (R.eZ b) hi (R.get .eZ _ rfl) (nC _<|h7 d) (aV (as:=List.range _) _▸cF.symm▸big hz)
theorem UI.both{up:List Nat}{rp:Nat->Nat}(U:UI up rp){x y c d:Nat}(a:x<up.length)(b:y<up.length)(h:c=rp x/\d=rp y\/c=rp y/\d=rp x):(c<up.length/\rp c=c)/\d<up.length/\rp d=d:=by
 have X:rp x<up.length/\rp (rp x)=rp x:=⟨b0 (U.le x a) a,U.rr x a⟩;have e:rp y<up.length/\rp (rp y)=rp y:=⟨b0 (U.le y b) b,U.rr y b⟩;rcases h with⟨rfl,rfl⟩|⟨rfl,rfl⟩
 .exact⟨X,e⟩
 .exact⟨e,X⟩
theorem HO(R:Rep B S a g)(U:UI g.up g.rp)(b:g.aP.length=g.up.length){x y:Nat}(z:x<g.up.length)(C:y<g.up.length)(hz:∀c:Nat,c<g.up.length->g.rp c=c->(g.aP.getD c []).length<=1000)(hm:g.mg.length<=1000)(D:g.rp x=g.rp y->K .none S)
  (E:∀c d,c<d->(c=g.rp x/\d=g.rp y\/c=g.rp y/\d=g.rp x)->∀A,Rep B A a (g.union c d)->K (.tup [iV c,iV d]) A):Fx (F aU<|k+2) 249 [.ref<|a .un,iV x,iV y] S K:=by
 refine cT DK rfl ?_;have f:∀{T x y u v},Eg T [some<|.ref<|a .un,x,y,u,v] (vr 0) (.ref<|a .un):= .vr rfl;refine .jZ<|.HN (.lst (.cons (.bP f (R.get .un _ rfl) (by kernel_rfl) (.one<|.vr rfl)<|px R U z)<|.one<|.bP f (R.get .un _ rfl) (by kernel_rfl) (.one<|.vr rfl)<|px R U C) dA) λc d le s r G=>⟨_,_,.inr ⟨r,rfl,aJ⟩,?_⟩;refine .weak ?_<|.new G;refine b1 (U.both z C s) λI ld rd=>?_;refine jA I λlc J=>?_;have j:∀{T},Eg T [some<|.ref<|a .un,some<|iV x,some<|iV y,some<|iV c,some<|iV d] (vr 3) (iV c):= .vr rfl;have m:∀{T},Eg T [some<|.ref<|a .un,some<|iV x,some<|iV y,some<|iV c,some<|iV d] (vr 4) (iV d):= .vr rfl;refine .guard (.fu j m) (λt=> .dz .cst<|D ?_) λt=>?_
 .have t:=ih (cf t);exact s.elim (λq=>q.1.symm.trans<|t.trans q.2) λq=>q.2.symm.trans<|t.symm.trans q.1
 have ne:c≠d:=λe=>(e4<|(bJ<|ar Int.ofNat e).symm.trans t);refine .eY<|j.x ⟨_,_,_,R.up f,m,R.get .up _ rfl,⟨aV (as:=g.up) iV▸ld,bM<|big U.aL⟩,?_⟩;have R:=R.w7<|g.up.set d c;rw[List.map_set] at R;have gl:∀{c},c<g.up.length->g.aP[c]? =some (g.aP.getD c []):=λh=>by refine Y eQ<|Y (cc<|b▸h) ?_;rfl
 refine .dp<|.extend (su R f (b▸lc) (b▸U.aL) j) (R.get (.aP c) _<|pE<|gl lc) (su R f (b▸ld) (b▸U.aL) m) (R.get (.aP d) _<|pE<|gl ld) (ah (c7 (bM<|hz c lc J)<|bM<|hz d ld rd) af) ?_;have R:=R.put (g':={g with up:=g.up.set d c,aP:=g.aP.set c (g.aP.getD c []++g.aP.getD d [])}) (.aP c) (pE<|gl lc) (o:= .list<|(g.aP.getD c []).map iV++(g.aP.getD d []).map iV) ?_ λr p w=>?_
 .refine .dp (.append (R.merged f) (R.get .merged _ rfl) (.tup (.cons j<|.one m) dA) (lb hm) ?_);exact .dz (.tup (.cons j<|.one m) dA)<|E c d (kC le ne) s _<|(R.Hf _).ghost rfl
 .show((g.aP.set c _)[c]?).map _=_;exact Y (gU<|b▸lc)<|ar (λl=>some<|aQ.list l) dT
 .cases r with
  |aP i=>
   by_cases hi:i=c
   .exact .inl<|ar _ hi
   .exact .inr<|w▸ar (Option.map λl:List Nat=>aQ.list<|l.map iV) (hB<|cO hi).symm
  |eZ=>exact .inr<|w▸ar (λn=>some<|aQ.list<|(List.range n).map λi=>V.ref<|a<|.aP i) gu.symm
  |_=>exact .inr w
structure kb(up:List Nat)(aP:List (List Nat))(rp:Nat->Nat):Prop where
 len:aP.length=up.length
 at_:∀c,c<up.length->rp c=c->(aP.getD c []).Nodup/\∀x,x∈aP.getD c []↔x<up.length/\rp x=c
noncomputable abbrev LI(g:G):Prop:=kb g.up g.aP g.rp
theorem gl{g:G}(h:g.aP.length=g.up.length){c:Nat}(q:c<g.up.length):g.aP[c]? =some (g.aP.getD c []):=by refine Y eQ<|Y (cc<|h▸q) ?_;rfl
theorem kb.small{g:G}(L:LI g){c:Nat}(h:c<g.up.length)(e:g.rp c=c):(g.aP.getD c []).length<=g.up.length:=ah ((L.at_ c h e).1.length_le_of_subset λx m=>cz.mpr (((L.at_ c h e).2 x).mp m).1) (bF cF)
theorem HP{l:List Nat}(h:l.length<=63):mm (l.map iV):=⟨bM h,.inl λv m=>by refine ak (hr m) λj Z a=>?_;clear m;obtain rfl:=a;exact⟨j,rfl⟩⟩
theorem HQ(R:Rep B S a g)(U:UI g.up g.rp)(L:LI g)(hz:g.up.length<=63)(hn:n<g.up.length):eN (F aU (k+2)) 256 [.ref (a .un),iV n] S λws=>ws.Perm ((g.aP.getD (g.rp n) []).map iV):=
 have b:=b0 (U.le n hn) hn
 nF DM rfl (.sorted (su R (.vr rfl) (L.len▸b) (L.len▸U.aL)<|.bP (.vr rfl) (R.get .un _ rfl) (by kernel_rfl) (.one<|.vr rfl)<|px R U hn) (R.get (.aP _) _<|pE<|gl L.len b)<|HP<|ah (L.small b<|U.rr n hn) hz)
end
section
variable{k:Nat}{A S s:TH}{a:Ro->Nat}{g g':G}{l:au}{e e':M}{es:Ms}{r:Ro}{n:Nat}{o o':aQ}{v:V}{vs:List V}{D:List V->Prop}{K:V->TH->Prop}{i:Nat}
noncomputable def gO(a:Ro->Nat)(i x:Nat):Ro->Nat
 | .ab j=>if j=i then x else a (.ab j)
 |r=>a r
theorem xq(i x:Nat):gO a i x=mh a (.ab i) x:=by
 funext r;by_cases h:r= .ab i
 .subst h;exact Y mi<|az rfl
 .refine Y (j8 h) ?_;cases r with
  |ab j=>exact ay λe=>h<|ar _ e
  |_=>rfl
noncomputable def en(f:Nat->V)(c:Nat):V×V:=(iV c,f c)
theorem e1{x y:Nat}(h:iV x=iV y):x=y:=ih<|V.int.inj h
open Classical in
theorem sv(f:Nat->V){c:Nat}:∀{l:List Nat},c∈l->aW (l.map (en f)) (iV c)=some (f c)
 |d::l,h=>by
  show(if iV d=iV c then some (f d) else aW (l.map<|en f) (iV c))=_;split
  .rename_i q;exact Y (e1 q) rfl
  .rename_i q;exact sv f<|(ba.mp h).resolve_left λe=>q<|ar iV e.symm
open Classical in
theorem xr(f:Nat->V)(c:Nat):∀(l:List Nat),iU (l.map (en f)) (iV c)=(l.erase c).map (en f)
 |[]=>rfl
 |d::l=>by
  show(if iV d=iV c then l.map (en f) else en f d::iU (l.map<|en f) (iV c))=_;refine Y List.erase_cons ?_;split
  .rename_i q;exact Y (az<|gY.mpr<|e1 q) rfl
  .rename_i q;refine Y (ay λz=>q<|ar iV<|gY.mp z)<|Y (xr f c l) ?_;rfl
open Classical in
theorem xt{f f':Nat->V}{c:Nat}{v:V}(a:f' c=v)(h:∀i,i≠c->f' i=f i):∀{l:List Nat},l.Nodup->c∈l->bD (l.map (en f)) (iV c) v=l.map (en f')
 |d::l,nd,m=>by
  subst a;have nd:=gX.mp nd;show(if iV d=iV c then(iV c,f' c)::l.map (en f) else en f d::bD (l.map<|en f) (iV c) (f' c))=en f' d::l.map (en f');split
  .rename_i q;clear m;obtain rfl:=e1 q;exact ar _<|dZ λi hi=>ar (Prod.mk<|iV i) (h i λe=>nd.1<|e▸hi).symm
  .rename_i q;have hd:d≠c:=λe=>q<|ar iV e;exact Y (xt rfl h nd.2<|(ba.mp m).resolve_left<|cO hd) (ar (· ::_)<|ar (Prod.mk<|iV d) (h d hd).symm)
open Classical in
theorem xu{f f':Nat->V}{c:Nat}{v:V}(a:f' c=v)(h:∀i,i≠c->f' i=f i):∀{l:List Nat},c∉l->bD (l.map (en f)) (iV c) v=(l++[c]).map (en f')
 |[],_=>a▸rfl
 |d::l,m=>by subst a;have hd:d≠c:=λe=>m<|e▸.head _;show(if iV d=iV c then(iV c,f' c)::l.map (en f) else en f d::bD (l.map<|en f) (iV c) (f' c))=en f' d::(l++[c]).map (en f');exact Y (ay λq=>hd<|e1 q) (Y (xu rfl h λq=>m<|.tail _ q) (ar (· ::_)<|ar (Prod.mk<|iV d) (h d hd).symm))
theorem kc{c:Nat}(h:c∈g.bu):dh a g (.ab c)=some (.list ((g.ab c).map iV)):=az h
open Classical in
theorem lp{c:Nat}{p:aQ}(h:dh a g (.ab c)=some p):c∈g.bu/\p= .list ((g.ab c).map iV):=by
 by_cases q:c∈g.bu
 .exact⟨q,aT<|h.symm.trans<|az q⟩
 .exact(iP<|h.symm.trans<|ay q)
theorem sx(R:Rep A S a g){c:Nat}(b:c∈g.bu)(h:Eg S l e (.ref (a .hp))){i:M}(hi:Eg S l i (iV c)):Eg S l (ax (aw e "above") i) (.ref (a (.ab c))):= .gL (R.above h) hi (R.get .above _ rfl) (.i _)<|sv (λc=> .ref<|a<|.ab c) b
theorem pF(n:Nat):bK .i (iV n):= .i _
open Classical in
theorem Eg.xv{b:Bool}(h:Eg S l e v)(a:decide (v= .none)=b):Eg S l (aH .Is e (Mine.cst .none)) (.bool b):= .cmp h .cst λc Z P p=> .inl ⟨rfl,a▸p⟩
open Classical in
theorem Eg.isNone(h:Eg S l e .none):Eg S l (aH .Is e (Mine.cst .none)) (.bool true):= .xv h<|bJ rfl
open Classical in
theorem Eg.HR(h:Eg S l e (.tup vs)):Eg S l (aH .Is e (Mine.cst .none)) (.bool false):= .xv h<|dd nofun
theorem Ex.HS{b:M}{r:Nat}{ws:List V}(h:Eg S l e (.ref r))(c:Ex S l b λv s=>∃j us,v= .ref j/\s r=some (.list ws)/\s j=some (.list us)/\ws.length+us.length<=aF/\∀z,s z=none->K (.ref z) (upd s z (.list (ws++us)))):Ex S l (a9 .Add e b) K:=λd f P p=>h S (.refl S) d f _ λg i=>c g i _ λv s n q a=>by obtain⟨j,us,rfl,k,g2,m,q⟩:=q;exact .inr<|.inr<|.inr ⟨ws,a _ _ k,us,a _ _ g2,m,p _ _ _ (q _ a.cv) a.new⟩
noncomputable def G.tail(g:G)(c d:Nat):G:={g with fo:=g.fo++[.int<|(g.ed.length:Int)-1],wt:=g.wt++g.ab d,bu:=g.bu.erase d,ab:=λi=>if i=c then g.ab c++g.ab d else g.ab i}
noncomputable def G.join(g:G)(c d:Nat)(e:V):G:=({g with ed:=g.ed++[e]}.union c d).tail c d
structure sy(g:G):Prop where
 aP:∀c,c<g.up.length->g.rp c=c->(g.aP.getD c []).length<=1000
 mg:g.mg.length<=1000
 ed:g.ed.length<=1000000
 fo:g.fo.length<=1000
 wt:g.wt.length<=1000000
 bu:g.bu.length<=1000
 ab:∀c∈g.bu,(g.ab c).length<=10000
 kn:g.kn.length<=1000000
noncomputable def HT:aE:=ag (cn (bB (bG .append) (bH .append) (aw (vr 0) "forest") (H (a9 .Sub (aC (aD .len) (H (aw (vr 0) "edges") aa)) (cst (.int 1))) aa))) (ag (cn (bB (bG .extend) (bH .extend) (aw (vr 0) "waiting") (H (ax (aw (vr 0) "above") (vr 6)) aa)))
 (ag (aB (e8 (aw (vr 0) "above") (vr 5)) (a9 .Add (ax (aw (vr 0) "above") (vr 5)) (bB (bG .gH) (bH .gH) (aw (vr 0) "above") (H (vr 6) aa)))) (ag (a5 (cst (.bool true))) av)))
theorem HU(R:Rep A S a g)(y:g.ed.length<=aF)(B:g.fo.length<=aF)(C:g.wt.length<=1000000)(t:g.bu.length<=aF)(n:∀c∈g.bu,(g.ab c).length<=10000)(nd:g.bu.Nodup){c d:Nat}(D:c<d)(e:c∈g.bu)(md:d∈g.bu){s1 s2 j k:Option V}(h:∀s z,Rep A s (gO a c z) (g.tail c d)->K (.bool true) s):
  Sw S [some<|.ref<|a .hp,s1,s2,j,k,some<|iV c,some<|iV d] HT λfl Z s=>K (eX fl) s:=by
 have b:∀{T},Eg T [some<|.ref<|a .hp,s1,s2,j,k,some<|iV c,some<|iV d] (vr 0) (.ref<|a .hp):= .vr rfl;have u:∀{T},Eg T [some<|.ref<|a .hp,s1,s2,j,k,some<|iV c,some<|iV d] (vr 5) (iV c):= .vr rfl;have v:∀{T},Eg T [some<|.ref<|a .hp,s1,s2,j,k,some<|iV c,some<|iV d] (vr 6) (iV d):= .vr rfl;refine .dp<|.append (R.ho b) (R.get .ho _ rfl) (.nv (.ec (R.gc b) (R.get .gc _ rfl) y) .cst) B ?_;have R:=R.Hh<|g.fo++[.int<|(g.ed.length:Int)-1];refine .dp<|.extend (R.waiting b) (R.get .waiting _ rfl) (sx R md b v) (R.get (.ab d) _<|kc md) (ah (c7 (bM C)<|bM<|n d md) af) ?_;have R:=R.w8<|g.wt++g.ab d;rw[dT] at R;have E:a (.ab c)≠a .above:=λq=>nomatch R.inj _ _ _ _ (kc e) rfl q;have sd:a (.ab d)≠a .above:=λq=>nomatch R.inj _ _ _ _ (kc md) rfl q;refine .gL<|.HS (sx R e b u)<|.gH (R.above b) (R.get .above _ rfl) v (pF d) (bM t) (sv (λc=> .ref<|a<|.ab c) md) ⟨_,_,rfl,(bC E).trans<|R.get (.ab c) _<|kc e,(bC sd).trans<|R.get (.ab d) _<|kc md,ah (c7 (bM<|n c e)<|bM<|n d md) af,λz hz=>?_⟩;have x:c∈g.bu.erase d:=(List.mem_erase_of_ne<|bk D).mpr e
 have R:=R.put (g':={g with fo:=g.fo++[.int<|(g.ed.length:Int)-1],wt:=g.wt++g.ab d,bu:=g.bu.erase d}) .above rfl (o:= .dict .i<|iU (g.bu.map<|en λc=> .ref<|a<|.ab c)<|iV d) (xr (λc=> .ref<|a<|.ab c) d g.bu▸rfl) λr p w=>by
  cases r with
  |above=>exact .inl rfl
  |ab i=>exact .inr<|(lp w).2▸kc (List.mem_of_mem_erase (lp w).1)
  |_=>exact .inr w
 refine⟨_,_,_,_,R.sup (.new hz)|>.above b,u,br hz<|R.get .above _ rfl,⟨pF c,ah (bM List.length_erase_le) t⟩,?_⟩;refine .dz .cst<|h _ z ?_;refine R.put2 .above (.ab c) hz (xq c z) nofun rfl (az x|>.trans (ar (λl=>some<|aQ.list l)<|(ar (List.map iV)<|az rfl).trans dT)) ?_ λr p w=>?_
 .exact ar (λl=>some<|aQ.dict .i l) (xt (f:=λc=> .ref<|a<|.ab c) (f':=λi=> .ref<|gO a c z<|.ab i) (ar V.ref<|az rfl) (λi hi=>ar V.ref<|ay hi) (nd.erase d) x).symm
 .cases r with
  |above=>exact .inr<|.inl rfl
  |ab i=>
   by_cases hi:i=c
   .exact .inl<|ar _ hi
   .refine jA (lp w) λm F=>?_;clear w;obtain rfl:=F;exact .inr<|.inr<|(az m).trans<|ar (λl:List Nat=>some<|aQ.list<|l.map iV) (ay hi).symm
  |_=>exact .inr<|.inr w
theorem xw(R:Rep A S a g)(U:UI g.up g.rp)(n:g.aP.length=g.up.length)(b:sy g)(nd:g.bu.Nodup)(f:∀c,c<g.up.length->g.rp c=c->c∈g.bu){x y:Nat}(h:x<g.up.length)(i:y<g.up.length){e:V}(o:g.rp x=g.rp y->∀s,Rep A s a {g with ed:=g.ed++[.tup [iV x,iV y,e]]}->K (.bool false) s)
  (p:∀c d,c<d->(c=g.rp x/\d=g.rp y\/c=g.rp y/\d=g.rp x)->∀s z,Rep A s (gO a c z) (g.join c d<|.tup [iV x,iV y,e])->K (.bool true) s):Fx (F aU<|k+3) 360 [.ref<|a .hp,iV x,iV y,e] S K:=by
 refine cT D8 rfl ?_;have j:∀{T u v w},Eg T [some<|.ref<|a .hp,some<|iV x,some<|iV y,some e,u,v,w] (vr 0) (.ref<|a .hp):= .vr rfl;refine .dp<|.append (R.gc j) (R.get .gc _ rfl) (.tup (.cons (.vr rfl)<|.cons (.vr rfl)<|.one<|.vr rfl) (by decide:3<=aF)) (ah b.ed af) ?_;have R:=R.Hg<|g.ed++[.tup [iV x,iV y,e]];refine .b8<|.bP (R.lh j) (R.get .un _ rfl) (by kernel_rfl)<|Es.x (.cons (.vr rfl)<|.one<|.vr rfl)<|HO R U n h i b.aP b.mg (λq=>?_) λc d le l s R=>?_
 .exact .guard (.isNone<|.vr rfl) (λZ=> .dz .cst<|o q _ R) λt=>(e4 t)
 .refine .guard (.HR (vs:=[iV c,iV d])<|.vr rfl) (λt=>(b3 t)) λZ=>?_;refine .jZ<|(Eg.vr rfl).x ⟨_,_,.inl rfl,?_⟩;refine jA (U.both h i l) λm hd=>?_;have r:(g.ed++[V.tup [iV x,iV y,e]]).length<=aF:=Y a0<|ah (cR b.ed) af;exact HU R r (ah b.fo af) b.wt (ah b.bu af) b.ab nd le (f c m.1 m.2) (f d hd.1 hd.2)<|p c d le l
end
noncomputable abbrev bg:=Str->List Nat->Nat
noncomputable def ev(I:bg)(v:V):Nat:=V.rec (motive_1:=λZ=>Nat) (motive_2:=λZ=>List Nat) 0 (λZ=>0) (λZ=>0) (λZ=>0) (λl q=>match l with| .str op::_=>I op q.tail|_=>0) (λZ=>0) (λZ Z Z=>0) [] (λZ Z a q=>a::q) v
theorem fJ(I:bg)(op:Str)(ks:List V):ev I (.tup (.str op::ks))=I op (ks.map (ev I)):=by
 refine ar (I op) ?_;induction ks with
 |nil=>rfl
 |cons v l a=>exact ar _ a
open Classical in
theorem ke(l:List (V×V))(k v a:V):aW (bD l k v) a=if a=k then some v else aW l a:=by
 induction l with
 |nil=>
  show(if k=a then some v else none)=_;by_cases h:a=k
  .exact Y (az h)<|Y (az h.symm) rfl
  .refine Y (ay h)<|Y (ay<|cO h) ?_;rfl
 |cons e r b=>
  show aW (if e.1=k then(k,v)::r else e::bD r k v) a=if a=k then some v else if e.1=a then some e.2 else aW r a;by_cases h:e.1=k
  .refine Y (az h) ?_;show(if k=a then some v else aW r a)=_;by_cases q:a=k
   .exact Y (az q)<|Y (az q.symm) rfl
   .exact Y (ay q)<|Y (ay<|cO q)<|Y (ay λz=>q<|z.symm.trans h) rfl
  .refine Y (ay h) ?_;show(if e.1=a then some e.2 else aW (bD r k v) a)=_;refine Y b ?_;by_cases q:a=k
   .exact Y (az q)<|Y (ay λz=>h<|z.trans q)<|Y (az q) rfl
   .exact Y (ay q)<|Y (ay q) rfl
theorem HV(l:List (V×V))(k v:V):aW (bD l k v) k=some v:=(ke l k v k).trans<|az rfl
theorem HW(l:List (V×V))(v:V){k a:V}(h:a≠k):aW (bD l k v) a=aW l a:=(ke l k v a).trans<|ay h
theorem pG{b:Type}{p q:b->Bool}:∀{l:List b},(∀x∈l,p x=true->q x=true)->(∃x∈l,q x=true/\p x=false)->l.countP p<l.countP q:=by
 intro l;induction l with
 |nil=>exactλZ h=>h.elim λx m=>bw m.1
 |cons y l d=>
  intro h g;refine bE g λx m c hp=>?_;have le:l.countP p<=l.countP q:=List.countP_mono_left λz a=>h z<|.tail _ a;refine Y List.countP_cons<|Y List.countP_cons ?_;rcases ba.mp m with rfl|m
  .exact Y (az c)<|Y hp<|hD le
  .have lt:=d (λz a=>h z<|.tail _ a) ⟨x,m,c,hp⟩;cases e:p y with
   |true=>exact Y (h y (.head _) e)<|Nat.succ_lt_succ lt
   |false=>exact bt lt<|cp _ _
noncomputable def gf(g:G):Nat:=(List.range g.nd.length).countP λx=>decide<|g.rp x=x
structure EI(a:bg->Prop)(UE:List V)(cnt:Nat)(b:List Nat)(g:G):Prop where
 B:BI g
 len:g.up.length=g.nd.length
 U:UI g.up g.rp
 L:LI g
 tm:∀n(p:Nd),g.nd[n]? =some p->g.T n= .tup (.str p.1::p.2.map g.T)/\p.1∈cX
 cY:∀n,n<g.nd.length->g.T n∈UE
 inj:∀n m,n<g.nd.length->m<g.nd.length->g.T n=g.T m->n=m
 out:∀n,g.nd.length<=n->g.rp n=n
 snd:∀I,a I->∀n,ev I (g.T<|g.rp n)=ev I (g.T n)
 kn:∀(p:Nd) v,aW g.kn (aZ p)=some v->(∀j∈p.2,j<g.nd.length)/\∃(m:Nat)(q:Nd),v=iV m/\g.nd[m]? =some q/\(∀I,a I->ev I (g.T m)=I p.1 (p.2.map λj=>ev I<|g.T j))/\((∀j∈p.2,g.rp j=j)->bY g.rp q=p)
 d9:∀n(p:Nd),g.nd[n]? =some p->n∉g.wt->n∉b->∃m,aW g.kn (aZ<|bY g.rp p)=some (iV m)/\g.rp m=g.rp n
 wt:∀n∈g.wt,n<g.nd.length
 dG:g.bu.Nodup
 bu:∀c,c∈g.bu↔c<g.nd.length/\g.rp c=c
 use:∀n(p:Nd) j,g.nd[n]? =some p->j∈p.2->n∈g.ab (g.rp j)
 gP:∀c∈g.bu,(∀n∈g.ab c,n<g.nd.length)/\(g.ab c).length<=g.nd.length*(g.aP.getD c []).length
 sz:g.kn.length+g.wt.length+b.length+4000*gf g<=4001*g.nd.length
 sm:g.mg.length+gf g<=g.nd.length
 sf:g.fo.length+gf g<=g.nd.length
 se:g.ed.length+gf g<=g.nd.length+cnt
section
variable{a:bg->Prop}{UE:List V}{cnt:Nat}{f:List Nat}{g:G}{n m c d:Nat}{p:Nd}{e:V}
theorem dW(h:g.nd[n]? =some p):n<g.nd.length:=(cN.mp h).1
theorem EI.small(E:EI a UE cnt f g)(b:UE.length<=63):g.nd.length<=63:=by
 have h:((List.range g.nd.length).map g.T).length<=UE.length:=List.Nodup.length_le_of_subset (List.pairwise_map.mpr<|List.nodup_range.imp_of_mem λc d ne e=>ne<|E.inj _ _ (cz.mp c) (cz.mp d) e) λv m=>by refine ak (bS.mp m) λn hn i=>?_;clear m;obtain rfl:=i;exact E.cY n<|cz.mp hn
 rw[aV,cF] at h;exact ah h b
theorem EI.done(E:EI a UE cnt [n] g)(h:∀p:Nd,g.nd[n]? =some p->n∈g.wt\/∃m,aW g.kn (aZ (bY g.rp p))=some (iV m)/\g.rp m=g.rp n):EI a UE cnt [] g:=
 {E with
  d9:=λx p b c Z=>by
   by_cases q:x=n
   .clear E;subst q;exact(h p b).resolve_left c
   .exact E.d9 x p b c λz=>q<|a3.mp z
  sz:=ah (ef (bz (a6 _) _) _) E.sz}
theorem EI.xx(E:EI a UE cnt [n] g)(hn:g.nd[n]? =some p)(k:aW g.kn (aZ (bY g.rp p))=none):EI a UE cnt [] {g with kn:=bD g.kn (aZ (bY g.rp p)) (iV n)}:=
 {E with
  kn:=λq v h=>by
   rw[ke] at h;split at h
   .rename_i e;obtain rfl:=aT h;obtain rfl:=ka e;refine⟨λj d=>?_,n,p,rfl,hn,λI l=>?_,λZ=>rfl⟩
    .refine ak (bS.mp d) λi hi o=>?_;clear d;obtain rfl:=o;have f:=ei ((E.B.fw n p hn).2 i hi)<|dW hn;exact b0 (E.U.le i<|E.len.symm▸f) f
    refine Y (E.tm n p hn).1<|Y (fJ ..)<|Y c3 ?_;show _=I p.1 ((p.2.map g.rp).map _);exact Y c3<|ar (I p.1)<|dZ λj Z=>(E.snd I l j).symm
   .exact E.kn q v h
  d9:=λx q b c Z=>by
   by_cases e:aZ (bY g.rp q)=aZ (bY g.rp p)
   .by_cases z:x=n
    .exact⟨n,e▸HV _ _ _,z▸rfl⟩
    .refine ak (E.d9 x q b c λw=>z<|a3.mp w) λm hm Z=>?_;rw[e,k] at hm;exact a4 hm
   .refine ak (E.d9 x q b c λw=>e (by clear E c;obtain rfl:=a3.mp w;exact Y (aT<|hn.symm.trans b) rfl)) λm hm r=>?_;exact⟨m,(HW _ _ e).trans hm,r⟩
  sz:=ah (ef (ah (ef (qQ g.kn _ _) _) (bF (d0 _ 1 _))) _) E.sz}
theorem EI.pop(E:EI a UE cnt [] g){w:List Nat}(h:g.wt=w++[n]):EI a UE cnt [n] {g with wt:=w}:=
 {E with
  d9:=λx q b c hp=>E.d9 x q b (by refine Y h ?_;intro z;exact(cD.mp z).elim c hp) nofun
  wt:=λx b=>E.wt x<|h▸dJ _ b
  sz:=by have z:=E.sz;rw[h,a0] at z;exact z}
noncomputable def cY(rp:Nat->Nat)(c d:Nat):Nat->Nat:=λn=>if rp n=d then c else rp n
theorem eO{rp:Nat->Nat}(h:rp n=d):cY rp c d n=c:=az h
theorem dX{rp:Nat->Nat}(h:rp n≠d):cY rp c d n=rp n:=ay h
theorem sA{rp:Nat->Nat}{x y:Nat}(h:rp x=rp y):cY rp c d x=cY rp c d y:=by unfold cY;exact Y h rfl
theorem sC{rp:Nat->Nat}(h:∀j∈p.2,rp j≠d):bY (cY rp c d) p=bY rp p:=ar (Prod.mk p.1)<|dZ λj m=>dX<|h j m
theorem UI.cY{up:List Nat}{rp:Nat->Nat}(U:UI up rp)(f:c<d)(hd:d<up.length)(g:rp c=c)(rd:rp d=d):UI (up.set d c) (cY rp c d) where
 aL:=gu.symm▸U.aL
 par x a:=by
  rw[gu] at a;refine gx (U.par x a) λb i j k h=>?_;by_cases q:d=x
  .clear a i j k h;subst q;exact⟨c,gU hd,c2 f,(dX<|g.symm▸bk f).trans<|g.trans (eO rd).symm,λe=>absurd e<|bk f⟩
  .exact⟨b,(hB q).trans i,j,sA k,λe=>(dX (by exact Y (h e)<|cO q)).trans<|h e⟩
 le x a:=by
  rw[gu] at a;by_cases q:rp x=d
  .exact Y (eO q)<|ah (c2 f)<|q▸U.le x a
  .exact Y (dX q)<|U.le x a
 rr x a:=by
  rw[gu] at a;by_cases q:rp x=d
  .exact Y (eO q)<|Y (dX<|g.symm▸bk f)<|Y g rfl
  .exact Y (dX q)<|Y (dX (by rw[U.rr x a];exact q))<|Y (U.rr x a) rfl
theorem xy{aP:List (List Nat)}{w:List Nat}(h:c<aP.length):(aP.set c w).getD c []=w:=by refine Y eQ<|Y (gU h) ?_;rfl
theorem xA{aP:List (List Nat)}{w:List Nat}{i:Nat}(h:i≠c):(aP.set c w).getD i []=aP.getD i []:=Y eQ<|Y eQ<|Y (hB<|cO h) rfl
theorem kb.cY{up:List Nat}{aP:List (List Nat)}{rp:Nat->Nat}(L:kb up aP rp)(b:c<d)(hd:d<up.length)(k:rp c=c)(rd:rp d=d):kb (up.set d c) (aP.set c (aP.getD c []++aP.getD d [])) (Mine.cY rp c d) where
 len:=Y gu<|Y gu<|Y L.len rfl
 at_ i hi r:=by
  rw[gu] at hi⊢;have f:=ei b hd;by_cases q:i=c
  .clear r;subst q;refine Y (xy<|L.len▸f)<|jA (L.at_ i f k) λl g=>?_;refine jA (L.at_ d hd rd) λm j=>?_;refine⟨List.nodup_append.mpr ⟨l,m,λx n y o e=>bk b<|((g x).mp n).2.symm.trans<|(ar rp e).trans ((j y).mp o).2⟩,λx=>?_⟩;refine Y (propext cD)<|Y (propext<|g ..)<|Y (propext<|j ..) ?_;by_cases z:rp x=d
   .exact Y (eO z) ⟨λh=>⟨h.elim (·.1) (·.1),rfl⟩,λh=> .inr ⟨h.1,z⟩⟩
   .exact Y (dX z) ⟨λh=>h.elim id λh=>absurd h.2 z,.inl⟩
  .refine Y (xA q) ?_
   have a:rp i=i/\i≠d:=by
    by_cases z:rp i=d
    .rw[eO z] at r;exact absurd r.symm q
    .rw[dX z] at r;exact⟨r,r▸z⟩
   refine⟨(L.at_ i hi a.1).1,λx=>((L.at_ i hi a.1).2 x).trans ?_⟩;by_cases z:rp x=d
   .exact Y (eO z)<|Y z ⟨λh=>absurd h.2.symm a.2,λh=>absurd h.2.symm q⟩
   .rw[dX z]
theorem EI.join(E:EI a UE cnt f g)(t:UE.length<=63)(b:c<d)(hd:d<g.nd.length)(l:g.rp c=c)(rd:g.rp d=d)(hs:∀I,a I->ev I (g.T c)=ev I (g.T d)):EI a UE cnt f (g.join c d e):=
 have p:=E.len.symm▸hd;have u:=ei b hd;have ne:g.rp c≠d:=l.symm▸bk b;have md:d∈g.bu:=(E.bu d).mpr ⟨hd,rd⟩;have y:c∈g.bu:=(E.bu c).mpr ⟨u,l⟩
 have c5:gf (g.join c d e)<gf g:=pG (λx Z h=>by
  have h:Mine.cY g.rp c d x=x:=cf h;refine bJ ?_;by_cases z:g.rp x=d
  .rw[eO z] at h;exact h▸l
  .rw[dX z] at h;exact h) ⟨d,cz.mpr hd,bJ rd,dd λh=>bk b ((eO rd).symm.trans h)⟩
 have aL:(g.ab d).length<=4000:=ah (E.gP d md).2<|ah (Nat.mul_le_mul (E.small t)<|ah (E.L.small p rd)<|E.len.symm▸E.small t) af
 {E with
  len:=gu.trans E.len
  U:=E.U.cY b p l rd
  L:=E.L.cY b p l rd
  out:=λn h=>(dX λz=>cJ.mpr h<|(E.out n h).symm.trans z▸hd).trans<|E.out n h
  snd:=λI r n=>by
   show ev I (g.T<|Mine.cY g.rp c d n)=ev I (g.T n);by_cases z:g.rp n=d
   .exact Y (eO z)<|Y (hs I r)<|Y z.symm<|E.snd I r n
   .exact Y (dX z)<|E.snd I r n
  kn:=λq v h=>by
   refine jA (E.kn q v h) λD F=>?_;refine dE F λm A G hm J K=>?_;refine⟨D,m,A,G,hm,J,λs=>?_⟩
   have B:∀j∈q.2,g.rp j=j/\j≠d:=λj o=>by
    have h:Mine.cY g.rp c d j=j:=s j o;by_cases z:g.rp j=d
    .rw[eO z] at h;exact absurd (h.symm▸z) ne
    .rw[dX z] at h;exact⟨h,h▸z⟩
   have e:=K λj o=>(B j o).1;exact(sC λj o z=>(B _<|e▸(gm o:g.rp j∈(bY g.rp A).2)).2 z).trans e
  d9:=λn q hn C hp=>by have M:=λz=>C<|dJ _ z;have k:∀j∈q.2,g.rp j≠d:=λj m z=>C<|dS _<|z▸E.use n q j hn m;refine ak (E.d9 n q hn M hp) λm hm s=>?_;exact⟨m,sC k▸hm,sA s⟩
  wt:=λn h=>(cD.mp h).elim (E.wt n)<|(E.gP d md).1 n
  dG:=E.dG.erase d
  bu:=λi=>by
   show i∈g.bu.erase d↔i<g.nd.length/\Mine.cY g.rp c d i=i;refine Y (propext E.dG.mem_erase_iff)<|Y (propext<|E.bu ..) ?_;by_cases z:g.rp i=d
   .exact Y (eO z) ⟨λh=>absurd (h.2.2.symm.trans z) h.1,λh=>absurd (h.2▸z) ne⟩
   .exact Y (dX z) ⟨λh=>h.2,λh=>⟨λw=>z<|h.2.trans w,h⟩⟩
  use:=λn q j hn m=>by
   have h:=E.use n q j hn m;show n∈if Mine.cY g.rp c d j=c then g.ab c++g.ab d else g.ab (Mine.cY g.rp c d j);by_cases z:g.rp j=d
   .exact Y (eO z)<|Y (az rfl)<|dS _<|z▸h
   .refine Y (dX z) ?_;by_cases w:g.rp j=c
    .exact Y (az w)<|dJ _<|w▸h
    .exact Y (ay w) h
  gP:=λi hi=>by
   have hi:=List.mem_of_mem_erase hi;show(∀n∈(if i=c then g.ab c++g.ab d else g.ab i),_)/\(if i=c then g.ab c++g.ab d else g.ab i).length<=g.nd.length*((g.aP.set c<|g.aP.getD c []++g.aP.getD d []).getD i []).length;by_cases w:i=c
   .exact Y (az w)<|Y w<|Y (xy<|E.L.len.symm▸E.len.symm▸u)<|Y a0<|Y a0<|Y (Nat.mul_add ..) ⟨λn h=>(cD.mp h).elim ((E.gP c y).1 n)<|(E.gP d md).1 n,c7 (E.gP c y).2 (E.gP d md).2⟩
   .exact Y (ay w)<|Y (xA w)<|E.gP i hi
  sz:=by have h:=E.sz;show g.kn.length+(g.wt++g.ab d).length+f.length+4000*gf (g.join c d e)<=4001*g.nd.length;refine Y a0 ?_;lia
  sm:=by show(g.mg++[_]).length+_<=_;exact Y a0<|ah (dD _ 1 _▸bz ((d3 1 _).symm▸c5) _) E.sm
  sf:=by show(g.fo++[_]).length+_<=_;exact Y a0<|ah (dD _ 1 _▸bz ((d3 1 _).symm▸c5) _) E.sf
  se:=by show(g.ed++[_]).length+_<=_;exact Y a0 (ah (dD _ 1 _▸bz ((d3 1 _).symm▸c5) _) E.se)}
end
section
variable{f:bg->Prop}{UE:List V}{cnt:Nat}{s:List Nat}{k:Nat}{o S b:TH}{a a':Ro->Nat}{g g' A:G}{l:au}{e e':M}{n m c d:Nat}{p:Nd}{v:V}{K:V->TH->Prop}
theorem EI.aL(E:EI f UE cnt s g)(a:UE.length<=63)(b:cnt<=900000):sy g:=
 have sm:=E.small a;have le:∀{x},x+gf g<=g.nd.length->x<=1000:=λh=>ah (ah (cp _ _) h)<|ah sm af;have z:g.kn.length+g.wt.length<=1000000:=ah (ah (ah (cp _ _)<|cp _ _) E.sz)<|ah (eA 4001 sm) af;have lt:∀c,c<g.up.length->g.rp c=c->(g.aP.getD c []).length<=63:=λc h r=>ah (E.L.small h r)<|E.len.symm▸sm
 ⟨λc h r=>ah (lt c h r) af,le E.sm,ah (ah (cp _ _) E.se) (ah (c7 sm b) af),le E.sf,ah (Nat.le_add_left _ _) z,
  ah (E.dG.length_le_of_subset λc h=>cz.mpr ((E.bu c).mp h).1) (cF▸ah sm af),
  λc h=>ah (E.gP c h).2 (ah (Nat.mul_le_mul sm (lt c (E.len.symm▸((E.bu c).mp h).1) ((E.bu c).mp h).2)) af),ah (cp _ _) z⟩
structure Le(g g':G):Prop where
 nd:∀(n:Nat)(p:Nd),g.nd[n]? =some p->g'.nd[n]? =some p
 T:∀n,n<g.nd.length->g'.T n=g.T n
 rp:∀x y,x<g.nd.length->y<g.nd.length->g.rp x=g.rp y->g'.rp x=g'.rp y
noncomputable def mu(g:G):Nat:=g.wt.length+4000*gf g
theorem xB(R:Rep o S a g)(E:EI f UE cnt s g)(r:sy g)(hn:g.nd[n]? =some p)(i:∀m,aW g.kn (aZ (bY g.rp p))=some (iV m)->g.rp m=g.rp n->K .none S)
  (l:aW g.kn (aZ<|bY g.rp p)=none->∀b,Rep o b a {g with kn:=bD g.kn (aZ<|bY g.rp p) (iV n)}->K .none b)
  (y:∀m,aW g.kn (aZ<|bY g.rp p)=some (iV m)->∀c d,c<d->(c=g.rp m/\d=g.rp n\/c=g.rp n/\d=g.rp m)->∀b z e,Rep o b (gO a c z) (g.join c d e)->K .none b):Fx (F aU<|k+4) 332 [.ref<|a .hp,iV n] S K:=by
 refine cT D0 rfl ?_;have A:∀j∈p.2,j<g.up.length:=λj m=>E.len.symm▸ei ((E.B.fw n p hn).2 j m) (dW hn);have ln:n<g.up.length:=E.len.symm▸dW hn;refine .b8<|.eJ (R.known<|.vr rfl) (R.get .known _ rfl) (hW R (.vr rfl) (by kernel_rfl) (.one<|.vr rfl)<|xd R E.B E.U hn A) (.vr rfl) (lk _) (ah r.kn af) (λu h=>?_) λh=>?_
 .refine jA (E.kn _ u h) λZ v=>?_;refine b6 v λm q C hm Z=>?_;clear v;obtain rfl:=C;have w:m<g.up.length:=E.len.symm▸dW hm;refine .ma (.pk (hW R (.vr rfl) (by kernel_rfl) (.one<|.vr rfl)<|j9 R E.U w)<|hW R (.vr rfl) (by kernel_rfl) (.one<|.vr rfl)<|j9 R E.U ln) (λt=> .assoc<|.dp<|.bP (.vr rfl) (R.get .hp _ rfl) (by kernel_rfl)<|Es.x (.cons (.vr rfl)<|.cons (.vr rfl)<|.one<|.tup (.one .cst) dO)<|xw R E.U E.L.len r E.dG (λc i l=>(E.bu c).mpr ⟨E.len▸i,l⟩) w ln (λq=>?_) λc d le D b z R=> .pass<|y m h c d le D b z _ R) λt=> .pass<|i m h<|ih<|xb t;rw[q,bJ rfl] at t;exact b3 t
 .have R:=R.Hi (bD g.kn (aZ<|bY g.rp p)<|iV n);refine .guard (.pk (hW R (.vr rfl) (by kernel_rfl) (.one<|.vr rfl)<|j9 R E.U ln)<|hW R (.vr rfl) (by kernel_rfl) (.one<|.vr rfl)<|j9 R E.U ln) (λt=>?_) λt=> .pass<|l h _ R;rw[bJ rfl] at t;exact b3 t
theorem Le.refl(g:G):Le g g:=⟨λZ Z h=>h,λZ Z=>rfl,λZ Z Z Z h=>h⟩
theorem ee(h:Le g g'):g.nd.length<=g'.nd.length:=eS λq=>by have e:=cc q;exact absurd (dW<|h.nd _ _ e)<|eh _
theorem Le.trans{a:G}(x:Le g g')(y:Le g' a):Le g a:=⟨λn p h=>y.nd n p<|x.nd n p h,λn h=>(y.T n<|bt h<|ee x).trans<|x.T n h,λu v b c h=>y.rp u v (bt b<|ee x) (bt c<|ee x)<|x.rp u v b c h⟩
theorem Le.join(g:G)(c d:Nat)(e:V):Le g (g.join c d e):=⟨λZ Z h=>h,λZ Z=>rfl,λZ Z Z Z h=>sA h⟩
theorem EI.HX(E:EI f UE cnt s g)(a:UE.length<=63)(hd:d<g.nd.length)(rd:g.rp d=d):(g.ab d).length<=4000:=ah (E.gP d<|(E.bu d).mpr ⟨hd,rd⟩).2 (ah (Nat.mul_le_mul (E.small a)<|ah (E.L.small (E.len.symm▸hd) rd)<|E.len.symm▸E.small a) af)
theorem HY{e:V}(a:c<d)(hd:d<g.nd.length)(b:g.rp c=c)(rd:g.rp d=d):gf (g.join c d e)<gf g:=pG (λx Z h=>by
  have h:Mine.cY g.rp c d x=x:=cf h;refine bJ ?_;by_cases z:g.rp x=d
  .rw[eO z] at h;exact h▸b
  .rw[dX z] at h;exact h) ⟨d,cz.mpr hd,bJ rd,dd λh=>bk a ((eO rd).symm.trans h)⟩
theorem EI.HZ{e:V}(E:EI f UE cnt s g)(a:UE.length<=63)(b:c<d)(hd:d<g.nd.length)(h:g.rp c=c)(rd:g.rp d=d):mu (g.join c d e)<=mu g:=by show(g.wt++g.ab d).length+4000*gf (g.join c d e)<=g.wt.length+4000*gf g;refine Y a0<|Y (dD ..)<|bz (ah (ef (E.HX a hd rd) _) ?_) _;exact Y (d3 ..)<|Y (Nat.mul_succ ..).symm<|eA _<|HY b hd h rd
theorem EI.pH{e:V}(E:EI f UE cnt [n] g)(s:UE.length<=63)(hn:g.nd[n]? =some p)(hm:aW g.kn (aZ (bY g.rp p))=some (iV m))(b:c<d)(h:c=g.rp m/\d=g.rp n\/c=g.rp n/\d=g.rp m):
  d<g.nd.length/\g.rp c=c/\g.rp d=d/\EI f UE cnt [] (g.join c d e):=by
 refine jA (E.kn _ _ hm) λZ t=>?_;refine dE t λC q u v x D=>?_;obtain rfl:=e1 u;refine b1 (E.U.both (E.len.symm▸dW v) (E.len.symm▸dW hn) h) λr ld rd=>?_;refine jA r λlc k=>?_;have hd:=E.len▸ld
 have eq:∀I,f I->ev I (g.T m)=ev I (g.T n):=λI a=>by refine Y (x I a)<|Y (E.tm n p hn).1<|Y (fJ ..) ?_;show I p.1 ((p.2.map g.rp).map _)=_;exact Y c3<|Y c3<|ar (I p.1)<|dZ λj Z=>E.snd I a j
 have J:=E.join (e:=e) s b hd k rd λI a=>by
  clear b r ld rd lc k hd;rcases h with⟨rfl,rfl⟩|⟨rfl,rfl⟩
  .rw[E.snd I a,E.snd I a,eq I a]
  .rw[E.snd I a,E.snd I a,eq I a]
 refine⟨hd,k,rd,J.done λF y=>?_⟩;obtain rfl:=aT<|hn.symm.trans y;by_cases z:∃j,j∈p.2/\g.rp j=d
 .refine ak z λj l z=>?_;exact .inl<|dS _<|z▸E.use n p j hn l
 .refine .inr ⟨m,sC (λj l w=>z ⟨j,l,w⟩)▸hm,?_⟩;have ne:g.rp c≠d:=k.symm▸bk b;show Mine.cY g.rp c d m=Mine.cY g.rp c d n;refine Or.elim h (λA=>jA A λi o=>?_) λB=>jA B λi o=>?_
  .exact Y (eO o.symm)<|Y (dX λw=>bk b<|i.trans w)<|Y i rfl
  .exact Y (eO o.symm)<|Y (dX λw=>bk b<|i.trans w)<|Y i rfl
theorem H0(R:Rep o S a g)(E:EI f UE cnt [n] g)(i:UE.length<=63)(r:cnt<=900000)(hn:n<g.nd.length)(h:∀b a' g',a' .hp=a .hp->Rep o b a' g'->EI f UE cnt [] g'->Le g g'->g'.nd=g.nd->mu g'<=mu g->K .none b):Fx (F aU (k+4)) 332 [.ref (a .hp),iV n] S K:=by
 obtain⟨p,hp⟩:∃p,g.nd[n]? =some p:=⟨_,cc hn⟩;have s:∀q:Nd,g.nd[n]? =some q->p=q:=λq j=>aT<|hp.symm.trans j
 exact xB R E (E.aL i r) hp (λm hm t=>h S a g rfl R (E.done λq j=> .inr ⟨m,s q j▸hm,t⟩) (.refl g) rfl<|aM _) (λu b R=>h b a _ rfl R (E.xx hp u) ⟨λZ Z h=>h,λZ Z=>rfl,λZ Z Z Z h=>h⟩ rfl<|aM _)
  λm hm c d l q b z e R=>by refine dK (E.pH (e:=e) i hp hm l q) λhd v rd J=>?_;exact h b (gO a c z) _ rfl R J (.join g c d e) rfl<|E.HZ i l hd v rd
theorem H2{a:Type}:∀{l:List a},l≠[]->∃w x,l=w++[x]
 |l,h=>⟨l.dropLast,l.getLast h,(List.dropLast_concat_getLast h).symm⟩
theorem xC(R:Rep o S a g)(E:EI f UE cnt [] g)(m:UE.length<=63)(n:cnt<=900000)(h:∀b a' g',a' .hp=a .hp->Rep o b a' g'->EI f UE cnt [] g'->g'.wt=[]->Le g g'->g'.nd=g.nd->(g.wt=[]->g'=g)->K .none b):Fx (F aU (k+5)) 367 [.ref (a .hp)] S K:=by
 refine cT Ea rfl<|.then (.while (t:=mu g) (λt l b=>∃a' g',a' .hp=a .hp/\Rep o b a' g'/\EI f UE cnt [] g'/\Le g g'/\g'.nd=g.nd/\(g.wt=[]->g'=g)/\mu g'<=t/\l=[some<|.ref<|a .hp]) ⟨a,g,rfl,R,E,.refl g,rfl,λZ=>rfl,aM _,rfl⟩ λt l b i=>?_);refine dE i λa' g' d R E p=>?_;refine dK p λL hn hs q=>?_;refine jA q λhm u=>?_;clear i p q;obtain rfl:=u;have j:∀{T},Eg T [some<|.ref<|a .hp] (vr 0) (.ref<|a' .hp):=d▸.vr rfl;have aL:(g'.wt.map iV).length<=aF:=bM<|ah (E.aL m n).wt af;refine⟨_,.gt (.ec (R.waiting j) (R.get .waiting _ rfl) aL) .cst,λt=>?_,λt=> .pass<|h b a' g' d R E ?_ L hn hs⟩
 .refine cj (H2 (l:=g'.wt) λe=>by rw[e] at t;exact b3 t) λw x c=>?_;have P:=E.pop c;have r:=R.get .waiting _ rfl;rw[c,dT] at r aL;refine .dp<|.bP j (R.get .hp _ rfl) (by kernel_rfl)<|.one<|.pop (R.waiting j) r aL<|H0 (R.w8 w) P m n (E.wt x<|c▸dS _ (.head _)) λb v s y A B L' C D=> .pass ⟨mu s,?_,v,s,y.trans d,A,B,L.trans ⟨L'.nd,L'.T,L'.rp⟩,C.trans hn,λe=>?_,aM _,rfl⟩
  .refine b0 D (bt ?_ hm);show w.length+_<g'.wt.length+_;exact Y c<|Y a0<|bt (eg _)<|bF<|d0 _ _ 1
  .rw[hs e,e] at c;exact absurd c.symm λz=>(eG<|(List.append_eq_nil_iff.mp z).2)
 .have t:=fB t;cases e:g'.wt with
  |nil=>rfl
  |cons x w=>exact absurd (Y e<|ij.mpr<|fj _) t
end
section
variable{f:bg->Prop}{UE:List V}{cnt:Nat}{o:List Nat}{k:Nat}{s S u:TH}{a a':Ro->Nat}{g g' A:G}{l:au}{e e':M}{n m c d:Nat}{p:Nd}{v t:V}{K:V->TH->Prop}
open Classical in
noncomputable def dP(ab:Nat->List Nat)(N:Nat)(w:Nat->Prop):Nat->List Nat:=λi=>if i=N then[] else if w i then ab i++[N] else ab i
noncomputable def G.grow(g:G)(p:Nd)(x y:Int)(w:Nat->Prop):G:={g.add p x y with up:=g.up++[g.up.length],aP:=g.aP++[[g.up.length]],bu:=g.bu++[g.nd.length],ab:=dP g.ab g.nd.length w}
noncomputable def G.term(g:G)(N:Nat)(t:V):G:={g with T:=λn=>if n=N then t else g.T n}
theorem sD:∀(l:List (V×V))(k v:V),aW l k=none->(bD l k v).length=l.length+1
 |[],_,_,_=>rfl
 |e::l,k,v,h=>by
  open Classical in
  have h:(if e.1=k then some e.2 else aW l k)=none:=h;by_cases q:e.1=k
  .rw[az q] at h;exact iP h
  .rw[ay q] at h;show(if e.1=k then(k,v)::l else e::bD l k v).length=_;refine Y (ay q)<|Y fS<|Y (sD l k v h) ?_;rfl
theorem lq{a:Type}{l:List a}{x y:a}{i:Nat}(h:(l++[x])[i]? =some y):(i<l.length/\l[i]? =some y)\/(i=l.length/\x=y):=(kH h).imp (λq=>⟨(cN.mp q).1,q⟩) id
theorem pz.add{nd:List Nd}{nu:List (V×V)}{wd hq:List Int}(B:pz nd nu wd hq)(a:p.2.length<=2)(b:∀j∈p.2,j<nd.length)(hz:nd.length<=63)(hn:∀n:Nat,nd[n]?≠some p)(x y:Int):pz (nd++[p]) (bD nu (aZ p) (iV nd.length)) (wd++[x]) (hq++[y]) where
 aL:=Y a0<|ah (cR hz) af
 fw n q h:=(lq h).elim (λh=>B.fw n q h.2) λh=>h.2▸h.1▸⟨a,b⟩
 num q v:=by
  refine Y (ke ..) ?_;by_cases e:aZ q=aZ p
  .refine Y (az e) ?_;clear a b;obtain rfl:=ka e
   exact⟨λh=>⟨_,(aT h).symm,fq _ _⟩,λh=>by obtain⟨n,rfl,h⟩:=h;exact(lq h).elim (λh=>absurd h.2 (hn n)) λh=>h.1▸rfl⟩
  .exact Y (ay e) (Y (propext<|B.num ..) ⟨λh=>h.imp λn h=>⟨h.1,fG h.2⟩,λh=>h.imp λn h=>⟨h.1,(lq h.2).elim (·.2) λz=>absurd (z.2▸rfl) e⟩⟩)
 nl:=by
  rw[sD,B.nl,a0];rfl;cases h:aW nu (aZ p) with
  |none=>rfl
  |some v=>obtain⟨n,_,h⟩:=(B.num p v).mp h;exact absurd h<|hn n
 wl:=by refine Y a0<|Y a0<|Y B.wl ?_;rfl
 dl:=by refine Y a0<|Y a0<|Y B.dl ?_;rfl
theorem UI.snoc{up:List Nat}{rp:Nat->Nat}(U:UI up rp)(hz:up.length<=63)(h:rp up.length=up.length):UI (up++[up.length]) rp where
 aL:=Y a0<|ah (cR hz) af
 par x a:=by
  rw[a0] at a;rcases fg (c6 a) with q|rfl
  .refine ak (U.par x q) λb c r=>?_;exact⟨b,fG c,r⟩
  .exact⟨_,fq _ _,aM _,rfl,λZ=>h⟩
 le x a:=by
  rw[a0] at a;rcases fg (c6 a) with q|rfl
  .exact U.le x q
  .exact bF h
 rr x a:=by
  rw[a0] at a;rcases fg (c6 a) with q|rfl
  .exact U.rr x q
  .exact Y h<|Y h rfl
theorem xD{aP:List (List Nat)}{w:List Nat}{i:Nat}(h:i<aP.length):(aP++[w]).getD i []=aP.getD i []:=Y eQ<|Y eQ<|Y (fP h) rfl
theorem getD_last{aP:List (List Nat)}{w:List Nat}{i:Nat}(h:i=aP.length):(aP++[w]).getD i []=w:=by refine Y h<|Y eQ<|Y (fq ..) ?_;rfl
theorem kb.snoc{up:List Nat}{aP:List (List Nat)}{rp:Nat->Nat}(L:kb up aP rp)(U:UI up rp)(h:rp up.length=up.length):kb (up++[up.length]) (aP++[[up.length]]) rp where
 len:=by refine Y a0<|Y a0<|Y L.len ?_;rfl
 at_ i hi r:=by
  rw[a0] at hi⊢;rcases fg (c6 hi) with q|rfl
  .refine Y (xD<|L.len.symm▸q) (jA (L.at_ i q r) λa b=>?_);refine⟨a,λx=>(b x).trans ⟨λz=>⟨gn z.1,z.2⟩,λz=>⟨(fg<|c6 z.1).resolve_right λe=>?_,z.2⟩⟩⟩;exact bk q<|z.2.symm.trans<|e▸h
  .refine Y (getD_last L.len.symm) ⟨.cons (λZ=>bw) .nil,λx=>a3.trans ⟨λe=>by rw[e];exact⟨eg _,h⟩,λz=>?_⟩⟩;refine Or.elim (fg<|c6 z.1) (λq=>?_) λq=>?_
   .exact absurd z.2<|bk<|b0 (U.le x q) q
   .exact q
theorem pI{rp:Nat->Nat}{N:Nat}(h:rp N=N):(List.range (N+1)).countP (λx=>decide (rp x=x))=(List.range N).countP (λx=>decide (rp x=x))+1:=by exact Y List.range_succ<|Y List.countP_append<|Y List.countP_singleton<|Y (az<|bJ h) rfl
theorem EI.grow(E:EI f UE cnt [] g)(O:UE.length<=63)(s:p.2.length<=2)(c:∀j∈p.2,j<g.nd.length)(hn:∀n:Nat,g.nd[n]?≠some p)(P:p.1∈cX)(F:t= .tup (.str p.1::p.2.map g.T))(hm:t∈UE)(x y:Int){w:Nat->Prop}(Q:∀j∈p.2,w (g.rp j)):EI f UE cnt [g.nd.length] ((g.grow p x y w).term g.nd.length t):=
 have sm:=E.small O;have d:g.rp g.nd.length=g.nd.length:=E.out _<|aM _;have G:g.rp g.up.length=g.up.length:=E.len.symm▸d;have a:(g.nd++[p]).length=g.nd.length+1:=a0;have b:∀n,n≠g.nd.length->(if n=g.nd.length then t else g.T n)=g.T n:=λn h=>ay h;have c5:∀n,n<g.nd.length->g.rp n<g.nd.length:=λn h=>b0 (E.U.le n<|E.len.symm▸h) h;have J:∀{js:List Nat},(∀j∈js,j<g.nd.length)->js.map (λn=>if n=g.nd.length then t else g.T n)=js.map g.T:=λh=>dZ λj m=>b j<|bk<|h j m
 have K:∀(n:Nat),n<g.nd.length->g.T n≠t:=λn h e=>by
  have u:=cc h;generalize g.nd[n]=q at u;have z:=((E.tm n q u).1.symm.trans e).trans F;refine jA (b5<|V.tup.inj z) λR S=>?_
  have W:∀(l m:List Nat),(∀j∈l,j<g.nd.length)->(∀j∈m,j<g.nd.length)->l.map g.T=m.map g.T->l=m:=by
   intro l;induction l with
   |nil=>intro m _ _ e;cases m with|nil=>rfl|cons=>cases e
   |cons i l X=>intro m s hm e;cases m with
    |nil=>cases e
    |cons j m=>refine jA (b5 e) λaa A=>?_;exact Y (E.inj i j (s i<|.head _) (hm j<|.head _) aa)<|Y (X m (λj h=>s j<|.tail _ h) (λj h=>hm j<|.tail _ h) A) rfl
  have A:=W _ _ (λj m=>ei ((E.B.fw n q u).2 j m) h) c S;exact hn n<|u.trans<|ar some<|Prod.ext (V.str.inj R) A
 {B:=E.B.add s c sm hn x y
  len:=by show(g.up++[_]).length=(g.nd++[p]).length;refine Y a0<|Y a<|Y E.len ?_;rfl
  U:=E.U.snoc (E.len.symm▸sm) G
  L:=E.L.snoc E.U G
  tm:=λn q h=>by
   show(if n=g.nd.length then t else g.T n)= .tup (.str q.1::q.2.map (λn=>if n=g.nd.length then t else g.T n))/\_;rcases lq h with⟨lt,h⟩|⟨rfl,rfl⟩
   .exact Y (b n<|bk lt)<|Y (J λj m=>ei ((E.B.fw n q h).2 j m) lt)<|E.tm n q h
   .exact Y (az rfl)<|Y (J c) ⟨F,P⟩
  cY:=λn h=>by
   show(if n=g.nd.length then t else g.T n)∈UE;refine Or.elim (fg<|c6 (a▸h:n<g.nd.length+1)) (λq=>?_) λq=>?_
   .exact Y (b n<|bk q)<|E.cY n q
   .exact Y (az q) hm
  inj:=λn m k o e=>by
   have e:(if n=g.nd.length then t else g.T n)=if m=g.nd.length then t else g.T m:=e;refine Or.elim (fg<|c6 (a▸k:n<g.nd.length+1)) (λq=>?_) λq=>?_<;>refine Or.elim (fg<|c6 (a▸o:m<g.nd.length+1)) (λr=>?_) λr=>?_
   .rw[b n<|bk q,b m<|bk r] at e;exact E.inj n m q r e
   .rw[b n<|bk q,az r] at e;exact absurd e<|K n q
   .rw[az q,b m<|bk r] at e;exact absurd e.symm<|K m r
   .exact q.trans r.symm
  out:=λn h=>E.out n<|jr (a▸h:g.nd.length+1<=n)
  snd:=λI C n=>by
   show ev I (if g.rp n=g.nd.length then t else g.T (g.rp n))=ev I (if n=g.nd.length then t else g.T n);refine Or.elim (gw n g.nd.length) (λq=>?_) λq=>?_
   .exact Y (b n<|bk q)<|Y (b _<|bk<|c5 n q)<|E.snd I C n
   .exact Y (E.out n q) rfl
  kn:=λq v h=>by refine jA (E.kn q v h) λM ac=>?_;refine dE ac λm ad ae hm k o=>?_;refine⟨λj c=>a.symm▸gn (M j c),m,ad,ae,fG hm,λI C=>?_,o⟩;show ev I (if m=g.nd.length then t else g.T m)=I q.1 (q.2.map λj=>ev I (if j=g.nd.length then t else g.T j));exact Y (b m<|bk<|dW hm)<|Y (k I C)<|ar (I q.1)<|dZ λj c=>ar (ev I) (b j<|bk<|M j c).symm
  d9:=λn q h af hp=>by
   rcases lq h with⟨lt,h⟩|⟨rfl,rfl⟩
   .exact E.d9 n q h af nofun
   .exact absurd (.head _) hp
  wt:=λn h=>a.symm▸gn (E.wt n h)
  dG:=List.nodup_append.mpr ⟨E.dG,.cons nofun .nil,λi hi j c e=>bk ((E.bu i).mp hi).1<|e.trans<|a3.mp c⟩
  bu:=λi=>by show i∈g.bu++[g.nd.length]↔i<(g.nd++[p]).length/\g.rp i=i;refine Y (propext cD)<|Y (propext a3)<|Y (propext<|E.bu ..)<|Y a ⟨λh=>h.elim (λh=>⟨gn h.1,h.2⟩) λh=>by rw[h];exact⟨eg _,d⟩,λh=>?_⟩;exact(fg<|c6 h.1).imp (λq=>⟨q,h.2⟩) id
  use:=λn q j h m=>by
   show n∈dP g.ab g.nd.length w (g.rp j);unfold dP;rcases lq h with⟨lt,h⟩|⟨rfl,rfl⟩
   .refine Y (ay<|bk<|c5 j<|ei ((E.B.fw n q h).2 j m) lt) ?_;split
    .exact dJ _<|E.use n q j h m
    .exact E.use n q j h m
   .exact Y (ay<|bk<|c5 j<|c j m)<|Y (az<|Q j m)<|dS _<|.head _
  gP:=λi hi=>by
   show(∀n∈dP g.ab g.nd.length w i,n<(g.nd++[p]).length)/\(dP g.ab g.nd.length w i).length<=(g.nd++[p]).length*((g.aP++[[g.up.length]]).getD i []).length;refine Y a ?_;unfold dP;by_cases q:i=g.nd.length
   .exact Y (az q) ⟨nofun,a6 _⟩
   .refine Y (ay q) ?_;have hi:i∈g.bu:=(cD.mp hi).resolve_right λz=>q<|a3.mp z;refine jA (E.gP i hi) λk o=>?_;refine jA ((E.bu i).mp hi) λag N=>?_;have D:=E.len.symm▸ag;refine Y (xD<|E.L.len.symm▸D)<|Y (Nat.succ_mul ..) ?_;have one:1<=(g.aP.getD i []).length:=List.length_pos_of_mem<|((E.L.at_ i D N).2 i).mpr ⟨D,N⟩;split
    .exact Y a0 ⟨λn z=>(cD.mp z).elim (λz=>gn<|k n z) λz=>(a3.mp z)▸eg _,c7 o one⟩
    .exact⟨λn z=>gn<|k n z,ah o<|cp _ _⟩
  sz:=by have z:=E.sz;show g.kn.length+g.wt.length+1+4000*(List.range (g.nd++[p]).length).countP (λx=>decide<|g.rp x=x)<=4001*(g.nd++[p]).length;exact Y a<|Y (pI d)<|Y (Nat.mul_succ ..)<|Y (Nat.mul_succ ..)<|ah (bF<|Nat.add_add_add_comm _ 1 _ 4000)<|ef z 4001
  sm:=by show g.mg.length+(List.range (g.nd++[p]).length).countP (λx=>decide<|g.rp x=x)<=(g.nd++[p]).length;exact Y a<|Y (pI d)<|cR E.sm
  sf:=by show g.fo.length+(List.range (g.nd++[p]).length).countP (λx=>decide<|g.rp x=x)<=(g.nd++[p]).length;exact Y a<|Y (pI d)<|cR E.sf
  se:=by show g.ed.length+(List.range (g.nd++[p]).length).countP (λx=>decide<|g.rp x=x)<=(g.nd++[p]).length+cnt;exact Y a (Y (pI d) (Y (d0 ..) (cR E.se)))}
end
section
variable{N:Nat}{u:bg->Prop}{UE:List V}{cnt:Nat}{O:List Nat}{k:Nat}{A S I:TH}{a a':Ro->Nat}{g g' b:G}{l:au}{e e':M}{n m c d:Nat}{p:Nd}{v t:V}{K:V->TH->Prop}{op:Str}{cs ks:List Nat}
open Classical in
noncomputable def aO(g:G):bg:=λop cs=>if h:∃(n:Nat)(p:Nd),g.nd[n]? =some p/\bY g.rp p=(op,cs) then g.rp h.choose else g.nd.length
noncomputable def tr(N x:Nat):Nat:=if x<N then x else N
theorem sE{N x:Nat}(h:x<N):tr N x=x:=az h
theorem xE{N x:Nat}(h:¬x<N):tr N x=N:=ay h
structure Cl(u:bg->Prop)(UE:List V)(cnt:Nat)(g:G):Prop where
 E:EI u UE cnt [] g
 w:g.wt=[]
theorem Cl.same(C:Cl u UE cnt g){q:Nd}(b:g.nd[n]? =some p)(c:g.nd[m]? =some q)(h:bY g.rp p=bY g.rp q):g.rp n=g.rp m:=by refine ak (C.E.d9 n p b (C.w▸nofun) nofun) λx a d=>?_;refine ak (C.E.d9 m q c (C.w▸nofun) nofun) λy e f=>?_;rw[h] at a;obtain rfl:=e1<|aT<|a.symm.trans e;exact d.symm.trans f
theorem Cl.at(C:Cl u UE cnt g)(h:g.nd[n]? =some p):aO g p.1 (p.2.map g.rp)=g.rp n:=by have a:∃(n:Nat)(q:Nd),g.nd[n]? =some q/\bY g.rp q=(p.1,p.2.map g.rp):=⟨n,p,h,rfl⟩;unfold aO;refine Y (dif_pos a)<|ak a.choose_spec λq b e=>?_;exact C.same b h e
theorem lr(g:G)(op:Str)(cs:List Nat):aO g op cs=g.nd.length\/∃(n:Nat)(p:Nd),g.nd[n]? =some p/\bY g.rp p=(op,cs):=by
 by_cases h:∃(n:Nat)(p:Nd),g.nd[n]? =some p/\bY g.rp p=(op,cs)
 .exact .inr h
 .exact .inl<|dif_neg h
theorem EI.c5(E:EI u UE cnt O g)(h:n<g.nd.length):g.rp n<g.nd.length:=b0 (E.U.le n<|E.len.symm▸h) h
theorem EI.iy(E:EI u UE cnt O g)(h:g.nd[n]? =some p){j:Nat}(a:j∈p.2):j<g.nd.length:=ei ((E.B.fw n p h).2 j a)<|dW h
theorem sF(E:EI u UE cnt O g)(h:c∈cs)(a:¬c<g.nd.length):aO g op cs=g.nd.length:=(lr g op cs).resolve_right λ⟨n,p,hn,e⟩=>by have e:p.2.map g.rp=cs:=ar Prod.snd e;refine ak (bS.mp<|e▸h) λj b d=>?_;clear h;obtain rfl:=d;exact a<|E.c5<|E.iy hn b
theorem H3(E:EI u UE cnt O g):aO g op (cs.map (tr g.nd.length))=aO g op cs:=by
 by_cases h:∃c,c∈cs/\¬c<g.nd.length
 .refine ak h λc a hn=>?_;exact Y (sF E a hn)<|Y (sF E (gm a) (by rw[xE hn];exact eh _)) rfl
 .refine ar _<|(dZ λc a=>sE<|Decidable.not_not.mp λq=>h ⟨c,a,q⟩).trans<|List.map_id _
inductive Tm:Nat->V->Prop
 |mk (n:Nat) (op:Str) (ks:List V):(∀k∈ks,Tm n k)->Tm (n+1) (.tup<|.str op::ks)
structure Md(b g:G):Prop where
 w:g.wt=[]
 le:Le b g
 rp:∀n,n<b.nd.length->g.rp n=b.rp n
 at_:∀n(p:Nd),g.nd[n]? =some p->tr b.nd.length (g.rp n)=aO b p.1 (p.2.map g.rp)
theorem Cl.md(C:Cl u UE cnt g):Md g g:=⟨C.w,.refl g,λZ Z=>rfl,λn p h=>(sE<|C.E.c5<|dW h).trans (C.at h).symm⟩
theorem Md.ev{c:List V}{d:Nat}(M:Md b g)(C:Cl u UE cnt b)(E:EI u c d O g)(h:n<g.nd.length):Mine.ev (aO b) (g.T n)=tr b.nd.length (g.rp n):=by
 induction n using Nat.strongRecOn with
 |ind n e=>have hp:=cc h;generalize g.nd[n]=p at hp;refine Y (E.tm n p hp).1<|Y (fJ ..)<|Y (M.at_ n p hp)<|Eq.trans (ar _ ?_)<|H3 C.E;exact Y c3<|Y c3<|dZ λj a=>e j ((E.B.fw n p hp).2 j a)<|E.iy hp a
theorem Cl.ev(C:Cl u UE cnt g)(h:n<g.nd.length):Mine.ev (aO g) (g.T n)=g.rp n:=(C.md.ev C C.E h).trans<|sE<|C.E.c5 h
theorem Cl.later{c:List V}{d:Nat}(C:Cl u UE cnt b)(D:Cl u c d g)(L:Le b g)(op:Str)(cs:List Nat)(h:aO b op cs<b.nd.length):aO g op (cs.map g.rp)=g.rp (aO b op cs):=by refine cq ((lr b op cs).resolve_left<|bk h) λn p hn e=>?_;have f:p.1=op:=ar Prod.fst e;have i:p.2.map b.rp=cs:=ar Prod.snd e;clear h e;subst f i;have rr:∀x,x<b.nd.length->g.rp (b.rp x)=g.rp x:=λx a=>L.rp _ _ (C.E.c5 a) a<|C.E.U.rr x<|C.E.len.symm▸a;exact Y (C.at hn)<|Y (rr n<|dW hn)<|Y (D.at<|L.nd n p hn).symm<|Y c3<|ar _<|dZ λj k=>rr j<|C.E.iy hn k
theorem Cl.f3{d:List V}{e:Nat}(C:Cl u UE cnt b)(D:Cl u d e g)(L:Le b g){t:V}(a:∃n,Tm n t):Mine.ev (aO b) t<b.nd.length->Mine.ev (aO g) t=g.rp (Mine.ev (aO b) t):=by
 obtain⟨n,a⟩:=a;induction a with
 |mk n op ks _ f=>intro h;rw[fJ] at h⊢;refine Y (fJ ..)<|Y (C.later D L op _ h).symm<|Y c3<|ar _<|dZ λk c=>f k c ?_;refine Decidable.not_not.mp λq=>bk h<|sF C.E (gm c) q
theorem Rep.H4(R:Rep A S a g){c N:Nat}{w b:Nat->Prop}{ab:Nat->List Nat}(h:g.ab=dP ab N w)(j:c∈g.bu)(k:c≠N)(o:¬w c)(f:∀i,b i↔i=c\/w i):Rep A (upd S (a (.ab c)) (.list ((ab c).map iV++[iV N]))) a {g with ab:=dP ab N b}:=by
 refine R.put (.ab c) (kc j) ((az j).trans<|ar (λl=>some<|aQ.list l) ?_) λr p q=>?_
 .show(dP ab N b c).map iV=_;unfold dP;refine Y (if_neg k)<|Y (if_pos<|(f c).mpr<|.inl rfl)<|Y List.map_append ?_;rfl
 .cases r with
  |ab i=>
   by_cases e:i=c
   .exact .inl<|ar _ e
   .refine jA (lp q) λm n=>?_;clear q;obtain rfl:=n;refine .inr<|(az m).trans<|ar (λl:List Nat=>some<|aQ.list<|l.map iV) ?_;show g.ab i=dP ab N b i;refine Y h ?_;unfold dP;by_cases d:w i
    .exact Y (az d)<|Y (az<|(f i).mpr<|.inr d) rfl
    .exact Y (ay d)<|Y (ay λz=>((f i).mp z).elim e d) rfl
  |_=>exact .inr q
theorem xF{c N:Nat}{w:Nat->Prop}{ab:Nat->List Nat}(a:c≠N)(b:¬w c):dP ab N w c=ab c:=by unfold dP;exact Y (if_neg a)<|Y (if_neg b) rfl
noncomputable def Lm:aE:=aB (e8 (aw (vr 0) "above")<|vr 3)<|cg aa
theorem H5(R:Rep A S a g)(b:N∉g.bu){w:Nat->Prop}(d:∀i,¬w i){x:Nat}(h:S x=none):Rep A (upd (upd S x (.list [])) (a .above) (.dict .i (bD (g.bu.map (en λc=> .ref (a (.ab c)))) (iV N) (.ref x)))) (gO a N x) {g with bu:=g.bu++[N],ab:=dP g.ab N w}:=by
 refine R.put2 .above (.ab N) h (xq N x) nofun rfl ((az<|dS _<|.head _).trans<|ar (λl:List Nat=>some<|aQ.list<|l.map iV)<|az rfl) ?_ λr p q=>?_
 .exact ar (λl=>some<|aQ.dict .i l) (xu (f:=λc=> .ref<|a<|.ab c) (f':=λi=> .ref<|gO a N x<|.ab i) (ar V.ref<|az rfl) (λi hi=>ar V.ref<|ay hi) b).symm
 .cases r with
  |above=>exact .inr<|.inl rfl
  |ab i=>
   by_cases e:i=N
   .exact .inl<|ar _ e
   .refine jA (lp q) λm j=>?_;clear q;obtain rfl:=j;have m:i∈g.bu:=(cD.mp m).resolve_right λz=>e<|a3.mp z;exact .inr<|.inr<|(az m).trans<|ar (λl:List Nat=>some<|aQ.list<|l.map iV) (xF e<|d i).symm
  |_=>exact .inr<|.inr q
structure Add(u:bg->Prop)(UE:List V)(cnt:Nat)(A I:TH)(a a':Ro->Nat)(g g':G)(n:Nat)(t:V):Prop where
 hp:a' .hp=a .hp
 R:Rep A I a' g'
 E:EI u UE cnt [] g'
 L:Le g g'
 lt:n<g'.nd.length
 T:g'.T n=t
 md:∀b c d,Cl u c d b->Md b g->Md b g'
theorem Rep.pJ{o:aQ}{x:Nat}(R:Rep (upd A x o) S a g)(h:A x=none):Rep A S a g:=⟨(Sub.new h).trans R.base,R.get,λr p q=>h4.mpr λo' z=>((a4<|(R.new r p q).symm.trans<|br h z)),R.inj⟩
theorem Rep.out{x:Nat}(R:Rep A S a g)(h:S x=none):A x=none:=h4.mpr λo z=>(a4<|h.symm.trans<|R.base _ _ z)
theorem xG(R:Rep A S a g)(h:g.up.length<=1000):Fg (F aU (k+1)) 235 [.ref (a .un)] S (iV g.up.length):=hl DG rfl<|aV (as:=g.up) iV▸.ec (R.up<|.vr rfl) (R.get .up _ rfl) (bM<|lb h)
theorem Num.src{a:V}(h:Num S a ks){e:M}(b:Eg S l e a):∃G:TH->Prop,dg S l (aI e) (ks.map iV) G/\∀T,Sub S T->G T:=by
 rcases h with rfl|⟨r,rfl,q⟩
 .exact⟨_,.tup b,λZ Z=>trivial⟩
 .exact⟨_,.list b q,λT s=>s _ _ q⟩
theorem H6{rest:aE}{Q:Fl->au->TH->Prop}{b:G}(R:Rep A S a b)(U:UI b.up b.rp){ab:Nat->List Nat}{B:Nat->Prop}(T:b.ab=dP ab N B)(W:∀i,¬B i){n:V}(X:Num A n ks)(C:ks.length<=2)(D:∀j∈ks,j<N)(E:N<b.up.length)(ac:∀c,c<b.up.length->b.rp c=c->c∈b.bu)(hz:∀c∈b.bu,c≠N->(ab c).length<=aF){s1:Option V}
  (h:∀I o,Rep A I a {b with ab:=dP ab N λi=>i∈ks.map b.rp}->Sw I [some<|.ref<|a .hp,s1,some n,some<|iV N,o] rest Q):
  Sw S [some<|.ref<|a .hp,s1,some n,some<|iV N,none] (ag (forM (aI<|dV hk<|aS (aI<|vr 2) [0] 1 (aj 1) aK<|aR<|aX (F aU<|k+2) aY (vr 0) "find"<|H (vr 1) aa) (aj 4)<|ag (cn<|bB (bG .append) (bH .append) (ax (aw (vr 0) "above")<|vr 4)<|H (vr 3) aa) av) rest) Q:=by
 refine ak ((X.sup R.base).src (l:=[some<|.ref<|a .hp,s1,some n,some<|iV N,none]) (e:=vr 2)<|.vr rfl) λas hs ad=>?_;have x:∀j∈ks,j<b.up.length:=λj m=>ei (D j m) E;have fl:((ks.map b.rp).map iV).length<=63:=bM<|bM<|ah C af
 refine .then (.sr (λr ws f l' I=>Rep (upd A r (.list ws)) I a {b with ab:=dP ab N λi=>i∈ks.map b.rp/\iV i∉f}/\A r=none/\f.Nodup/\(∀v∈f,v∈(ks.map b.rp).map iV)/\∃o,l'=[some (.ref (a .hp)),s1,some n,some (iV N),o])
  (bN.pD (xc R U hs ad C x rfl).p λvs e=>e▸⟨⟨fl,.inl λv m=>by refine ak (hr m) λj Z ae=>?_;clear m;obtain rfl:=ae;exact⟨j,rfl⟩⟩,.i,λv m=>by refine ak (hr m) λj Z ai=>?_;clear m;obtain rfl:=ai;exact pF j⟩) (λws r d g=>?_) (λr ws f l' I i=>i.1.base _ _ aJ) (λr ws v f l' I i=>?_) λr ws l' I i=>?_)
 .refine ak d λvs al on=>?_;obtain rfl:=al;refine⟨(R.loc g).ghost ?_,R.out g,on.1,λv m=>(on.2 v).mp m,none,rfl⟩
  have e:dP ab N (λi=>i∈ks.map b.rp/\iV i∉ws)=b.ab:=by refine Y T ?_;funext i;unfold dP;exact Y (ay<|W i)<|Y (ay λz:i∈ks.map b.rp/\iV i∉ws=>z.2<|(on.2 _).mpr<|gm z.1) rfl
  exact Y e rfl
 .refine dK i λs g nd J=>?_;refine jA J λhm K=>?_;refine jE K λo am=>?_;clear K;obtain rfl:=am;refine ak (hr<|hm v<|.head _) λc L an=>?_;obtain rfl:=an;refine ak (bS.mp L) λj y ao=>?_;clear i J;obtain rfl:=ao;have nd:=gX.mp nd;have t:=b0 (U.le j<|x j y)<|D j y;have cl:=ei t E;have u:=ac _ cl<|U.rr j<|x j y;have M:¬(b.rp j∈ks.map b.rp/\iV (b.rp j)∉iV (b.rp j)::f):=λz=>z.2<|.head _;have ap:I (a<|.ab<|b.rp j)=some (.list<|(ab<|b.rp j).map iV):=(s.get (.ab<|b.rp j) _<|kc u).trans<|ar (λl:List Nat=>some<|aQ.list<|l.map iV)<|xF (ab:=ab) (w:=λi=>i∈ks.map b.rp/\iV i∉iV (b.rp j)::f) (bk t) M;refine .dF<|.dp<|.append (sx s u (.vr rfl)<|.vr rfl) ap (.vr rfl) (bM<|hz _ u<|bk t)<|.pass ⟨s.H4 rfl u (bk t) M λi=>?_,g,nd.2,λv m=>hm v<|.tail _ m,_,rfl⟩;refine⟨λz=>?_,λz=>?_⟩
  .by_cases e:i=b.rp j
   .exact .inl e
   .exact .inr ⟨z.1,λq=>(ba.mp q).elim (λq=>e<|e1 q) z.2⟩
  .rcases z with rfl|z
   .exact⟨L,nd.1⟩
   .exact⟨z.1,λq=>z.2<|.tail _ q⟩
 .refine dK i λs g Z O=>?_;refine jA O λZ P=>?_;refine jE P λo aq=>?_;clear i O P;obtain rfl:=aq;refine h I o<|(s.pJ g).ghost ?_;have e:dP ab N (λi=>i∈ks.map b.rp/\iV i∉[])=dP ab N λi=>i∈ks.map b.rp:=ar (dP ab N)<|funext λi=>propext ⟨λz=>z.1,λz=>⟨z,nofun⟩⟩;exact Y e rfl
theorem Md.grow{k:List V}{l:Nat}{a:G}(C:Cl u k l b)(M:Md b g)(E:EI u UE cnt [] g)(d:a.nd=g.nd++[p])(o:∀j∈p.2,j<g.nd.length)(r:∀n,n<g.nd.length->a.T n=g.T n)(s:a.wt=[])(c:∀n,n<g.nd.length->a.rp n=g.rp n)(t:tr b.nd.length (a.rp g.nd.length)=aO b p.1 (p.2.map g.rp)):Md b a:=
 have N:=ee M.le;have e:∀{js:List Nat},(∀j∈js,j<g.nd.length)->js.map a.rp=js.map g.rp:=λh=>dZ λj m=>c j<|h j m
 ⟨s,⟨λn p h=>d.symm▸fG (M.le.nd n p h),λn h=>(r n (bt h N)).trans (M.le.T n h),λx y f i h=>(c x (bt f N)).trans ((M.le.rp x y f i h).trans (c y (bt i N)).symm)⟩,λn h=>(c n (bt h N)).trans (M.rp n h),λn q h=>by
  rw[d] at h;rcases lq h with⟨lt,h⟩|⟨rfl,rfl⟩
  .exact Y (c n lt)<|Y (e λj m=>E.iy h m)<|M.at_ n q h
  .exact Y (e o) t⟩
theorem H7{a:List V}{c:Nat}(C:Cl u a c b)(M:Md b g)(E:EI u UE cnt [] g)(h:aW g.kn (aZ (op,cs))=none):aO b op cs=b.nd.length:=(lr b op cs).resolve_right λ⟨n,p,hn,e⟩=>by have e':bY g.rp p=(op,cs):=(ar (Prod.mk p.1)<|dZ λj d=>M.rp j<|C.E.iy hn d).trans e;refine ak (E.d9 n p (M.le.nd n p hn) (M.w▸nofun) nofun) λm hm Z=>?_;rw[e',h] at hm;cases hm
theorem H8(M:Md b g)(E:EI u UE cnt [] g)(c:∀j∈ks,j<g.nd.length)(h:aW g.kn (aZ (op,ks.map g.rp))=some (iV m)):m<g.nd.length/\tr b.nd.length (g.rp m)=aO b op (ks.map g.rp):=by
 refine jA (E.kn _ _ h) λZ d=>?_;refine dE d λn q f a Z k=>?_;clear Z;obtain rfl:=e1 f
 have e:=k λj hm=>by refine ak (bS.mp hm) λi hi l=>?_;clear hm;obtain rfl:=l;exact E.U.rr i<|E.len.symm▸c i hi
 refine⟨dW a,(M.at_ m q a).trans ?_⟩;exact Y (show q.1=op from ar Prod.fst e)<|Y (show q.2.map g.rp=ks.map g.rp from ar Prod.snd e) rfl
theorem sG(R:Rep A S a g)(E:EI u UE cnt [] g)(P:UE.length<=63)(s:cnt<=900000){W:V}(am:Num A W ks)(X:ks.length<=2)(v:∀j∈ks,j<g.nd.length)(an:op∈cX)(ao:t= .tup (.str op::ks.map g.T))(hm:t∈UE)
  (h:∀n I a' g',Add u UE cnt A I a a' g g' n t->K (iV n) I):Fx (F aU<|k+5) 320 [.ref<|a .hp,.str op,W] S K:=by
 refine cT DW rfl<|.b8<|.bP (R.w9<|.vr rfl) (R.get .cL _ rfl) (by kernel_rfl)<|Es.x (.cons (.vr rfl)<|.one<|.vr rfl)<|Hx R E.B am X v an (λn hn=>?_) λaA aO x y D=>?_
 .refine .guard (.lt (.vr rfl)<|.bP (R.lh<|.vr rfl) (R.get .un _ rfl) (by kernel_rfl) .nil<|xG R E.U.aL) (λZ=> .dz (.vr rfl)<|h n S a g ⟨rfl,R,E,.refl g,dW hn,(E.tm n _ hn).1.trans ao.symm,λZ Z Z Z m=>m⟩) λt=>?_;exact absurd (ij.mpr<|E.len.symm▸dW hn)<|fB t
 .refine .guard (.lt (.vr rfl)<|.bP (D.lh<|.vr rfl) (D.get .un _ rfl) (by kernel_rfl) .nil<|xG D E.U.aL) (λt=>?_) λZ=>?_
  .exact absurd (cf t)<|Int.not_lt.mpr<|fT.mpr<|bF E.len
  refine .dp<|.bP (D.lh<|.vr rfl) (D.get .un _ rfl) (by kernel_rfl)<|.nil<|HL D E.U.aL E.L.len λaP z aa=>?_;have aB:g.nd.length∉g.bu:=λz=>eh _ ((E.bu _).mp z).1;have ap:=E.aL P s;refine .gL<|(El.lst .nil<|a6 _).x λac ad=>⟨_,_,_,_,(aa.sup<|.new ad).above<|.vr rfl,.vr rfl,br ad<|aa.get .above _ rfl,⟨pF _,ah (bM ap.bu) af⟩,?_⟩;have aC:=H5 (w:=λZ=>False) aa aB (λZ=>id) ad;have r:=E.grow (p:=(op,ks)) P X v aA an ao hm x y (w:=λi=>i∈ks.map g.rp) λj m=>gm m;refine H6 aC r.U rfl (λZ=>id) am X v (r.len▸a0.symm▸eg _) (λc aD aE=>(r.bu c).mpr ⟨r.len▸aD,aE⟩) (λc s ne=>ah (ap.ab c<|(cD.mp s).resolve_right λz=>ne<|a3.mp z) af) λaF o aG=>?_;have aq:Rep A aF (gO (ll a g.up.length z) g.nd.length ac) ((g.grow (op,ks) x y λi=>i∈ks.map g.rp).term g.nd.length t):=aG.ghost rfl;have hn:((g.grow (op,ks) x y λi=>i∈ks.map g.rp).term g.nd.length t).nd[g.nd.length]? =some (op,ks):=fq _ _;have G:Le g ((g.grow (op,ks) x y λi=>i∈ks.map g.rp).term g.nd.length t):=⟨λZ Z h=>fG h,λn h=>ay<|bk h,λZ Z Z Z h=>h⟩;have O:g.rp g.nd.length=g.nd.length:=E.out _<|aM _;have key:bY g.rp (op,ks)=(op,ks.map g.rp):=rfl;generalize N:(g.grow (op,ks) x y λi=>i∈ks.map g.rp).term g.nd.length t=f at*;have l:f.rp=g.rp:=N▸rfl;have ae:f.kn=g.kn:=N▸rfl;have ar:f.T g.nd.length=t:=N▸az rfl;have as:f.wt=g.wt:=N▸rfl;have aH:f.ab g.nd.length=[]:=N▸az rfl;have au:=dW hn;have aw:f.nd=g.nd++[(op,ks)]:=N▸rfl;have ret:∀{I o},K (iV g.nd.length) I->Sw I [some<|.ref<|a .hp,some<|.str op,some W,some<|iV g.nd.length,o] (ag (a5<|vr 3) av) λfl Z I=>K (eX fl) I:=λh=> .dz (.vr rfl) h;refine .dp<|.bP (.vr rfl) (aq.get .hp _ rfl) (by kernel_rfl)<|Es.x (.one<|.vr rfl)<|xB aq r (r.aL P s) hn (λm hm ax=>?_) (λai aj Q=>?_) λm hm c d ak q aj aI e Q=>?_
  .rw[l,ae] at hm;rw[l,O] at ax;have al:=(E.kn _ _ hm).2.elim λaQ z=>z.elim λq z=>e1 z.1▸dW z.2.1;exact absurd (ax▸E.c5 al)<|eh _
  .refine ret (h _ aj (gO (ll a g.up.length z) g.nd.length ac) _ ⟨rfl,Q,r.xx hn ai,⟨G.nd,G.T,G.rp⟩,au,ar,λb Z Z C M=>M.grow C E aw v G.T (as.trans M.w) (λn Z=>congrFun l n) ?_⟩);rw[l,ae] at ai;exact Y l<|Y O<|Y (xE<|cJ.mpr<|ee M.le) (H7 C M E ai).symm
  .refine dK (r.pH (e:=e) P hn hm ak q) λhd aJ rd J=>?_;refine ret<|h _ aj (gO (gO (ll a g.up.length z) g.nd.length ac) c aI) _ ⟨rfl,Q,J,G.trans<|.join f c d e,au,ar,λb Z Z C M=>?_⟩;rw[l,ae] at hm;rw[l] at q;refine jA (H8 M E v hm) λal aK=>?_;have aN:=E.c5 al;have⟨s,hd⟩:c=g.rp m/\d=g.nd.length:=q.elim (λz=>⟨z.1,z.2.trans O⟩) λz=>absurd ak<|Y z.1<|Y z.2<|Y O<|cJ.mpr<|c2 aN;clear ak q Q aJ rd J;subst s hd;refine M.grow C E aw v G.T ?_ (λn hn=>(dX ?_).trans<|congrFun l n) ?_
   .show f.wt++f.ab _=[];refine Y as<|Y M.w<|Y aH ?_;rfl
   .exact Y l<|bk<|E.c5 hn
   .show tr _ (Mine.cY f.rp _ _ _)=_;exact Y (eO (by rw[l,O])) aK
end
section
variable{N:Nat}{B:bg->Prop}{UE:List V}{cnt:Nat}{J:List Nat}{k:Nat}{D S u:TH}{a a':Ro->Nat}{g g' y:G}{l:au}{e e':M}{n m c d:Nat}{p:Nd}{v t:V}{K:V->TH->Prop}{op:Str}{cs:List Nat}{ks vs items:List V}{src:cK}{js:List Nat}{i:Nat}
theorem Ex.comp{G:TH->Prop}(I:List V->List V->TH->Prop)(hs:dg S l src items G)(c:I items [] S)(d:∀b acc S,I b acc S->G S)(step:∀v b acc S,I (v::b) acc S->Ex S ((cH js 1 l).set i (some v)) e λw u=>acc.length<aF/\I b (acc++[w]) u)
  (a7:∀acc S,I [] acc S->∀r,S r=none->K (.ref r) (upd S r<|.list acc)):Ex S l (aS src js 1 (aj i) aK<|aR e) K:=λf g P q=>hs S (.refl S) f g _ λok j k m=>
 nA (ok:=ok) (λr acc a=>∃S,I r acc S/\Hd S a) (λr acc a h=>h.elim λS h=>m S a h.2<|d r acc S h.1) (λv r acc a h P n=>h.elim λS h=>step v r acc S h.1 a h.2 _ λw u o z p=>⟨z.1,n _ o ⟨u,z.2,p⟩⟩) items [] j _ ⟨S,c,k⟩ λacc a h=>h.elim λS h=>q _ _ _ (a7 acc S h.1 _ h.2.cv) h.2.new
theorem Ex.nz(h:Ex S l e λv u=>∃r vs,v= .ref r/\u r=some (.list vs)/\vs.length<=aF/\K (.tup vs) u):Ex S l (aC (aD .tuple) (H e aa)) K:=λb c P p=>h b c _ λv u f q a=>by obtain⟨r,vs,rfl,g,d,q⟩:=q;exact .inr ⟨vs,a _ _ g,d,p _ _ _ q a⟩
inductive Tu(UE:List V):Nat->V->Prop
 |mk (n:Nat) (op:Str) (ks:List V):op∈cX->ks.length<=2-> .tup (.str op::ks)∈UE->(∀k∈ks,Tu UE n k)->Tu UE (n+1) (.tup<|.str op::ks)
theorem Add.on{e:Ro->Nat}{d:G}(hp:e .hp=a .hp)(L:Le g d)(md:∀y b c,Cl B b c y->Md y g->Md y d)(A:Add B UE cnt D u e a' d g' n t):Add B UE cnt D u a a' g g' n t:=⟨A.hp.trans hp,A.R,A.E,L.trans A.L,A.lt,A.T,λy b c C M=>A.md y b c C<|md y b c C M⟩
theorem xH(hs:dg S l src ks λZ=>True)(R:Rep D S a g)(E:EI B UE cnt [] g)(N:ks.length<=2)
  (O:∀v,v∈ks->∀d b c,b .hp=a .hp->Rep D d b c->EI B UE cnt [] c->∀F:V->TH->Prop,(∀n u a' g',Add B UE cnt D u b a' c g' n v->F (iV n) u)->Ex d ((cH js 1 l).set i<|some v) e F)
  (k:∀(xs:List Nat) r u a' g',a' .hp=a .hp->Rep D u a' g'->EI B UE cnt [] g'->Le g g'->(∀y f o,Cl B f o y->Md y g->Md y g')->xs.map g'.T=ks->(∀j∈xs,j<g'.nd.length)->u r=none->K (.ref r) (upd u r<|.list<|xs.map iV)):Ex S l (aS src js 1 (aj i) aK<|aR e) K:=by
 refine .comp (λs acc u=>∃(xs:List Nat)(a':Ro->Nat)(g':G),a' .hp=a .hp/\Rep D u a' g'/\EI B UE cnt [] g'/\Le g g'/\(∀y f o,Cl B f o y->Md y g->Md y g')/\acc=xs.map iV/\(∀j∈xs,j<g'.nd.length)/\xs.map g'.T++s=ks) hs ⟨[],a,g,rfl,R,E,.refl g,λZ Z Z Z=>id,rfl,(λZ=>bw),rfl⟩ (λZ Z Z Z=>trivial) (λv s acc d h=>?_) λacc d h r P=>?_
 .refine hI h λxs b c hp t w I=>?_;refine dK I λx z Q U=>?_;refine jA U λq p=>?_;clear h I;obtain rfl:=Q;refine O v (p▸dS _ (.head _)) d b c hp t w _ λn u a' g' A=>⟨?_,xs++[n],a',g',A.hp.trans hp,A.R,A.E,x.trans A.L,λy f o C M=>A.md y f o C<|z y f o C M,by refine Y dT ?_;rfl,λj m=>?_,?_⟩
  .have:xs.length<=ks.length:=Y p.symm (Y a0<|Y (aV ..)<|cp _ _);exact b0 (bM<|ah this N) af
  .exact(cD.mp m).elim (λm=>bt (q j m)<|ee A.L) λm=>a3.mp m▸A.lt
  .exact Y dT (Y (gV ..) (Y p.symm (congr (ar _<|dZ λj m=>A.L.T j<|q j m) (ar (· ::s) A.T))))
 .refine hI h λxs b c hp t w J=>?_;refine dK J λx z W X=>?_;refine jA X λq p=>?_;clear h J;obtain rfl:=W;exact k xs r d b c hp t w x z ((d2 _).symm.trans p) q P
theorem kf{a:Type}(x:a)(l:List a):1<=(x::l).length:=cR<|a6 _
theorem jc{x:V}(a:ks.length<=2):(x::ks).length<=aF:=ah (cR a) af
theorem jd{x:V}(a:ks.length<=2):(x::ks).length<=1000000:=ah (cR a) af
theorem sH{T:Nat->V}{xs:List Nat}(h:xs.map T=ks)(a:ks.length<=2):xs.length<=2:=aV (as:=xs) T▸h▸a
theorem xI(i:UE.length<=63)(o:cnt<=900000){n:Nat}{t:V}(p:Tu UE n t):∀{S a g},Rep D S a g->EI B UE cnt [] g->∀K:V->TH->Prop,(∀n u a' g',Add B UE cnt D u a a' g g' n t->K (iV n) u)->Fx (F aU (k+n+6)) 325 [.ref (a .hp),t] S K:=by
 induction p with
 |mk n op ks q b hm _ s=>
  intro S a g R E K h;refine cT DY rfl<|.iw<|.bP (f:=320) (.vr rfl) (R.get .hp _ rfl) (by kernel_rfl)<|.jb (.eu (j:=0) (.vr rfl) .cst rfl<|jd b)<|.one<|.nz<|xH (.tup<|.f9 (.vr rfl) ⟨aM _,kf _ _,jc b⟩) R E b (λv m w y z hp c d C G=>?_) λxs r w y z hp c d I J e L M=>⟨r,_,rfl,aJ,bM ?_,?_⟩
  .exact .bP (hp▸.vr rfl) (c.get .hp _ rfl) (by kernel_rfl)<|Es.x (.one<|.vr rfl)<|s v m c d C G
  .exact ah (sH e b) af
  .exact hp▸sG (t:= .tup<|.str op::ks) (c.sup<|.new M) d i o (.inl rfl) (sH e b) L q (ar (λl=>V.tup<|.str op::l) e.symm) hm λn u a' g' A=>h n u a' g'<|A.on hp I J
theorem H9:cX.all (λx=>Txt.slice x none (some (1:Nat))!="?"&&decide (x.length<=aF))=true:=by decide+kernel
noncomputable def cw:List Str:=["?x","?y"]
theorem Ia:cw.all (λx=>Txt.slice x none (some (1:Nat))=="?"&&decide (x.length<=aF))=true:=by decide+kernel
theorem Eg.pK{x:Str}{j:Nat}(h:Eg S l e (.str x))(a:x.length<=aF):Eg S l (kR e j) (.str (Txt.slice x none (some (j:Int)))):=λT s b c P k=>h T s b c _ λd f=> .inl ⟨a,k d f⟩
theorem nG(h:op∈cX)(a:ks.length<=2):Fg (F aU (k+1)) 86 [.tup (.str op::ks)] S (.bool false):=by have q:=fe.mp<|e3.mp H9 op h;have d:=Eg.j5 (S:=S) (l:=dw [.tup<|.str op::ks] 0) (.pK (j:=1) (.eu (vs:= .str op::ks) (j:=0) (.vr (i:=0) rfl) .cst rfl<|jd a)<|cf q.2)<|.cst (v:= .str "?");have c:=Eg.and (.fu (b:=1) (.l8 (vs:= .str op::ks) (.vr (i:=0) rfl)<|jc a) .cst) λZ=>d;rw[dd<|hG.mp q.1,Bool.and_false] at c;exact hl vU rfl c
theorem sJ(h:op∈cw):Fg (F aU (k+1)) 86 [.tup [.str op]] S (.bool true):=by have q:=fe.mp<|e3.mp Ia op h;have c:=Eg.j5 (S:=S) (l:=dw [.tup [.str op]] 0) (.pK (j:=1) (.eu (vs:=[.str op]) (j:=0) (.vr (i:=0) rfl) .cst rfl (by decide:1<=1000000))<|cf q.2)<|.cst (v:= .str "?");have a:=Eg.and (.fu (b:=1) (.l8 (vs:=[.str op]) (.vr (i:=0) rfl) dO) .cst) λZ=>c;rw[bJ<|gY.mp q.1,Bool.and_true] at a;exact hl vU rfl a
noncomputable def kg(a:Ro->Nat):List (Str×V):=[("heap",.ref<|a .hp)]
theorem mn(a:Ro->Nat):(kg a).lookup ("heap":Str)=some (.ref (a .hp)):=by kernel_rfl
theorem Ib(C:UE.length<=63)(G:cnt<=900000){n:Nat}{t tb:V}(I:Tu UE n t){pl:Nat}{i:Nat}(p:D pl=some (.inst 518 [("heap",.ref i)])):∀{d S a g},Sub D d->a .hp=i->Rep d S a g->EI B UE cnt [] g->∀K:V->TH->Prop,(∀n u a' g',Add B UE cnt d u a a' g g' n t->K (iV n) u)->Fx (F aU (k+n+6)) 503 [.ref pl,t,tb] S K:=by
 induction I with
 |mk n op ks q b hm _ J=>
  intro d S a g hs w R E K h;have M:∀{T},Sub S T->T pl=some (.inst 518 [("heap",.ref<|a .hp)]):=λs=>w▸s _ _ (R.base _ _<|hs _ _ p);refine cT rL rfl<|.guard (.call (.one<|.vr rfl)<|nG q b) (λt=>(b3 t)) λZ=> .iw<|.bP (f:=320) (.attr (.vr rfl) (M<|.refl S)<|mn a) (R.get .hp _ rfl) (by kernel_rfl)<|.jb (.eu (j:=0) (.vr rfl) .cst rfl<|jd b)<|.one<|xH (.tup<|.f9 (.vr rfl) ⟨aM _,kf _ _,jc b⟩) R E b (λv m N O P hp c e Q U=>?_) λxs r N O P hp c e W X y aa z=>?_
  .exact .bP (.vr rfl) (c.base _ _<|hs _ _ p) (by kernel_rfl)<|Es.x (.cons (.vr rfl)<|.one<|.vr rfl)<|J v m hs (hp.trans w) c e Q U
  .have ab:=c.loc (o:= .list<|xs.map iV) z;exact hp▸sG (t:= .tup<|.str op::ks) ab e C G (.inr ⟨r,rfl,aJ⟩) (sH y b) aa q (ar (λl=>V.tup<|.str op::l) y.symm) hm λn u a' g' A=>h n u a' g'<|Add.on hp W X ⟨A.hp,A.R.pJ<|c.out z,A.E,A.L,A.lt,A.T,A.md⟩
end
section
variable{N:Nat}{I:bg->Prop}{UE:List V}{cnt:Nat}{W:List Nat}{k:Nat}{J S A:TH}{a a':Ro->Nat}{g g' O:G}{l:au}{e e':M}{n m c d:Nat}{p:Nd}{v t:V}{K:V->TH->Prop}{op:Str}{cs:List Nat}{ks vs items:List V}{src:cK}{js:List Nat}{i:Nat}{D:List V->Prop}
theorem El.Ln{c:Addr}{fs:List (Str×V)}{nm:Str}{f:Addr}{fn:aG}{j:Nat}(h:Eg S l e (.ref j))(g:S j=some (.inst c fs))(hm:aY c nm=some f){es:Ms}(hs:Es S l es vs)(hf:eN fn f (.ref j::vs) S D):bN S l (aX fn aY e nm es) D:= .bP h g hm hs hf
theorem Ic(R:Rep J S a g)(U:UI g.up g.rp)(L:LI g)(hz:g.up.length<=63)(hn:n<g.up.length):eN (F aU (k+3)) 388 [.ref (a .hp),iV n] S λws=>ws.Perm ((g.aP.getD (g.rp n) []).map iV):=nF Ee rfl (.bP (R.lh<|.vr rfl) (R.get .un _ rfl) (by kernel_rfl) (.one<|.vr rfl)<|HQ R U L hz hn)
noncomputable def pL(g:G)(c:Nat)(ws:List V):Prop:=ws.Nodup/\ws.length<=63/\∀v,v∈ws↔∃(n:Nat)(p:Nd),g.nd[n]? =some p/\g.rp n=c/\v=aZ (bY g.rp p)
theorem Ie(n:Nat){l m:List Nat}:∀(i:Nat) a b,(l.map iV)[i]? =some a->(m.map iV)[i]? =some b->(a8 n a/\a8 n b)/\e6 n a b:=λi a b c d=>by refine ak (hr<|bI c) λx Z e=>?_;clear c;obtain rfl:=e;refine ak (hr<|bI d) λy Z f=>?_;clear d;obtain rfl:=f;exact⟨⟨.int _ _,.int _ _⟩,.int _ _ _⟩
theorem Ig(p q:Nd):e6 30 (aZ p) (aZ q):=by
 have e:∀(i:Nat) a b,(V.str p.1::p.2.map iV)[i]? =some a->(V.str q.1::q.2.map iV)[i]? =some b->(a8 29 a/\a8 29 b)/\e6 29 a b:=λi a b c d=>by
  cases i with
  |zero=>cases c;cases d;exact⟨⟨.str _ _,.str _ _⟩,.str _ _ _⟩
  |succ i=>exact Ie 29 i a b c d
 exact .tup 29 _ _ (λi a b c d=>(e i a b c d).1) λi a b c d=>(e i a b c d).2
theorem xJ(R:Rep J S a g)(E:EI I UE cnt W g)(K:UE.length<=63)(hn:n<g.nd.length)(e:g.rp n=n):eN (F aU (k+4)) 393 [.ref (a .hp),iV n] S (pL g n):=by
 have p:=E.len.symm▸hn;have hz:=E.len.symm▸E.small K;refine jA (E.L.at_ n p e) λnd mem=>?_
 have r:∀b:List V,b.Perm ((g.aP.getD (g.rp n) []).map iV)->∀v,v∈b->∃j,v=iV j/\j<g.up.length/\g.rp j=n:=λb hm v m=>by refine ak (hr<|hm.mem_iff.mp m) λj c M=>?_;clear m;obtain rfl:=M;exact⟨j,rfl,(mem j).mp<|e▸c⟩
 have len:∀b:List V,b.Perm ((g.aP.getD (g.rp n) []).map iV)->b.length<=63:=λb hm=>hm.length_eq.symm▸bM (e.symm▸ah (E.L.small p e) hz);let f:V->V:=λv=>match v with| .int j=>aZ (bY g.rp<|g.nd.getD j.toNat ("",[]))|v=>v
 have w:∀{j:Nat}{q:Nd},g.nd[j]? =some q->f (iV j)=aZ (bY g.rp q):=λ{j q} h=>ar (λq=>aZ<|bY g.rp q) (by show g.nd.getD j _=q;refine Y eQ<|Y h ?_;rfl);have at_:∀{j},j<g.up.length->g.nd[j]? =some (g.nd.getD j ("",[])):=λh=>by refine Y eQ<|Y (cc<|E.len▸h) ?_;rfl
 refine nF Eh rfl<|(bN.pD (bN.map (f:=f) (.bP (.vr rfl) (R.get .hp _ rfl) (by kernel_rfl) (.one<|.vr rfl)<|Ic R E.U E.L hz p) (λb hm=>ah (len b hm) af) λb hm v m=>?_) λvs d=>?_).mono λws d=>?_
 .refine bE (r b hm v m) λj N c Z=>?_;clear m;obtain rfl:=N;exact w (at_ c)▸hW R (.vr rfl) (by kernel_rfl) (.one<|.vr rfl) (xd R E.B E.U (at_ c) λi hi=>E.len.symm▸E.iy (at_ c) hi)
 .refine ak d λb hm O=>?_;clear d;obtain rfl:=O
  have o:∀v∈b.map f,∃q:Nd,v=aZ q:=λv m=>by refine ak (bS.mp m) λu l P=>?_;obtain rfl:=P;refine ak (r b hm u l) λj Q Z=>?_;clear l m;obtain rfl:=Q;exact⟨_,rfl⟩
  refine⟨⟨bM<|len b hm,.inr ⟨λx A y C=>?_,.s,λv m=>?_⟩⟩,.t,λv m=>?_⟩
  .refine jE (o x A) λq T=>?_;clear A;obtain rfl:=T;refine jE (o y C) λX aa=>?_;clear C;obtain rfl:=aa;exact Ig q X
  .refine jE (o v m) λq ab=>?_;clear m;obtain rfl:=ab;exact .mk _ _<|.s _
  .refine jE (o v m) λq ac=>?_;clear m;obtain rfl:=ac;exact lk q
 .refine ak d λvs D on=>?_;refine ak D λb hm ad=>?_;clear D;obtain rfl:=ad;refine⟨on.1,ah on.len<|bM<|len b hm,λv=>(on.2 v).trans ⟨λh=>?_,λh=>?_⟩⟩
  .refine ak (bS.mp h) λu l ae=>?_;obtain rfl:=ae;refine bE (r b hm u l) λj ag c z=>?_;clear l h;obtain rfl:=ag;exact⟨j,_,at_ c,z,w<|at_ c⟩
  .refine b6 h λj q G z ai=>?_;clear h;obtain rfl:=ai;exact bS.mpr ⟨iV j,hm.mem_iff.mpr<|gm<|e.symm▸(mem j).mpr ⟨E.len.symm▸dW G,z⟩,w G⟩
theorem Ih{tb:i9}{pr:aG}{f:Addr}{a b:Nat}{ws:List V}{body:aG->aE}(h:tb f=some (a,b,body))(c:vs.length=a)(d:∀T,Sub S T->Sw T (dw vs b) (body (ea tb pr k)) λfl Z A=>∃r,eX fl= .ref r/\T r=none/\Sub (upd T r (.list ws)) A):Fn (ea tb pr (k+1)) f vs S ws:=λT s e j P p=>
 cT (K:=λv A=>∃r,v= .ref r/\T r=none/\Sub (upd T r<|.list ws) A) h c (d T s) e j P λv A l y m=>by refine bE y λr n g q=>?_;clear y;obtain rfl:=n;exact p r l g λi o z=>m i o<|q i o z
open Classical in
noncomputable def mt(g:G)(t:V)(c:Nat)(v:V):List V:=if Mine.ev (aO g) t=c then[v] else[]
theorem xK(g:G)(t:V)(c:Nat)(v:V):(mt g t c v).length<=1:=by unfold mt;split;exact Nat.le_refl _;exact Nat.zero_le _
theorem Ii(l:List V):(l.flatMap λv=>[v])=l:=(j6 id l).symm.trans<|List.map_id l
theorem Ij{a tb:V}{u:Nat}{b:List V}{d wk:Nat}{fs:List (Str×V)}(e:cH [9,10,0] 2 l=[some (iV u),some a,some (.ref wk),none,none])(f:S wk=some (.inst 453 fs))(i:Eg S l (vr 8) (.ref d))(g2:S d=some (.list b))(c:b=[tb]\/b=[])(j:Fn (F aU n) 438 [.ref wk,tb,iV u,a] S (mt g a u tb)):
  El S l (aS (aI<|vr 8) [9,10,0] 2 (aj 3) aK<|e9 (aI<|aX (F aU n) aY (vr 2) "extended"<|H (vr 3)<|H (vr 0)<|H (vr 1) aa) (aj 4) aK<|aR<|vr 4) (b.flatMap λZ=>mt g a u tb):=by
 have k:b.length<=1:=c.elim (λh=>h▸aM _) λh=>h▸a6 _;refine .comp (.list i g2) (λT s=>s _ _ g2) ?_ λv m=>?_
 .clear g2 k;rcases c with rfl|rfl
  .exact Y fh<|Y List.flatMap_nil<|Y (d2 ..)<|ah (xK _ _ _ _) dO
  .exact a6 _
 .obtain rfl:v=tb:=by
   rcases c with rfl|rfl
   .exact a3.mp m
   .exact bw m
  refine Y e<|.name<|Ii (mt g a u v)▸.w5 (.new<|.bP (.vr rfl) f (by kernel_rfl) (.cons (.vr rfl)<|.cons (.vr rfl)<|.one<|.vr rfl) j) λw Z=> .name<|.elt<|.vr rfl
theorem Ik{us:List Nat}{ts:List V}{v:V}{a:List V}(h:v::a=ir (us.map iV) ts):∃u b t c,us=u::b/\ts=t::c/\v= .tup [iV u,t]/\a=ir (b.map iV) c:=by
 cases us with
 |nil=>cases ts<;>exact eG h
 |cons u us=>cases ts with
  |nil=>exact eG h
  |cons t ts=>refine jA (b5 h) λd e=>?_;obtain rfl:=d;clear h;obtain rfl:=e;exact⟨u,us,t,ts,rfl,rfl,rfl,rfl⟩
inductive xM(S:TH)(sl:Nat->Option V->Option V->au)(tb:V)(ks:List V)(q:Nd)(g:G)(b:Nat)(c:List V)(l':au)(A:TH):Prop
 |mk (r:Nat) (a:List V) (us:List Nat) (ts:List V) (d e:Option V):A b=some .pair->Sub S A->l'=sl r d e->A r=some (.list a)->c=ir (us.map iV) ts->us.length=ts.length->(∀t∈ts,t∈ks)->(∀u∈us,u∈q.2)->(a=[tb]\/a=[])->(a=[tb]/\us=ts.map (Mine.ev<|aO g)↔q.2=ks.map (Mine.ev<|aO g))->xM S sl tb ks q g b c l' A
open Classical in
theorem Il{rest:aE}{Q:Fl->au->TH->Prop}{q:Nd}{tb pat k l:V}{o p C D:Option V}{s wk:Nat}{fs:List (Str×V)}(L:pat= .tup (.str op::ks))(E:ks.length<=2)(w:q.2.length=ks.length)(M:S wk=some (.inst 453 fs))(g2:S s=some (.list [tb]))
  (N:∀t∈ks,∀u∈q.2,∀A,Sub S A->Fn (F aU n) 438 [.ref wk,tb,iV u,t] A (mt g t u tb)) (h:∀A a b r,Sub S A->A r=some (.list (if q.2=ks.map (Mine.ev<|aO g) then[tb] else[]))->Sw A [some<|.ref wk,some tb,some k,some pat,some l,o,p,some<|aZ q,some<|.ref r,a,b] rest Q):
  Sw S [some<|.ref wk,some tb,some k,some pat,some l,o,p,some<|aZ q,some<|.ref s,C,D] (ag (forM (zipSrc (c4 (vr 7) 1)<|c4 (vr 3) 1) (cB 2<|bb (aj 9)<|bb (aj 10) cu)<|ag (aB (aj 8)<|aS (aI<|vr 8) [9,10,0] 2 (aj 3) aK<|e9 (aI<|aX (F aU n) aY (vr 2) "extended"<|H (vr 3)<|H (vr 0)<|H (vr 1) aa) (aj 4) aK<|aR<|vr 4) av) rest) Q:=by
 subst L;have O:q.2.length<=2:=w▸E
 refine .then (.w6 (xM S (λr a b=>[some (.ref wk),some tb,some k,some (.tup (.str op::ks)),some l,o,p,some (aZ q),some (.ref r),a,b]) tb ks q g)
  (.zip (.f9 (.vr rfl) ⟨aM _,kf _ _,ah (lj O) af⟩) (.f9 (.vr rfl) ⟨aM _,kf _ _,jc E⟩) (by show(q.2.map iV).length=ks.length;exact Y (aV ..) (Y w rfl))) (λy j=>?_) (λy P l' A x=>x.casesOn λZ Z Z Z Z Z h Z Z Z Z Z Z Z Z Z=>h) (λy v P l' A x=>?_) λy l' A x=>?_)
 .exact⟨s,[tb],q.2,ks,C,D,aJ,.new j,rfl,br j g2,rfl,w,λZ=>id,λZ=>id,.inl rfl,⟨λh=>h.2,λh=>⟨rfl,h⟩⟩⟩
 .cases x with|mk r R us ts a b j hs B gr d f G I i c=>
  subst B;refine cj (Ik d) λu us J=>?_;refine dE J λt ts T U W X=>?_;obtain rfl:=T;obtain rfl:=U;obtain rfl:=W;clear d J;obtain rfl:=X;refine .me<|.b8<|(Ij rfl (hs _ _ M) (.vr rfl) gr i<|N t (G t<|.head _) u (I u<|.head _) A hs).x λab K=> .pass ⟨ab,_,us,ts,_,_,br K j,hs.trans<|.new K,rfl,aJ,rfl,Nat.succ.inj f,λt m=>G t<|.tail _ m,λu m=>I u<|.tail _ m,?_,?_⟩
  .clear gr c;rcases i with rfl|rfl
   .refine Y fh<|Y List.flatMap_nil<|Y (d2 ..) ?_;unfold mt;split
    .exact .inl rfl
    .exact .inr rfl
   .exact .inr rfl
  .refine Y (propext c.symm) ?_;rcases i with rfl|rfl
   .refine Y fh (Y List.flatMap_nil<|Y (d2 ..)<|Y jC ?_);unfold mt;split
    .rename_i e;exact⟨λh=>⟨rfl,congr (ar _ e.symm) h.2⟩,λh=>⟨rfl,(b5 h.2).2⟩⟩
    .rename_i e;exact⟨λh=>(nomatch h.1),λh=>absurd (b5 h.2).1.symm e⟩
   .exact⟨λh=>(nomatch h.1),λh=>(nomatch h.1)⟩
 .cases x with|mk r R us ts a b Z hs B gr d f Z Z i c=>
  subst B;refine h A a b r hs ?_
  have nil:us=[]/\ts=[]:=by
   cases us with
   |nil=>exact⟨rfl,List.length_eq_zero_iff.mp f.symm⟩
   |cons u us=>clear c;cases ts with
    |nil=>cases f
    |cons t ts=>cases d
  refine jA nil λac ad=>?_;obtain rfl:=ac;clear d f nil;obtain rfl:=ad;rcases i with rfl|rfl
  .exact Y (az<|c.mp ⟨rfl,rfl⟩) gr
  .exact Y (ay λz=>nomatch (c.mpr z).1) gr
open Classical in
theorem Im(C:Cl I UE cnt g)(d:c<g.nd.length){ws:List V}(b:pL g c ws){v:V}:mt g (.tup (.str op::ks)) c v=if aZ (op,ks.map (Mine.ev (aO g)))∈ws then[v] else[]:=by
 unfold mt;refine Y (fJ ..) ?_;by_cases h:aZ (op,ks.map<|Mine.ev<|aO g)∈ws
 .refine b6 ((b.2.2 _).mp h) λn p hn f e=>?_;have e:=ka e;have a:=C.at hn;rw[show p.1=op from(ar Prod.fst e).symm,show p.2.map g.rp=ks.map (Mine.ev<|aO g) from(ar Prod.snd e).symm] at a;exact Y (az h)<|Y (az<|a.trans f) rfl
 .rw[ay h,ay λe=>h ?_];refine cq ((lr g op _).resolve_left<|e▸bk d) λn p hn e'=>?_;have a:=C.at hn;rw[show p.1=op from ar Prod.fst e',show p.2.map g.rp=ks.map (Mine.ev<|aO g) from ar Prod.snd e',e] at a;exact(b.2.2 _).mpr ⟨n,p,hn,a.symm,ar aZ e'.symm⟩
theorem pM(p:Prop)[Decidable p](x:V):(if p then[x] else[]).length<=1:=by split;exact aM _;exact a6 _
open Classical in
theorem acc_step{X v tb:V}{ws a:List V}(b:v∈ws)(nd:v∉a):(if X∈ws/\X∉v::a then[tb] else[])++(if X=v then[tb] else[])=if X∈ws/\X∉a then[tb] else[]:=by
 by_cases e:X=v
 .subst e;refine Y (ay λz:X∈ws/\X∉X::a=>z.2<|.head _)<|Y (az rfl)<|Y (az ⟨b,nd⟩) ?_;rfl
 .refine Y (ay e) (Y (d2 ..) ?_);by_cases h:X∈ws/\X∉a
  .exact Y (az h)<|Y (az ⟨h.1,λz=>(ba.mp z).elim e h.2⟩) rfl
  .exact Y (ay h)<|Y (ay λz=>h ⟨z.1,λw=>z.2<|.tail _ w⟩) rfl
open Classical in
inductive xN(T:TH)(sl:Option V->Option V->Option V->Option V->au)(b:Nat)(X tb:V)(g:G)(c d:Nat)(ws a:List V)(l':au)(A:TH):Prop
 |mk (e f h i:Option V):A d=some (.list ws)->Sub T A->A b=some (.list (if X∈ws/\X∉a then[tb] else[]))->d≠b->pL g c ws->a.Nodup->(∀v∈a,v∈ws)->l'=sl e f h i->xN T sl b X tb g c d ws a l' A
open Classical in
theorem Io(an:UE.length<=63){n:Nat}{t:V}(ao:Tu UE n t)(C:Cl I UE cnt g){wk:Nat}{tb:V}:∀{S c},Rep J S a g->S wk=some (.inst 453 (kg a))->c<g.nd.length->g.rp c=c->Fn (F aU (k+n+5)) 438 [.ref wk,tb,iV c,t] S (mt g t c tb):=by
 induction ao with
 |mk n op ks ap P hm _ aq=>
  intro S c R y ag as;refine Ih rK rfl λT s=>?_;have R:=R.sup s;have y:=s _ _ y;refine .asg (.eu (j:=0) (.vr rfl) .cst rfl<|jd P)<|.guard (.call (.one<|.vr rfl)<|nG ap P) (λt=>nomatch t) λZ=> .b8<|(El.lst .nil<|a6 _).x λD f=>?_;have G:=R.sup<|.new (o:= .list []) f
  refine .then (.sr (xN T (λW K L M=>[some (.ref wk),some tb,some (iV c),some (.tup (.str op::ks)),some (.str op),none,some (.ref D),W,K,L,M]) D (aZ (op,ks.map (Mine.ev (aO g)))) tb g c)
   (.bP (.attr (.vr rfl) (br f y) (mn a)) (G.get .hp _ rfl) (by kernel_rfl) (.one (.vr rfl)) (xJ G C.E an ag as)) (λws ab d ac=>?_) (λab ws au l' A x=>x.casesOn λZ Z Z Z h Z Z Z Z Z Z Z=>h) (λab ws v au l' A x=>?_) λab ws l' A x=>?_)
  .refine⟨none,none,none,none,aJ,λi o z=>br ac<|br f z,br ac ?_,cO<|e0 ac aJ,d,d.1,λZ=>id,rfl⟩;exact Y (ay λz:aZ (op,ks.map<|Mine.ev<|aO g)∈ws/\aZ (op,ks.map<|Mine.ev<|aO g)∉ws=>z.2 z.1) aJ
  .cases x with|mk W K L M ad b O ne N nd Q ae=>
   subst ae;have nd:=gX.mp nd;refine b6 ((N.2.2 v).mp<|Q v<|.head _) λj q ai aN av=>?_;obtain rfl:=av;have fw:=(C.E.B.fw j q ai).1;have aj:(bY g.rp q).2.length<=2:=bM fw;have G:=R.sup b;have st:=acc_step (X:=aZ (op,ks.map<|Mine.ev<|aO g)) (tb:=tb) (Q _<|.head _) nd.1;have aw:Eg A [some<|.ref wk,some tb,some<|iV c,some<|.tup<|.str op::ks,some<|.str op,none,some<|.ref D,some<|aZ<|bY g.rp q,K,L,M] (aH .Eq (ax (vr 7)<|Mine.cst<|.int 0)<|vr 4) (.bool<|decide<|q.1=op):= .j5 (.eu (j:=0) (.vr rfl) .cst rfl<|ah (lj aj) af)<|.vr rfl;have aA:Eg A [some<|.ref wk,some tb,some<|iV c,some<|.tup<|.str op::ks,some<|.str op,none,some<|.ref D,some<|aZ<|bY g.rp q,K,L,M] (aH .Eq (aC (aD .len)<|H (vr 7) aa)<|aC (aD .len)<|H (vr 3) aa) (.bool<|decide _):= .fu (.l8 (vs:= .str q.1::(bY g.rp q).2.map iV) (.vr rfl)<|ah (lj aj) af)<|.l8 (vs:= .str op::ks) (.vr rfl)<|jc P;refine .dF<|.then (.ite (.and aw λZ=>aA) (λt=>?_) λt=> .pass<|.pass ⟨_,_,_,_,ad,b,?_,ne,N,nd.2,λv m=>Q v<|.tail _ m,rfl⟩)
   .have t:=fe.mp t;have aB:=cf t.1
    have aE:(bY g.rp q).2.length=ks.length:=by have z:=ih<|cf t.2;rw[fS,fS,aV] at z;exact Nat.succ.inj z
    have e:(if(bY g.rp q).2=ks.map (Mine.ev<|aO g) then[tb] else[])=if aZ (op,ks.map<|Mine.ev<|aO g)=aZ (bY g.rp q) then[tb] else[]:=by
     by_cases z:(bY g.rp q).2=ks.map (Mine.ev<|aO g)
     .exact Y (az z)<|Y (az<|ar aZ<|Prod.ext aB.symm z.symm) rfl
     .exact Y (ay z)<|Y (ay λw=>z (ar Prod.snd<|ka w).symm) rfl
    refine .b8<|(El.lst (.one<|.vr rfl) dO).x λaP p=>Il (g:=g) (q:=bY g.rp q) (tb:=tb) rfl P aE (br p<|b _ _ y) aJ (λaF m u al aG s1=>?_) λaG aR aS r s1 gr=> .dp<|.extend (.vr rfl) (s1 _ _<|br p O) (.vr rfl) gr ?_<|.pass<|.pass ⟨_,_,_,_,?_,λi o z=>?_,?_,ne,N,nd.2,λv m=>Q v<|.tail _ m,rfl⟩
    .refine ak (bS.mp al) λi hi aI=>?_;clear al;obtain rfl:=aI;have am:=C.E.iy ai hi;exact aq aF m (G.sup<|(Sub.new p).trans s1) (s1 _ _<|br p<|b _ _ y) (C.E.c5 am)<|C.E.U.rr i<|C.E.len.symm▸am
    .exact ah (c7 (pM _ _)<|pM _ _) dA
    .exact(bC ne).trans<|s1 _ _<|br p ad
    .exact Y (bC<|e0 f z)<|s1 _ _<|br p<|b _ _ z
    .exact Y aJ<|Y e<|Y st rfl
   .refine Y O (Y st.symm<|ar (λl=>some<|aQ.list l) ?_);rw[ay (c:=aZ (op,ks.map<|Mine.ev<|aO g)=aZ (bY g.rp q)),d2];intro z;have z:=ka z;have aK:op=q.1:=ar Prod.fst z;have aL:ks.map (Mine.ev<|aO g)=(bY g.rp q).2:=ar Prod.snd z;rw[bJ aK.symm,Bool.true_and] at t;refine fB t<|ar Int.ofNat ?_;exact Y fS<|Y fS<|Y (aV ..)<|Y aL.symm<|Y (aV ..) rfl
  .cases x with|mk W K L M ad b aM ne N Z Z ae=>
   subst ae;refine .dz (.vr rfl) ⟨D,rfl,f,λi o z=>?_⟩;unfold upd at z;split at z
   .rename_i e;clear f G ne;subst e;refine Y z.symm<|Y aM<|Y (Im C ag N) ?_;by_cases h:aZ (op,ks.map<|Mine.ev<|aO g)∈ws
    .exact Y (az h)<|Y (az ⟨h,nofun⟩) rfl
    .exact Y (ay h)<|Y (ay λz=>h z.1) rfl
   .exact b i o z
end
section
variable{N:Nat}{J:bg->Prop}{UE:List V}{cnt:Nat}{U:List Nat}{k:Nat}{O S A T:TH}{a a':Ro->Nat}{g g' I:G}{l:au}{e e':M}{n m c d x y:Nat}{p:Nd}{v w t:V}{K:V->TH->Prop}{op u u':Str}{cs:List Nat}{ks vs items:List V}{src:cK}{js:List Nat}{i r:Nat}{D:List V->Prop}{ds:List (V×V)}
theorem Ex.oB(h:Eg S l e (.ref r))(g:S r=some (.dict .s ds))(b:ds.length<=aF)(k:∀d,S d=none->K (.ref d) (upd S d (.dict .s ds))):Ex S l (aC (aD .dict) (H e aa)) K:=λc f P p=>h S (.refl S) c f _ λi a=> .inr ⟨.s,ds,a _ _ g,rfl,b,p _ _ _ (k _ a.cv) a.new⟩
theorem Ex.pN(kk:KK)(k:∀d,S d=none->K (.ref d) (upd S d (.dict kk []))):Ex S l gF K:=λb a P p=>⟨kk,p _ _ _ (k _ a.cv) a.new⟩
theorem El.Ip{b:Bool}{c f:M}(h:Eg S l c (.bool b))(a:b=true)(d:El S l e vs):El S l (eI c e f) vs:=λT s g i P k=>h T s g i _ λj m=>by clear h;subst a;exact d T s j m P k
theorem ew(x:Str):bK .s (.str x):= .s x
theorem Iq(n:u∈cw){wk one:Nat}(c:S one=some (.dict .s ds))(p:ds.length<=1)(hd:aW ds (.str u)=none)(h:∀d r A,Sub S A->A d=some (.dict .s (bD ds (.str u) (iV x)))->A r=some (.list [.ref d])->K (.ref r) A):Fx (F aU (k+2)) 438 [.ref wk,.ref one,iV x,.tup [.str u]] S K:=by
 have g:ds.length<=aF:=ah p dO;refine cT rK rfl<|.asg (.eu (vs:=[.str u]) (j:=0) (.vr rfl) .cst rfl (by decide:1<=1000000))<|.guard (.call (.one<|.vr rfl)<|sJ n) (λZ=> .b8<|.oB (.vr rfl) c g λd f=>?_) λt=>(e4 t);refine .gL<|(Eg.vr rfl).x ⟨d,.s,ds,.str u,.vr rfl,.vr rfl,aJ,⟨ew u,g⟩,?_⟩;have ne:one≠d:=e0 f c
 have gt:Eg (upd (upd S d<|.dict .s ds) d<|.dict .s<|bD ds (.str u)<|iV x) [some<|.ref wk,some<|.ref one,some<|iV x,some<|.tup [.str u],some<|.str u,some<|.ref d,none,none,none,none,none] (bB (bG .get) (bH .get) (vr 1)<|H (vr 4)<|H (vr 2) aa) (iV x):=by have z:=Eg.getD (S:=upd (upd S d<|.dict .s ds) d<|.dict .s<|bD ds (.str u)<|iV x) (l:=[some<|.ref wk,some<|.ref one,some<|iV x,some<|.tup [.str u],some<|.str u,some<|.ref d,none,none,none,none,none]) (e:=vr 1) (a:=vr 4) (b:=vr 2) (.vr rfl) ((bC ne).trans<|(bC ne).trans c) (.vr rfl) (.vr rfl)<|ew u;rw[hd] at z;exact z
 refine .iw<|El.x (.Ip (.fu gt<|.vr rfl) (bJ rfl)<|.lst (.one<|.vr rfl) dO) λr m=>h d r _ (λi o z=>br m ?_) (br m aJ) aJ;exact Y (bC<|e0 f z)<|Y (bC<|e0 f z) z
theorem xO(i:u∈cw){wk one:Nat}{fs:List (Str×V)}(j:cH [9,10,0] 2 l=[some (iV x),some (.tup [.str u]),some (.ref wk),none,none])(m:S wk=some (.inst 453 fs)){g:M}(n:Eg S l g (.ref r))(g2:S r=some (.list [.ref one]))(o:S one=some (.dict .s ds))(p:ds.length<=1)(hd:aW ds (.str u)=none)
  (h:∀d r A,Sub S A->A d=some (.dict .s<|bD ds (.str u)<|iV x)->A r=some (.list [.ref d])->K (.ref r) A):Ex S l (aS (aI g) [9,10,0] 2 (aj 3) aK<|e9 (aI<|aX (F aU<|k+2) aY (vr 2) "extended"<|H (vr 3)<|H (vr 0)<|H (vr 1) aa) (aj 4) aK<|aR<|vr 4) K:=λt w P q=>n S (.refl S) t w _ λy c=>by
 refine .inr<|.inl ⟨_,c _ _ g2,?_⟩;refine Y j ?_
 have B:Ex S [some<|iV x,some<|.tup [.str u],some<|.ref wk,some<|.ref one,none] (aX (F aU<|k+2) aY (vr 2) "extended"<|H (vr 3)<|H (vr 0)<|H (vr 1) aa) λv A=>∃d r,v= .ref r/\Sub S A/\A d=some (.dict .s<|bD ds (.str u)<|iV x)/\A r=some (.list [.ref d]):=
  .bP (f:=438) (.vr rfl) m (by kernel_rfl) (Es.x (.cons (.vr rfl)<|.cons (.vr rfl)<|.one<|.vr rfl)<|Iq i o p hd λd r A s e b=>⟨d,r,rfl,s,e,b⟩)
 refine⟨c _ _ g2,B y c _ λv A C z a=>?_⟩;refine dE z λd E D s e b=>?_;clear z;obtain rfl:=D;exact .inr<|.inl ⟨_,a _ _ b,a _ _ b,(by decide:0<aF),a _ _ b,a _ _<|s _ _ g2,q _ _ _ (h d _ (upd A C.length<|.list [.ref d]) (s.trans<|.new a.cv) (br a.cv e) aJ) a.new⟩
noncomputable def cx(u u':Str):V:= .tup [.str "g",.tup [.str u],.tup [.str u']]
noncomputable def hX(u u':Str)(x y:Nat):List (V×V):=[(.str u,iV x),(.str u',iV y)]
theorem sL(h:u≠u')(x y:Nat):bD (bD [] (.str u) (iV x)) (.str u') (iV y)=hX u u' x y:=by
 open Classical in
 show(if V.str u=V.str u' then _ else _)=_;refine Y (ay λe=>h<|V.str.inj e) ?_;rfl
theorem Ir(h:u≠u')(x:Nat):aW (bD [] (.str u) (iV x)) (.str u')=none:=by
 open Classical in
 show(if V.str u=V.str u' then _ else _)=_;refine Y (ay λe=>h<|V.str.inj e) ?_;rfl
noncomputable def Nx(g:G)(c x y:Nat):Prop:=∃(n:Nat)(p:Nd),g.nd[n]? =some p/\g.rp n=c/\bY g.rp p=(("g":Str),[x,y])
structure lu(S:TH)(L:List V)(R a:List (V×V)->Prop):Prop where
 ok:∀w∈L,∃d es,w= .ref d/\S d=some (.dict .s es)/\R es
 all:∀es,a es->∃d,V.ref d∈L/\S d=some (.dict .s es)
theorem lu.sub{R a:List (V×V)->Prop}{L:List V}(h:lu S L R a)(s:∀d es,S d=some (.dict .s es)->T d=some (.dict .s es)):lu T L R a:=⟨λw m=>(h.ok w m).imp λd=> .imp λes z=>⟨z.1,s _ _ z.2.1,z.2.2⟩,λes b=>(h.all es b).imp λd z=>⟨z.1,s _ _ z.2⟩⟩
noncomputable def mq(u u':Str)(N:Nat->Nat->Prop)(es:List (V×V)):Prop:=∃x y,es=hX u u' x y/\N x y
inductive xP(T:TH)(sl:Option V->Option V->Option V->Option V->au)(b:Nat)(u u':Str)(g:G)(c d:Nat)(ws a:List V)(l':au)(A:TH):Prop
 |mk (e f h i:Option V) (L:List V):A d=some (.list ws)->Sub T A->A b=some (.list L)->d≠b->pL g c ws->(∀v∈a,v∈ws)->lu A L (mq u u'<|Nx g c) (mq u u' λx y=>Nx g c x y/\aZ (("g":Str),[x,y])∉a)->L.length+a.length<=63->l'=sl e f h i->xP T sl b u u' g c d ws a l' A
theorem xQ{es:List (V×V)}{L L':List V}{a:Nat}(h:S a=some (.list L))(d:Nat)(q:S d=some (.dict .s es)):upd S a (.list L') d=some (.dict .s es):=by rw[bC];exact q;rintro rfl;exact nomatch h.symm.trans q
theorem Sw.It{t:Mt}{q:aE}{Q:Fl->au->TH->Prop}{m n:V}{o:aQ}(hs:hV S l src [m,n] o)(h:∀r,S r=none->Sw (upd S r o) l (Mine.dF t q m) λf c a=>match f with| .next=>a r=some o/\Sw a c (Mine.dF t q n) (λf d b=>match f with| .next=>b r=some o/\Q .next d b| .ret v=>Q (.ret v) d b)| .ret v=>Q (.ret v) c a):Sw S l (forM src t q) Q:=
 λw x P k=>hs S (.refl S) w x _ λr ok y e p g=>⟨g _ _ p aJ,h r e y p _ λf c a s z i=>match f,z with
  | .ret v,z=>k _ _ _ s z i
  | .next,z=>⟨g _ _ i z.1,z.2 s i _ λf d b u z j=>match f,z with
   | .ret v,z=>k _ _ _ u z j
   | .next,z=>⟨g _ _ j z.1,k _ _ _ u z.2 j⟩⟩⟩
theorem Iu{rest:aE}{Q:Fl->au->TH->Prop}(m:u∈cw)(n:u'∈cw)(ne:u≠u'){wk tb:Nat}{fs:List (Str×V)}(c:S wk=some (.inst 453 fs))(p:S tb=some (.dict .s [])){e:V}{f g j q t v:Option V}(h:∀A d r w B,Sub S A->A d=some (.dict .s (hX u u' x y))->A r=some (.list [.ref d])->Sw A [some (.ref wk),some (.ref tb),some e,some (cx u u'),f,g,j,some (aZ (("g":Str),[x,y])),some (.ref r),w,B] rest Q):
  Sw S [some<|.ref wk,some<|.ref tb,some e,some<|cx u u',f,g,j,some<|aZ (("g":Str),[x,y]),q,t,v] (ag (aB (aj 8)<|cg<|H (vr 1) aa)<|ag (forM (zipSrc (c4 (vr 7) 1)<|c4 (vr 3) 1) (cB 2<|bb (aj 9)<|bb (aj 10) cu)<|ag (aB (aj 8)<|aS (aI<|vr 8) [9,10,0] 2 (aj 3) aK<|e9 (aI<|aX (F aU<|k+2) aY (vr 2) "extended"<|H (vr 3)<|H (vr 0)<|H (vr 1) aa) (aj 4) aK<|aR<|vr 4) av) rest) Q:=by
 refine .b8<|(El.lst (.one<|.vr rfl) dO).x λE b=> .then (.It (.zip (vs:=[.str "g",iV x,iV y].drop 1) (ws:=[V.str "g",.tup [.str u],.tup [.str u']].drop 1) (.f9 (.vr rfl) (by decide:1<=1/\1<=3/\3<=aF)) (.f9 (.vr rfl) (by decide:1<=1/\1<=3/\3<=aF)) rfl) λG a=>?_);refine .me<|.b8<|xO m rfl (br a<|br b c) (.vr rfl) (br a aJ) (br a<|br b p) (a6 _) rfl λd r C s1 gd gr=> .pass ⟨s1 _ _ aJ,?_⟩;have l:Sub S C:=λi o z=>s1 _ _<|br a<|br b z;exact .me<|.b8<|xO n rfl (l _ _ c) (.vr rfl) gr gd (aM _) (Ir ne x) λd r D s2 gd gr=> .pass ⟨s2 _ _<|s1 _ _ aJ,h D d r _ _ (l.trans s2) (sL ne x y▸gd) gr⟩
theorem Iv(al:UE.length<=63)(C:Cl J UE cnt g)(am:u∈cw)(an:u'∈cw)(ne:u≠u'){wk tb:Nat}(R:Rep O S a g)(ac:S wk=some (.inst 453 (kg a)))(ao:S tb=some (.dict .s []))(ap:c<g.nd.length)(aq:g.rp c=c)
  (h:∀A r L,Sub S A->A r=some (.list L)->lu A L (mq u u'<|Nx g c) (mq u u'<|Nx g c)->L.length<=63->K (.ref r) A):Fx (F aU<|k+5) 438 [.ref wk,.ref tb,iV c,cx u u'] S K:=by
 refine cT rK rfl<|.asg (.eu (vs:=[.str "g",.tup [.str u],.tup [.str u']]) (j:=0) (.vr rfl) .cst rfl (by decide:3<=1000000))<|.guard (.call (.one<|.vr rfl)<|nG (op:="g") (by decide+kernel)<|aM 2) (λt=>nomatch t) λZ=> .b8<|(El.lst .nil<|a6 _).x λf M=>?_;have ad:=R.sup<|.new (o:= .list []) M
 refine .then (.sr (xP S (λT l D G=>[some (.ref wk),some (.ref tb),some (iV c),some (cx u u'),some (.str "g"),none,some (.ref f),T,l,D,G]) f u u' g c)
  (.bP (.attr (.vr rfl) (br M ac) (mn a)) (ad.get .hp _ rfl) (by kernel_rfl) (.one (.vr rfl)) (xJ ad C.E al ap aq)) (λws U d V=>?_) (λU ws ae l' A x=>x.casesOn λZ Z Z Z Z h Z Z Z Z Z Z Z Z=>h) (λU ws v ae l' A x=>?_) λU ws l' A x=>?_)
 .refine⟨none,none,none,none,[],aJ,λi o z=>br V<|br M z,br V aJ,cO<|e0 V aJ,d,λZ=>id,⟨nofun,λes z=>?_⟩,(eE _).symm▸d.2.1,rfl⟩;obtain⟨x,y,_,⟨n,p,as,au,av⟩,aw⟩:=z;exact absurd ((d.2.2 _).mpr ⟨n,p,as,au,ar aZ av.symm⟩) aw
 .cases x with|mk T l D G L ag b I W N X bc len ab=>
  subst ab;obtain⟨j,q,ai,ay,rfl⟩:=(N.2.2 v).mp<|X v<|.head _;have aj:(bY g.rp q).2.length<=2:=bM (C.E.B.fw j q ai).1;have az:Eg A [some<|.ref wk,some<|.ref tb,some<|iV c,some<|cx u u',some<|.str "g",none,some<|.ref f,some<|aZ<|bY g.rp q,l,D,G] (aH .Eq (ax (vr 7)<|Mine.cst<|.int 0)<|vr 4) (.bool<|decide<|q.1="g"):= .j5 (.eu (j:=0) (.vr rfl) .cst rfl<|ah (lj aj) af)<|.vr rfl;have aA:Eg A [some<|.ref wk,some<|.ref tb,some<|iV c,some<|cx u u',some<|.str "g",none,some<|.ref f,some<|aZ<|bY g.rp q,l,D,G] (aH .Eq (aC (aD .len)<|H (vr 7) aa)<|aC (aD .len)<|H (vr 3) aa) (.bool<|decide _):= .fu (.l8 (vs:= .str q.1::(bY g.rp q).2.map iV) (.vr rfl)<|ah (lj aj) af)<|.l8 (vs:=[.str "g",.tup [.str u],.tup [.str u']]) (.vr rfl) (by decide:3<=aF);have ak:L.length+1+ae.length<=63:=ah (bF<|d0 _ 1 _) len;refine .dF<|.then (.ite (.and az λZ=>aA) (λt=>?_) λt=> .pass<|.pass ⟨_,_,_,_,L,ag,b,I,W,N,λv m=>X v<|.tail _ m,⟨bc.ok,λes z=>?_⟩,ah (fk _) len,rfl⟩)
  .have t:=fe.mp t;have aB:=cf t.1
   have aE:(bY g.rp q).2.length=2:=by have z:=ih<|cf t.2;rw[fS,aV] at z;exact Nat.succ.inj z
   obtain⟨x,y,e⟩:∃x y,bY g.rp q=(("g":Str),[x,y]):=by
    match h:(bY g.rp q).2,aE with
    |[x,y],_=>exact⟨x,y,Prod.ext aB h⟩
   refine Y e<|Iu am an ne (b _ _ ac) (b _ _ ao) λaK d r Z Z s1 gd gr=> .dp<|.extend (.vr rfl) (s1 _ _ I) (.vr rfl) gr (ah (ah (cp _ _) ak) af)<|.pass<|.pass ⟨_,_,_,_,L++[.ref d],(bC W).trans<|s1 _ _ ag,λi o z=>?_,aJ,W,N,λv m=>X v<|.tail _ m,?_,?_,rfl⟩
   .exact Y (bC<|e0 M z)<|s1 _ _<|b _ _ z
   .have bc:=bc.sub (λaG es z=>xQ (L':=L++[.ref d]) (s1 _ _ I) aG<|s1 _ _ z);have gd:=xQ (L':=L++[.ref d]) (s1 _ _ I) d gd;refine⟨λw m=>?_,λes z=>?_⟩
    .refine Or.elim (cD.mp m) (λm=>?_) λm=>?_
     .exact bc.ok w m
     .exact⟨d,_,a3.mp m,gd,x,y,rfl,j,q,ai,ay,e⟩
    .obtain⟨P,Q,rfl,nx,z⟩:=z;by_cases w:aZ (("g":Str),[P,Q])=aZ (("g":Str),[x,y])
     .obtain⟨rfl,aI⟩:=b5 (ar Prod.snd<|ka w);clear e w;obtain⟨rfl,_⟩:=b5 aI;exact⟨d,dS _<|.head _,gd⟩
     .exact(bc.all _ ⟨P,Q,rfl,nx,λm=>(ba.mp m).elim (λq=>w<|e▸q) z⟩).imp λd z=>⟨dJ _ z.1,z.2⟩
   .exact Y a0 ak
  .obtain⟨P,Q,rfl,nx,z⟩:=z;refine bc.all _ ⟨P,Q,rfl,nx,λm=>(ba.mp m).elim (λw=>?_) z⟩;have w:=ka w;rw[bJ (show q.1="g" from(ar Prod.fst w).symm),Bool.true_and] at t;refine fB t ?_;refine Y w.symm ?_;rfl
 .cases x with|mk T l D G L Z b I Z Z Z bc len ab=>subst ab;exact .dz (.vr rfl)<|h A f L b I ⟨bc.ok,λes z=>bc.all es<|z.imp λx=> .imp λy w=>⟨w.1,w.2,nofun⟩⟩ len
end
section
variable{N:Nat}{A:bg->Prop}{UE:List V}{cnt:Nat}{J:List Nat}{k:Nat}{B S j T:TH}{a a':Ro->Nat}{g g' O:G}{l:au}{e e' b:M}{n m c d x y:Nat}{p:Nd}{v w t:V}{K:V->TH->Prop}{op u u':Str}{cs:List Nat}{ks vs items:List V}{src:cK}{js:List Nat}{i r:Nat}{D:List V->Prop}{ds es:List (V×V)}{Q:Fl->au->TH->Prop}{q rest:aE}
inductive hY(UE:List V)(g:G):V->(Nat->List (V×V)->Prop)->Prop
 |gr (t:V):Tu UE 3 t->hY UE g t λc es=>es=[]/\Mine.ev (aO g) t=c
 |sw (u u':Str):u∈cw->u'∈cw->u≠u'->hY UE g (cx u u') λc=>mq u u'<|Nx g c
variable{R:Nat->List (V×V)->Prop}
theorem Iw(d:UE.length<=63)(C:Cl A UE cnt g)(hp:hY UE g t R){wk tb:Nat}(f:Rep B S a g)(i:S wk=some (.inst 453 (kg a)))(b:S tb=some (.dict .s []))(l:c<g.nd.length)(n:g.rp c=c)
  (h:∀j r L,Sub S j->j r=some (.list L)->lu j L (R c) (R c)->L.length<=63->K (.ref r) j):Fx (F aU<|k+8) 438 [.ref wk,.ref tb,iV c,t] S K:=by
 cases hp with
 |gr _ o=>
  refineλp v P q=>Io (k:=k) d o C (tb:= .ref tb) f i l n S (.refl S) p v P λr x e y=>q _ _ x (h (upd S r<|.list<|mt g t c<|.ref tb) r _ (.new e) aJ ⟨λw m=>?_,λes z=>?_⟩<|ah (xK _ _ _ _) af) y
  .unfold mt at m;split at m
   .rename_i z;exact⟨tb,[],a3.mp m,br e b,rfl,z⟩
   .exact bw m
  .obtain⟨rfl,z⟩:=z;refine⟨tb,?_,br e b⟩;unfold mt;exact Y (if_pos z)<|.head _
 |sw u u' D E ne=>exact Iv (k:=k+3) d C D E ne f i b l n h
noncomputable def Sn(es:List (V×V)):Prop:=es.length<=2/\∀e∈es,∃s n,e=(V.str s,iV n)
theorem hY.sn(hp:hY UE g t R)(h:R c es):Sn es:=by
 cases hp with
 |gr=>refine jA h λa Z=>?_;clear h;obtain rfl:=a;exact⟨a6 _,(λZ=>bw)⟩
 |sw=>refine cq h λx y b Z=>?_;clear h;obtain rfl:=b;exact⟨aM _,λe m=>by
   rcases ba.mp m with rfl|m
   .exact⟨_,_,rfl⟩
   .exact⟨_,_,a3.mp m⟩⟩
theorem hY.one(hp:hY UE g t R):(∀c es,R c es->es=[])\/∀c es,R c es->es≠[]:=by
 cases hp with
 |gr=>exact .inl λc es h=>h.1
 |sw=>exact .inr λc es h=>by refine cq h λx y a Z=>?_;clear h;obtain rfl:=a;exact nofun
noncomputable def Sp(s:List V):Prop:=∀v∈s,∃x n,v= .tup [.str x,iV n]
theorem Sn.sp(h:Sn es){s:List V}(p:s.Perm (dx es)):Sp s:=λv m=>by refine ak (bS.mp<|p.mem_iff.mp m) λe a b=>?_;obtain rfl:=b;refine cj (h.2 e a) λx n c=>?_;clear a m;obtain rfl:=c;exact⟨x,n,rfl⟩
theorem xR(n:Nat)(x e:Str)(m f:Nat):e6 (n+1) (.tup [.str x,iV m]) (.tup [.str e,iV f]):=by
 have g:∀(i:Nat) a b,[V.str x,iV m][i]? =some a->[V.str e,iV f][i]? =some b->(a8 n a/\a8 n b)/\e6 n a b:=λi a b c d=>by
  match i with
  |0=>cases c;cases d;exact⟨⟨.str _ _,.str _ _⟩,.str _ _ _⟩
  |1=>cases c;cases d;exact⟨⟨.int _ _,.int _ _⟩,.int _ _ _⟩
  |i+2=>exact a4 c
 exact .tup n _ _ (λi a b c d=>(g i a b c d).1) λi a b c d=>(g i a b c d).2
theorem sM(n:Nat)(x:Str)(m:Nat):a8 (n+1) (.tup [.str x,iV m]):= .tup n _ λv h=>by
 rcases ba.mp h with rfl|h
 .exact .str _ _
 .exact Y (a3.mp h)<|.int _ _
theorem Iy{s e:List V}(h:Sp s)(g:Sp e):e6 30 (.tup s) (.tup e):=by
 have f:∀(i:Nat) a b,s[i]? =some a->e[i]? =some b->(a8 29 a/\a8 29 b)/\e6 29 a b:=λi a b c d=>by refine cj (h a<|bI c) λx n j=>?_;clear c;obtain rfl:=j;refine cj (g b<|bI d) λl m k=>?_;clear d;obtain rfl:=k;exact⟨⟨sM 28 _ _,sM 28 _ _⟩,xR 28 _ _ _ _⟩
 exact .tup 29 _ _ (λi a b c d=>(f i a b c d).1) λi a b c d=>(f i a b c d).2
theorem Iz{s:List V}(h:Sp s):bK .t (.tup s):= .t _ (.tup 6 _ λv m=>by refine cj (h v m) λx n a=>?_;clear m;obtain rfl:=a;exact sM 5 x n)
theorem Ex.IA(h:Eg S l e (.ref r))(i:S r=some (.dict .s es))(hs:Sn es)(k:∀s:List V,s.Perm (dx es)->K (.tup s) S):Ex S l (aC (aD .tuple) (H (dV oy e) aa)) K:=λj o P q=>h S (.refl S) j o _ λy c=>by
 have d:(dx es).length<=2:=bM hs.1;have sp:Sp (dx es):=hs.sp<|.refl _;refine⟨.s,es,c _ _ i,b0 hs.1 af,.inr ⟨⟨b0 d af,λa f b g=>?_,.inr<|.inr ⟨.s,λv m=>?_⟩⟩,λs p=> .inr ⟨s,fq _ _,ah (p.length_eq▸d) af,q _ _ _ (k s p)<|c.new.weak c.cv⟩⟩⟩
 .refine cj (sp a f) λx n t=>?_;clear f;obtain rfl:=t;refine cj (sp b g) λz A u=>?_;clear g;obtain rfl:=u;exact xR 29 _ _ _ _
 .refine cj (sp v m) λx n w=>?_;clear m;obtain rfl:=w;exact .mk _ _<|.s _
theorem Sw.IB{t:M}(h:Eg S l e v)(c:Eg S l t (.ref r)){kk:KK}(q:S r=some (.dict kk ds))(d:ds.length<=aF)(f:Ex S l b λw j=>j r=some (.dict kk ds)/\bK kk w/\Sw (upd j r (.dict kk (bD ds w v))) l rest Q):Sw S l (ag (aB (e8 t b) e) rest) Q:=λg i P p=>h S (.refl S) g i _ λk m=>c S (.refl S) k m _ λn o=>f n o _ λw j s z a=> .inr ⟨kk,ds,a _ _ z.1,z.2.1,d,z.2.2 _ (a.put z.1) P p⟩
theorem Sw.IC{t:Mt}(I:Nat->List V->List V->au->TH->Prop)(h:Ex S l e λv j=>∃r L,v= .ref r/\j r=some (.list L)/\I r L L l j)(g:∀r vs a l S,I r vs a l S->S r=some (.list vs))
  (step:∀r vs v a l S,I r vs (v::a) l S->Sw S l (Mine.dF t q v) λf l' j=>match f with| .next=>I r vs a l' j| .ret v=>Q (.ret v) l' j) (a7:∀r vs l S,I r vs [] l S->Q .next l S):Sw S l (forM (aI e) t q) Q:=
 λc b P k=>h c b _ λv j m z d=>by refine b6 z λr L n o i=>?_;clear z;obtain rfl:=n;exact .inr<|.inl ⟨L,d _ _ o,mc (I r L) (λa l S i c b=>b _ _<|g r L a l S i) (step r L) (a7 r L) L l _ i m d P k⟩
theorem ID:∀{l:List (V×V)}{k v:V},(l.map (·.1)).Nodup->((bD l k v).map (·.1)).Nodup/\∀z,z∈(bD l k v).map (·.1)↔z=k\/z∈l.map (·.1):=by
 intro l;induction l with
 |nil=>exactλZ=>⟨.cons nofun .nil,λz=>a3.trans ⟨.inl,λh=>h.resolve_right nofun⟩⟩
 |cons e l b=>
  intro k v h
  open Classical in
  have h:=gX.mp h;show((if e.1=k then(k,v)::l else e::bD l k v).map (·.1)).Nodup/\∀z,z∈(if e.1=k then(k,v)::l else e::bD l k v).map (·.1)↔_;by_cases q:e.1=k
  .refine Y (az q) ?_;subst q;exact⟨gX.mpr h,λz=>⟨.inr,λw=>w.elim (λw=>w▸.head _) id⟩⟩
  .refine Y (ay q) (jA (b (k:=k) (v:=v) h.2) λc a=>?_);refine⟨gX.mpr ⟨λz=>((a _).mp z).elim q h.1,c⟩,λz=>?_⟩;exact Y jC<|Y (propext ba)<|Y (propext<|a ..)<|Y jC<|Y (propext ba) ⟨λw=>w.elim (λw=> .inr<|.inl w) λw=>w.imp id .inr,λw=>w.elim (λw=> .inr<|.inl w) λw=>w.imp id .inr⟩
structure FI(R:List (V×V)->Prop)(ws:List V):Prop where
 ok:∀w∈ws,∃es s,R es/\w= .tup s/\s.Perm (dx es)
 all:∀es,R es->∃s,V.tup s∈ws/\s.Perm (dx es)
 aL:ws.length<=63
inductive xS(T:TH)(sl:Option V->au)(c:Nat)(R:List (V×V)->Prop)(e:Nat)(L b:List V)(l':au)(j:TH):Prop
 |mk (f:Option V) (a:List (V×V)) (dn:List V):j e=some (.list L)->Sub T j->j c=some (.dict .t a)->lu j L R R->L=dn++b->(a.map (·.1)).Nodup->(∀z∈a.map (·.1),∃es s,R es/\z= .tup s/\s.Perm (dx es))->(∀d es,V.ref d∈dn->j d=some (.dict .s es)->∃s,V.tup s∈a.map (·.1)/\s.Perm (dx es))->a.length+b.length<=63->l'=sl f->xS T sl c R e L b l' j
theorem pO{tb:i9}{pr:aG}{f:Addr}{a b:Nat}{body:aG->aE}(h:tb f=some (a,b,body))(c:vs.length=a)(e:∀T,Sub S T->Sw T (dw vs b) (body (ea tb pr k)) λfl Z j=>∃r ws,eX fl= .ref r/\T r=none/\D ws/\Sub (upd T r (.list ws)) j):eN (ea tb pr (k+1)) f vs S D:=λT s l m P p=>
 cT (K:=λv j=>∃r ws,v= .ref r/\T r=none/\D ws/\Sub (upd T r<|.list ws) j) h c (e T s) l m P λv j n y t=>by refine dE y λr ws u g d q=>?_;clear y;obtain rfl:=u;exact p ws r n d g λi o z=>t i o<|q i o z
theorem bN.IE(h:Eg S l e (.ref r))(b:S r=some (.dict .t ds))(hz:ds.length<=63)(hs:ot (ds.map (·.1))):bN S l (aC (aD .sorted) (H e aa)) λws=>ws.Perm (ds.map (·.1)):=λT s c d P k=>h T s c d _ λf a=> .inr ⟨.t,ds,a _ _<|s _ _ b,hD hz,.inr ⟨hs,λq p=>k _ _ _ p a.cv a.new⟩⟩
theorem IF(ao:UE.length<=63)(C:Cl A UE cnt g)(hp:hY UE g t R){wk:Nat}(J:Rep B S a g)(K:S wk=some (.inst 453 (kg a)))(ai:c<g.nd.length)(aj:g.rp c=c):eN (F aU (k+9)) 445 [.ref wk,iV c,t] S (FI (R c)):=by
 refine pO En rfl λT s=>?_;have J:=J.sup s;have K:=s _ _ K
 have ap:∀{O l e},Sub T O->Eg O l e (.ref wk)->∀{i},Eg O l i (iV c)->Eg O l (aX (F aU<|k+8) aY (aw e "heap") "find"<|H i aa) (iV c):=λp h Z hi=>by have z:=hW (n:="find") (J.sup p) (.attr h (p _ _ K)<|mn a) (by kernel_rfl) (.one hi)<|j9 (pr:=aU) (k:=k+6) (J.sup p) C.E.U<|C.E.len.symm▸ai;rw[aj] at z;exact z
 refine .b8<|.pN .t λP b=>?_;refine .then (.IC (xS T (λac=>[some<|.ref wk,some<|iV c,some t,some<|.ref P,ac]) P<|R c) (.bP (f:=438) (.vr rfl) (br b K) (by kernel_rfl)<|.cons (λv j=>∃tb,v= .ref tb/\Sub (upd T P<|.dict .t []) j/\j tb=some (.dict .s [])) (.pN .s λtb Q=>⟨tb,rfl,.new Q,aJ⟩) λv j z=>?_) (λW L aq l' j x=>x.casesOn λZ Z Z h Z Z Z Z Z Z Z Z Z=>h) (λW L v aq l' j x=>?_) λW L l' j x=>?_)
 .refine bE z λtb ar p gt=>?_;clear z;obtain rfl:=ar;have u:Sub T j:=(Sub.new b).trans p;exact Es.x (.cons (ap u (.vr rfl)<|.vr rfl)<|.one<|.vr rfl)<|Iw ao C hp (J.sup u) (u _ _ K) gt ai aj λaG W L s2 I bc len=>⟨W,L,rfl,I,none,[],[],I,u.trans s2,s2 _ _<|p _ _ aJ,bc,rfl,.nil,(λZ=>bw),(λZ Z=>bw),(eE _).symm▸len,rfl⟩
 .cases x with|mk ac X dn I u D bc M nd ok all len ad=>
  subst ad;refine b6 (bc.ok v<|M▸dS _ (.head _)) λd es as gd al=>?_;obtain rfl:=as;have sn:=hp.sn al;refine .dF<|.IB .cst (.vr rfl) D (ah (ah (cp _ _) len) af)<|.IA (.vr rfl) gd sn λss ps=>⟨D,Iz<|sn.sp ps,.pass ?_⟩;refine jA (ID (k:=V.tup ss) (v:= .bool true) nd) λau ae=>?_
  have keep:∀d es,j d=some (.dict .s es)->upd j P (.dict .t<|bD X (.tup ss)<|.bool true) d=some (.dict .s es):=λd es z=>by rw[bC];exact z;clear b;rintro rfl;exact nomatch D.symm.trans z
  refine⟨_,_,dn++[.ref d],(bC ?_).trans I,λi o z=>?_,aJ,bc.sub keep,by refine Y M<|Y (gV ..) ?_;rfl,au,λz m=>((ae z).mp m).elim (λe=>⟨es,ss,al,e,ps⟩)<|ok z,λab es' m z=>?_,ah (ef (qQ _ _ _) _)<|ah (bF<|d0 _ 1 _) len,rfl⟩
  .clear keep;rintro rfl;exact nomatch I.symm.trans D
  .exact Y (bC<|e0 b z)<|u _ _ z
  .have z:j ab=some (.dict .s es'):=by rw[bC] at z;exact z;clear D;rintro rfl;rw[aJ] at z;cases z
   refine Or.elim (cD.mp m) (λm=>?_) λm=>?_
   .exact(all ab es' m z).imp λp q=>⟨(ae _).mpr<|.inr q.1,q.2⟩
   .clear M len;obtain rfl:=V.ref.inj (a3.mp m);refine jA (aQ.dict.inj<|aT<|gd.symm.trans z) λZ av=>?_;clear z;obtain rfl:=av;exact⟨ss,(ae _).mpr<|.inl rfl,ps⟩
 .cases x with|mk ac X dn I u D bc M nd ok all len ad=>
  subst ad
  have ag:∀z∈X.map (·.1),∃s,z= .tup s/\Sp s:=λz m=>by refine b6 (ok z m) λes s G ax b=>?_;clear m;obtain rfl:=ax;exact⟨s,rfl,(hp.sn G).sp b⟩
  have pP:ot (X.map (·.1)):=by
   refine⟨hD<|bM len,λx am y an=>?_,?_⟩
   .refine ak (ag x am) λs aA G=>?_;clear am;obtain rfl:=aA;refine ak (ag y an) λp aB N=>?_;clear an;obtain rfl:=aB;exact Iy G N
   .refine Or.elim hp.one (λG=>?_) λG=>?_
    .refine .inl (b0 (nd.length_le_of_subset (l₂:=[.tup []]) λz m=>?_) af);refine b6 (ok z m) λes s N aC b=>?_;clear m;obtain rfl:=aC;rw[G _ _ N] at b;exact Y b.eq_nil<|.head _
    .refine .inr (.inr ⟨.t,λz m=>?_⟩);refine b6 (ok z m) λes s N aD b=>?_;obtain rfl:=aD;refine ak (ag _ m) λp hs Q=>?_;obtain rfl:=V.tup.inj hs;cases s with
     |nil=>exact absurd (List.map_eq_nil_iff.mp b.nil_eq.symm)<|G _ _ N
     |cons v s=>refine cj (Q v<|.head _) λx n aE=>?_;clear m hs Q;obtain rfl:=aE;exact .mk _ _<|.t _
  refine .iw<|(bN.IE (.vr rfl) D len pP).x λws r d aF=>⟨r,ws,rfl,h4.mpr λo z=>((a4<|aF.symm.trans<|u _ _ z)),⟨λw m=>ok w<|d.mem_iff.mp m,λes h=>?_,d.length_eq▸bM len⟩,λi o z=>?_⟩
  .refine ak (bc.all es h) λab m z=>?_;rw[M,d2] at m;exact(all ab es m z).imp λs q=>⟨d.mem_iff.mpr q.1,q.2⟩
  .unfold upd at z⊢;split at z
   .rename_i e;exact Y (az e) z
   .rename_i e;exact Y (ay e)<|u _ _ z
end
section
variable{N:Nat}{B:bg->Prop}{UE:List V}{cnt:Nat}{J:List Nat}{k:Nat}{A S L T:TH}{a a':Ro->Nat}{g g' O:G}{l:au}{e e' b:M}{n m c d x y:Nat}{p:Nd}{v w t:V}{K:V->TH->Prop}{op u u':Str}{cs:List Nat}{ks vs items:List V}{src:cK}{js:List Nat}{i r:Nat}{ds es:List (V×V)}{Q:Fl->au->TH->Prop}{q rest:aE}{R:Nat->List (V×V)->Prop}
theorem lx(n:Nat):gD 0 n 1=(List.range n).map iV:=by unfold gD;refine Y (az rfl) ?_;show(List.range ((n:Int)-0).toNat).map _=_;refine Y (Int.sub_zero ..)<|Y (fR ..)<|dZ λk Z=>ar V.int ?_;show(0:Int)+(k:Int)*1=(k:Int);exact Y (Int.mul_one ..)<|Y (Int.zero_add ..) rfl
theorem Eg.range(h:Eg S l e (.int n)):Eg S l (aC (aD .range) (H e aa)) (.cP 0 n 1):=λT s a b P k=>h T s a b _ k
theorem ly(h:n<=1000000):lO 0 n 1:=⟨⟨by decide,by decide⟩,⟨eF af<|eR n,eF (fT.mpr h) af⟩,.inl rfl⟩
theorem dg.range(h:Eg S l e (.int n))(hn:n<=1000000):dg S l (aI (aC (aD .range) (H e aa))) ((List.range n).map iV) λZ=>True:=lx n▸.cP (.range h) (ly hn)
noncomputable def cls(g:G):List V:=(List.range g.up.length).flatMap λx=>if g.rp x=x then[iV x] else[]
theorem mr{a b:Type}(f:a->List b)(h:∀x,(f x).length<=1):∀l:List a,(l.flatMap f).length<=l.length
 |[]=>aM _
 |x::l=>Y fh<|Y a0<|Y fS<|Y (d3 ..)<|c7 (mr f h l)<|h x
theorem xT(g:G):(cls g).length<=g.up.length:=ah (mr _ (λx=>pM _ _) _)<|bF cF
theorem IG(R:Rep A S a g)(U:UI g.up g.rp):Fn (F aU (k+1)) 261 [.ref (a .un)] S (cls g):=by
 have len:Eg S [some<|.ref<|a .un] (aC (aD .len)<|H (aw (vr 0) "above") aa) (.int g.up.length):=by have z:=Eg.ec (R.up (l:=[some<|.ref<|a .un]) (e:=vr 0)<|.vr rfl) (R.get .up _ rfl)<|bM<|lb U.aL;rw[aV] at z;exact z
 let f:V->List V:=λv=>match v with| .int j=>if g.rp j.toNat=j.toNat then[iV j.toNat] else[]|_=>[]
 have h:El S [some<|.ref<|a .un] _ (((List.range g.up.length).map iV).flatMap f):= .comp (js:=[0]) (k:=1) (t:=aj 1) (c':=c1 (aH .Eq (ax (aw (vr 0) "above")<|vr 1)<|vr 1) aK) (b:=aR<|vr 1) (.range len<|big U.aL) (λZ Z=>trivial) (ah (mr f (λv=>?_) _)<|bM<|cF▸lb U.aL) λv m=>?_
 .rw[List.flatMap_map] at h;exact sg DO rfl h
 .cases v with
  |int j=>exact pM _ _
  |_=>exact a6 _
 .refine ak (hr m) λj c n=>?_;clear m;obtain rfl:=n;have c:=cz.mp c;refine gx (U.par j c) λb o d p r=>?_
  have cond:∀{l},Eg S l (vr 0) (.ref<|a .un)->Eg S l (vr 1) (iV j)->Eg S l (aH .Eq (ax (aw (vr 0) "above")<|vr 1)<|vr 1) (.bool<|decide<|g.rp j=j):=λs i=>by
   have z:=Eg.fu (R.xa U s i o) i
   have e:decide ((b:Int)=(j:Int))=decide (g.rp j=j):=gq.mpr ⟨λq=>r (ih q),λq=>by have:b=j:=fi d<|Y q.symm<|Y p.symm<|U.le b<|b0 d c;exact Y this rfl⟩
   rw[e] at z;exact z
  refine .if (cond (.vr rfl)<|.vr rfl) (λq=>?_) λq=>?_
  .show Gb S _ (if g.rp j=j then[iV j] else[]);exact Y (az<|cf q)<|.elt<|.vr rfl
  .show(if g.rp j=j then[iV j] else[])=[];exact Y (ay<|fB q) rfl
theorem IH(R:Rep A S a g)(U:UI g.up g.rp):Fn (F aU (k+2)) 381 [.ref (a .hp)] S (cls g):=sg Ec rfl<|.bP (R.lh<|.vr rfl) (R.get .un _ rfl) (by kernel_rfl) .nil<|IG R U
theorem xU:v∈cls g↔∃c,v=iV c/\c<g.up.length/\g.rp c=c:=by
 unfold cls;refine Y (propext fD) ⟨λh=>?_,λh=>?_⟩
 .refine ak h λc a h=>?_;by_cases q:g.rp c=c
  .rw[az q] at h;exact⟨c,a3.mp h,cz.mp a,q⟩
  .rw[ay q] at h;exact bw h
 .refine bE h λc b a q=>?_;clear h;obtain rfl:=b;exact⟨c,cz.mpr a,Y (az q)<|.head _⟩
theorem bN.II{o:aQ}{i j:Nat}{D:V->List V->Prop}{f:V->V->V}(I:List V->List V->Prop)(hs:hV S l src items o)(u:I items [])(x:∀v,v∈items->bN S ((cH js k l).set i (some v)) e (D v))(hf:∀v,v∈items->∀ws,D v ws->∀w,w∈ws->Eg S (((cH js k l).set i (some v)).set j (some w)) e' (f v w))
  (g:∀v a acc,I (v::a) acc->v∈items/\∀ws,D v ws->I a (acc++ws.map (f v))/\acc.length+ws.length<=aF):bN S l (aS src js k (aj i) aK<|e9 (aI e) (aj j) aK<|aR e') (I []):=λT s y z P q=>hs T s y z _ λr ok A c B C=>
 nA (ok:=ok) (λa acc b=>Hd (upd T r o) b/\I a acc) (λa acc b h=>C _ b h.1 aJ) (λv a acc b h P E=>x v (g v a acc h.2).1 _ (s.trans (.new c)) b h.1 _ λws G F d p t=> .inr (.inl ⟨ws,t.at,by
  refine jA ((g v a acc h.2).2 ws d) λi1 i2=>?_;exact la (S:=S) (f:=λw=>[f v w]) ((s.trans (.new c)).trans (.new p)) (λb n=>n.at) (λw m=> .name (.elt (hf v (g v a acc h.2).1 ws d w m))) acc (Y (l9 ..) i2) F t _ λb n=>E _ b ⟨n.weak p,(j6 (f v) ws)▸i1⟩⟩)) items [] A _ ⟨B,u⟩ λacc b h=>q _ _ _ h.2 (h.1.weak c).cv (h.1.weak c).new
structure pQ(g:G)(R:Nat->List (V×V)->Prop)(ws:List V):Prop where
 ok:∀w∈ws,∃c es s,(c<g.nd.length/\g.rp c=c)/\R c es/\w= .tup [iV c,.tup s]/\s.Perm (dx es)
 all:∀c es,c<g.nd.length->g.rp c=c->R c es->∃s,V.tup [iV c,.tup s]∈ws/\s.Perm (dx es)
 aL:ws.length<=3969
theorem IJ(r:UE.length<=63)(C:Cl B UE cnt g)(hp:hY UE g t R){wk:Nat}(b:Rep A S a g)(l:S wk=some (.inst 453 (kg a))):eN (F aU (k+10)) 450 [.ref wk,t] S (pQ g R):=by
 have sm:=C.E.small r;have u:∀v,v∈cls g->∃c,v=iV c/\c<g.nd.length/\g.rp c=c:=λv m=>C.E.len▸xU.mp m
 refine nF Ep rfl ((bN.II (D:=λv ws=>∃c,v=iV c/\FI (R c) ws) (f:=λv w=> .tup [v,w]) (λx acc=>∃dn,cls g=dn++x/\(∀w∈acc,∃c es s,(c<g.nd.length/\g.rp c=c)/\R c es/\w= .tup [iV c,.tup s]/\s.Perm (dx es))/\(∀c es,iV c∈dn->R c es->∃s,V.tup [iV c,.tup s]∈acc/\s.Perm (dx es))/\acc.length<=63*dn.length)
  (.new (.bP (.attr (.vr rfl) l (mn a)) (b.get .hp _ rfl) (by kernel_rfl) .nil (IH b C.E.U))) ⟨[],rfl,(λZ=>bw),(λZ Z=>bw),a6 _⟩ (λv m=>?_) (λv m ws d w n=> .tup (.cons (.vr rfl) (.one (.vr rfl))) dA) λv x acc h=>?_).mono λws h=>?_)
 .refine bE (u v m) λc G i j=>?_;clear m;obtain rfl:=G;exact(bN.bP (f:=445) (.vr rfl) l (by kernel_rfl) (.cons (.vr rfl)<|.one<|.vr rfl)<|IF r C hp b l i j).mono λws f=>⟨c,rfl,f⟩
 .refine gx h λdn e o p q=>?_;have hm:v∈cls g:=e▸dS _ (.head _);refine bE (u v hm) λc' e' i j=>?_;subst e';refine⟨hm,λws d=>?_⟩;refine ak d λc e' f=>?_;obtain rfl:=e1 e'
  have dl:dn.length+1<=63:=by have z:=C.E.len▸xT g;rw[e,a0,fS] at z;exact ah (bz (cR<|a6 _) _)<|ah z sm
  have y:acc.length+ws.length<=63*(dn.length+1):=c7 q f.aL;refine⟨⟨dn++[iV c'],by refine Y e<|Y (gV ..) ?_;rfl,λw m=>?_,λc es m b=>?_,Y a0<|Y a0<|Y (aV ..) y⟩,ah y<|ah (eA 63 dl) af⟩
  .refine Or.elim (cD.mp m) (λm=>?_) λm=>?_
   .exact o w m
   .refine ak (bS.mp m) λI n J=>?_;obtain rfl:=J;refine b6 (f.ok I n) λes s K L M=>?_;clear n m;obtain rfl:=L;exact⟨c',es,s,⟨i,j⟩,K,rfl,M⟩
  .refine Or.elim (cD.mp m) (λm=>?_) λm=>?_
   .exact(p c es m b).imp λs z=>⟨dJ _ z.1,z.2⟩
   .clear i j h e hm d e';obtain rfl:=e1 (a3.mp m);exact(f.all es b).imp λs z=>⟨dS _<|bS.mpr ⟨_,z.1,rfl⟩,z.2⟩
 .refine gx h λdn e o p q=>?_;rw[d2] at e;refine⟨o,λc es i j b=>p c es (e▸xU.mpr ⟨c,rfl,C.E.len.symm▸i,j⟩) b,ah q<|ah (eA 63 (?_:dn.length<=63)) af⟩;exact Y e.symm<|ah (xT g)<|C.E.len.symm▸sm
end
section
variable{N:Nat}{B:bg->Prop}{UE:List V}{cnt:Nat}{O:List Nat}{k:Nat}{J S D T:TH}{a a':Ro->Nat}{g g' o:G}{l:au}{e e' b:M}{n m c d x y:Nat}{p:Nd}{v w t:V}{K:V->TH->Prop}{op u u':Str}{cs:List Nat}{ks vs items:List V}{src:cK}{js:List Nat}{i r:Nat}{ds es:List (V×V)}{Q:Fl->au->TH->Prop}{q rest:aE}{R:Nat->List (V×V)->Prop}
inductive iz(UE:List V)(T:Nat->V)(N:Nat)(es:List (V×V)):V->V->Prop
 |gr (t:V):Tu UE 3 t->iz UE T N es t t
 |sw (u u':Str) (x y:Nat):u∈cw->u'∈cw->aW es (.str u)=some (iV x)->aW es (.str u')=some (iV y)->x<N->y<N-> .tup [.str "g",T x,T y]∈UE->iz UE T N es (cx u u') (.tup [.str "g",T x,T y])
theorem iz.grow(h:iz UE g.T g.nd.length es v t)(L:Le g g'):iz UE g'.T g'.nd.length es v t:=by
 cases h with
 |gr _ h=>exact .gr _ h
 |sw u u' x y d e f i a b c=>rw[←L.T x a,←L.T y b] at c⊢;exact .sw u u' x y d e f i (bt a<|ee L) (bt b<|ee L) c
theorem xV(a:u∈cw){tb:Nat}(h:S tb=some (.dict .s es))(b:aW es (.str u)=some (iV x)){pl:V}:Fg (F aU (k+2)) 503 [pl,.tup [.str u],.ref tb] S (iV x):=mf rL rfl λT s=> .guard (.call (.one<|.vr rfl)<|sJ a) (λZ=> .dz (.gL (.vr rfl) (.eu (vs:=[.str u]) (j:=0) (.vr rfl) .cst rfl (by decide:1<=1000000)) (s _ _ h) (ew u) b) ⟨rfl,.refl T⟩) λt=>(e4 t)
theorem xW(c:UE.length<=63)(d:cnt<=900000){pl tb i:Nat}(I:iz UE g.T g.nd.length es v t)(l:J pl=some (.inst 518 [("heap",.ref i)]))(o:a .hp=i)(M:J tb=some (.dict .s es))(R:Rep J S a g)(E:EI B UE cnt [] g)(h:∀n D a' g',Add B UE cnt J D a a' g g' n t->K (iV n) D):Fx (F aU (k+9)) 503 [.ref pl,v,.ref tb] S K:=by
 cases I with
 |gr _ N=>exact Ib (k:=k) c d N l (.refl _) o R E K h
 |sw u u' x y O P p q Q U W=>
  have b:=o▸R.base _ _ l;have w:=R.base _ _ M;let f:V->V:=λv=>match v with| .tup [.str z]=>(aW es<|.str z).getD .none|v=>v
  have fx:f (.tup [.str u])=iV x:=by show(aW es<|.str u).getD .none=_;refine Y p ?_;rfl
  have C:f (.tup [.str u'])=iV y:=by show(aW es<|.str u').getD .none=_;refine Y q ?_;rfl
  refine cT rL rfl<|.guard (.call (.one<|.vr rfl)<|nG (op:="g") (by decide+kernel)<|aM 2) (λt=>(b3 t)) λZ=> .iw<|.bP (f:=320) (.attr (.vr rfl) b<|mn a) (R.get .hp _ rfl) (by kernel_rfl)<|.jb (.eu (vs:=[.str "g",.tup [.str u],.tup [.str u']]) (j:=0) (.vr rfl) .cst rfl (by decide:3<=1000000))<|.one<|(El.map (g:=f) (items:=[.tup [.str u],.tup [.str u']]) (.tup<|.f9 (vs:=[.str "g",.tup [.str u],.tup [.str u']]) (.vr rfl) (by decide:1<=1/\1<=3/\3<=aF)) (λZ Z=>trivial) dA λv m=>?_).x λr G=>?_
  .rcases ba.mp m with rfl|m
   .exact Y fx<|.bP (.vr rfl) b (by kernel_rfl) (.cons (.vr rfl)<|.one<|.vr rfl)<|xV (k:=k+6) O w p
   .obtain rfl:=a3.mp m;exact Y C<|.bP (.vr rfl) b (by kernel_rfl) (.cons (.vr rfl)<|.one<|.vr rfl)<|xV (k:=k+6) P w q
  .exact Y (show[V.tup [.str u],.tup [.str u']].map f=[x,y].map iV by show[f<|.tup [.str u],f<|.tup [.str u']]=[iV x,iV y];rw[fx,C])<|sG (k:=k+3) (t:= .tup [.str "g",g.T x,g.T y]) (ks:=[x,y]) (R.loc G) E c d (.inr ⟨r,rfl,aJ⟩) (aM 2) (λj m=>(ba.mp m).elim (λe=>e▸Q) λm=>a3.mp m▸U) (by decide+kernel) rfl W λn D a' g' A=>h n D a' g' ⟨A.hp,A.R.pJ<|R.out G,A.E,A.L,A.lt,A.T,A.md⟩
noncomputable def gg(nm:Str)(l r:V):List (Str×V):=[("name",.str nm),("left",l),("right",r),("needs",.tup [])]
theorem fK(nm:Str)(l r:V):(gg nm l r).lookup ("name":Str)=some (.str nm)/\(gg nm l r).lookup ("left":Str)=some l/\(gg nm l r).lookup ("right":Str)=some r/\(gg nm l r).lookup ("needs":Str)=some (.tup []):=⟨by kernel_rfl,by kernel_rfl,by kernel_rfl,by kernel_rfl⟩
structure pR(B:bg->Prop)(UE:List V)(cnt:Nat)(J D:TH)(a a':Ro->Nat)(g g':G)(tl c:V)(b:Bool):Prop where
 hp:a' .hp=a .hp
 R:Rep J D a' g'
 E:EI B UE cnt [] g'
 L:Le g g'
 nm:∃n m,n<g'.nd.length/\m<g'.nd.length/\g'.T n=tl/\g'.T m=c/\g'.rp n=g'.rp m
 no:b=false->∀o d e,Cl B d e o->Md o g->Md o g'/\Mine.ev (aO o) tl=Mine.ev (aO o) c
 yes:b=true->∀o d e,Cl B d e o->Md o g->Mine.ev (aO o) tl=Mine.ev (aO o) c->¬Mine.ev (aO o) tl<o.nd.length
theorem EI.ed(E:EI B UE cnt O g)(z:V):EI B UE (cnt+1) O {g with ed:=g.ed++[z]}:=
 {E with
  se:=by show(g.ed++[z]).length+gf g<=g.nd.length+(cnt+1);exact Y a0 (Y (d0 ..) (cR E.se))}
theorem EI.more(E:EI B UE cnt O g):EI B UE (cnt+1) O g:={E with se:=gp E.se}
theorem IK(t:UE.length<=63)(A:cnt<=900000)(R:Rep J S a g)(E:EI B UE cnt [] g)(hn:n<g.nd.length)(hm:m<g.nd.length)(hs:∀I,B I->Mine.ev I (g.T n)=Mine.ev I (g.T m)){G:V}(h:∀D a' g' b,pR B UE (cnt+1) J D a a' g g' (g.T n) (g.T m) b->K (.bool b) D):Fx (F aU (k+4)) 353 [.ref (a .hp),iV n,iV m,G] S K:=by
 have ln:=E.len.symm▸hn;have u:=E.len.symm▸hm;refine cT D6 rfl<|.iw<|.bP (f:=360) (.vr rfl) (R.get .hp _ rfl) (by kernel_rfl)<|Es.x (.cons (.vr rfl)<|.cons (.vr rfl)<|.one<|.vr rfl)<|xw R E.U E.L.len (E.aL t A) E.dG (λc r N=>(E.bu c).mpr ⟨E.len▸r,N⟩) ln u (λe D s=>h D a _ false ⟨rfl,s,E.ed _,⟨λZ Z h=>h,λZ Z=>rfl,λZ Z Z Z h=>h⟩,⟨n,m,hn,hm,rfl,rfl,e⟩,λZ o O P C M=>⟨⟨M.w,⟨M.le.nd,M.le.T,M.le.rp⟩,M.rp,M.at_⟩,?_⟩,b3⟩) λc d l q D z s=>?_
 .exact Y (M.ev C E hn)<|Y (M.ev C E hm)<|Y e rfl
 .refine b1 (E.U.both ln u q) λv ld rd=>?_;refine jA v λlc y=>?_;have ld:=E.len▸ld
  have Q:∀I,B I->Mine.ev I (g.T c)=Mine.ev I (g.T d):=λI p=>by
   clear l s v rd lc y ld;rcases q with⟨rfl,rfl⟩|⟨rfl,rfl⟩
   .rw[E.snd I p,E.snd I p,hs I p]
   .rw[E.snd I p,E.snd I p,hs I p]
  refine h D (gO a c z) _ true ⟨rfl,s,(E.join t l ld y rd Q).more,.join g c d _,⟨n,m,hn,hm,rfl,rfl,?_⟩,e4,λZ o O P C M e lt=>?_⟩
  .show cY g.rp c d n=cY g.rp c d m;refine Or.elim q (λW=>jA W λi j=>?_) λX=>jA X λi j=>?_
   .exact Y (eO j.symm)<|Y (dX λw=>bk l<|i.trans w)<|Y i rfl
   .exact Y (eO j.symm)<|Y (dX λw=>bk l<|i.trans w)<|Y i rfl
  .rw[M.ev C E hn] at e lt;rw[M.ev C E hm] at e
   have ne:g.rp n≠g.rp m:=λw=>by
    refine Or.elim q (λaa=>jA aa λi j=>?_) λab=>jA ab λi j=>?_
    .exact bk l<|i.trans<|w.trans j.symm
    .exact bk l<|i.trans<|w.symm.trans j.symm
   unfold tr at e lt;split at lt
   .rename_i r;rw[az r] at e;split at e
    .exact ne e
    .exact eh _<|e▸r
   .exact eh _ lt
end
section
variable{N:Nat}{O:bg->Prop}{UE:List V}{cnt:Nat}{U:List Nat}{k:Nat}{j S J T:TH}{a a':Ro->Nat}{g g' D:G}{l:au}{e e' b:M}{n m c d x y:Nat}{p:Nd}{v w t:V}{K:V->TH->Prop}{op u u':Str}{cs:List Nat}{ks vs ws items:List V}{src:cK}{js:List Nat}{i r:Nat}{ds es:List (V×V)}{Q:Fl->au->TH->Prop}{q rest:aE}{R:Nat->List (V×V)->Prop}
structure dB where
 rn:Nat
 hp:Nat
 rl:Nat
 op:Nat
 wk:Nat
 pl:Nat
 hi:Nat
 re:Nat
 wa:Nat
noncomputable def dQ(A:dB)(rd:Nat):List (Str×V):=[("heap",.ref A.hp),("rules",.ref A.rl),("options",.ref A.op),("walker",.ref A.wk),("placer",.ref A.pl),("history",.ref A.hi),("rounds",iV rd),("rests",.ref A.re),("wakes",.ref A.wa)]
theorem kh(A:dB)(rd:Nat):(dQ A rd).lookup ("heap":Str)=some (.ref A.hp)/\(dQ A rd).lookup ("rules":Str)=some (.ref A.rl)/\(dQ A rd).lookup ("options":Str)=some (.ref A.op)/\(dQ A rd).lookup ("walker":Str)=some (.ref A.wk)/\(dQ A rd).lookup ("placer":Str)=some (.ref A.pl)/\(dQ A rd).lookup ("history":Str)=some (.ref A.hi)/\(dQ A rd).lookup ("rounds":Str)=some (iV rd)/\(dQ A rd).lookup ("wakes":Str)=some (.ref A.wa):=⟨by kernel_rfl,by kernel_rfl,by kernel_rfl,by kernel_rfl,by kernel_rfl,by kernel_rfl,by kernel_rfl,by kernel_rfl⟩
structure Rl where
 nm:Str
 l:V
 r:V
noncomputable def gh(S:TH)(v:V)(u:Rl):Prop:=∃r,v= .ref r/\S r=some (.inst 480<|gg u.nm u.l u.r)
structure Rn(j:TH)(A:dB)(rd:Nat)(a:List V)(us:List Rl):Prop where
 rn:j A.rn=some (.inst 573<|dQ A rd)
 wk:j A.wk=some (.inst 453 [("heap",.ref A.hp)])
 pl:j A.pl=some (.inst 518 [("heap",.ref A.hp)])
 rl:j A.rl=some (.list a)
 len:a.length=us.length
 aL:us.length<=100
 ru:∀(i:Nat)(v:V)(u:Rl),a[i]? =some v->us[i]? =some u->gh j v u
 op:j A.op=some (.dict .s [(.str "rounds",.int 12)])
 wa:j A.wa=some (.list<|List.replicate us.length<|.int 0)
 hi:∃hs,j A.hi=some (.list hs)
open Classical in
theorem Eg.sN{e e':M}(h:El S l e vs)(b:El S l e' ws)(c:∀v∈vs,a8 40 v)(d:∀v∈ws,a8 40 v):Eg S l (aH .NotEq e e') (.bool !decide (vs=ws)):=λT s f i P k=>h T s f i _ λr j g m=>b _ (s.trans<|.new g) j m _ λo n g' a=> .inl<|.inr<|.inr ⟨vs,(a.weak g').at,ws,a.at,c,d,k n<|(a.weak g').weak g⟩
theorem Ex.IL{kk:KK}(h:Eg S l e (.tup vs))(hd:hO kk vs [] es)(b:vs.length<=aF)(k:∀d,S d=none->K (.ref d) (upd S d (.dict kk es))):Ex S l (aC (aD .dict) (H e aa)) K:=λc f P p=>h S (.refl S) c f _ λg a=> .inl<|.inl ⟨kk,es,hd,b,p _ _ _ (k _ a.cv) a.new⟩
theorem gQ{a:Type}{l:List a}{i:Nat}{x:a}(h:l[i]? =some x):i<l.length:=(cN.mp h).1
structure Ap(UE:List V)(g:G)(u:Rl)(s:List V)(tl a:V):Prop where
 len:s.length<=2
 d:∃es,hO .s s [] es/\iz UE g.T g.nd.length es u.l tl/\iz UE g.T g.nd.length es u.r a
theorem Ap.grow{u:Rl}{s:List V}{tl a:V}(h:Ap UE g u s tl a)(L:Le g g'):Ap UE g' u s tl a:=⟨h.len,h.d.imp λes z=>⟨z.1,z.2.1.grow L,z.2.2.grow L⟩⟩
open Classical in
theorem IM(Q:UE.length<=63)(U:cnt<=900000){A:dB}{rd:Nat}{ai:List V}{us:List Rl}(N:Rn j A rd ai us)(W:a .hp=A.hp){ru:Nat}{u:Rl}(w:j ru=some (.inst 480 (gg u.nm u.l u.r))){s:List V}{tl X:V}(aj:Ap UE g u s tl X)(hs:∀I,O I->Mine.ev I tl=Mine.ev I X)
  (R:Rep j S a g) (E:EI O UE cnt [] g) (h:∀J a' g' b,pR O UE (cnt+1) j J a a' g g' tl X b->K (.bool b) J):Fx (F aU<|k+10) 553 [.ref A.rn,.ref ru,.tup s] S K:=by
 obtain⟨al,es,hd,i1,i2⟩:=aj;have y:=fK u.nm u.l u.r;have ln:=kh A rd;refine cT EJ rfl<|.b8<|.IL (.vr rfl) hd (ah al af) λtb aa=>?_;have q:=R.loc (o:= .dict .s es) aa;have d:∀{i o},j i=some o->upd j tb (.dict .s es) i=some o:=λz=>br (R.out aa) z;have ad:∀{l},Eg (upd S tb<|.dict .s es) l (vr 1) (.ref ru)->Eg (upd S tb<|.dict .s es) l (aw (vr 1) "needs") (.tup []):=λam=> .attr am (q.base _ _<|d w) y.2.2.2;refine .guard (.ne (ad<|.vr rfl) (.tup .nil<|a6 _) (.tup 39 _ λZ=>bw)<|.tup 39 _ λZ=>bw) (λt=>?_) λZ=>?_
 .rw[bJ rfl] at t;exact b3 t
 refine .guard (.sN (.comp (g:=λZ=>[]) (.tup<|ad<|.vr rfl) (λZ Z=>trivial) (a6 _) λZ=>bw) (.lst .nil<|a6 _) (λZ=>bw) λZ=>bw) (λt=>?_) λZ=>?_
 .rw[List.flatMap_nil,bJ rfl] at t;exact b3 t
 have pl:∀{J a' g' l},Rep (upd j tb<|.dict .s es) J a' g'->Eg J l (vr 0) (.ref A.rn)->Eg J l (aw (vr 0) "placer") (.ref A.pl):=λan ao=> .attr ao (an.base _ _<|d N.rn) ln.2.2.2.2.1;refine .jZ<|.tup<|.cons (λv ab=>∃n G P,v=iV n/\Add O UE cnt (upd j tb<|.dict .s es) ab a G g P n tl) (.bP (f:=503) (pl q<|.vr rfl) (q.base _ _<|d N.pl) (by kernel_rfl)<|Es.x (.cons (.attr (.vr rfl) (q.base _ _<|d w) y.2.1)<|.one<|.vr rfl)<|xW (k:=k) Q U i1 (d N.pl) W aJ q E λn ab G P A1=>⟨n,G,P,rfl,A1⟩) λv ab z=>?_;refine cj z λn G ae=>?_;refine ak ae λP ap A1=>?_;clear z ae;obtain rfl:=ap;refine .one<|.bP (f:=503) (pl A1.R<|.vr rfl) (A1.R.base _ _<|d N.pl) (by kernel_rfl)<|Es.x (.cons (.attr (.vr rfl) (A1.R.base _ _<|d w) y.2.2.1)<|.one<|.vr rfl)<|xW (k:=k) Q U (i2.grow A1.L) (d N.pl) (A1.hp.trans W) aJ A1.R A1.E λm ay aq g2 c=>⟨dA,iV n,iV m,.inl rfl,?_⟩;have ar:=bt A1.lt<|ee c.L;have tn:g2.T n=tl:=(c.L.T n A1.lt).trans A1.T;have ag:aq .hp=A.hp:=c.hp.trans<|A1.hp.trans W;refine .iw<|.bP (f:=353) (.attr (.vr rfl) (c.R.base _ _<|d N.rn) ln.1) (ag▸c.R.get .hp _ rfl) (by kernel_rfl)<|Es.x (.cons (.vr rfl)<|.cons (.vr rfl)<|.one<|.tup (.cons .cst<|.cons (.attr (.vr rfl) (c.R.base _ _<|d w) y.1)<|.one<|.r7<|.vr rfl) (by decide:3<=aF)) ?_;refine ag▸IK (k:=k+5) Q U c.R c.E ar c.lt (λI as=>Y tn<|Y c.T<|hs I as) λau av ax b B=>h au av ax b ?_;rw[tn,c.T] at B;exact⟨B.hp.trans<|c.hp.trans A1.hp,B.R.pJ<|R.out aa,B.E,(A1.L.trans c.L).trans B.L,B.nm,λac D e p C M=>B.no ac D e p C<|c.md D e p C<|A1.md D e p C M,λac D e p C M=>B.yes ac D e p C<|c.md D e p C<|A1.md D e p C M⟩
end
section
variable{O:bg->Prop}{UE:List V}{cnt:Nat}{ad:List Nat}{k:Nat}{W S X T:TH}{a a':Ro->Nat}{g g' J:G}{l:au}{e e' b:M}{n m c d x y:Nat}{p:Nd}{v w t:V}{K:V->TH->Prop}{op u u':Str}{cs:List Nat}{ks vs ws items:List V}{src:cK}{js:List Nat}{i r:Nat}{ds es:List (V×V)}{Q:Fl->au->TH->Prop}{q rest:aE}{R:Nat->List (V×V)->Prop}
noncomputable def ki(T:Nat->V)(x y:Nat):V:= .tup [.str "g",T x,T y]
noncomputable def xX(T:Nat->V)(es:List (V×V)):V×V:=match es with
 |[(_,.int x),(_,.int y)]=>(ki T x.toNat y.toNat,ki T y.toNat x.toNat)
 |_=>(.none,.none)
inductive Kd(O:bg->Prop)(UE:List V)(J:G):Rl->(Nat->List (V×V)->Prop)->(List (V×V)->V×V)->Prop
 |gr (nm:Str) (l r:V):Tu UE 3 l->Tu UE 3 r->(∀I,O I->ev I l=ev I r)->Kd O UE J ⟨nm,l,r⟩ (λc es=>es=[]/\ev (aO J) l=c) λZ=>(l,r)
 |sw (nm u u':Str):u∈cw->u'∈cw->u≠u'->(∀c x y,Nx J c x y->ki J.T x y∈UE/\ki J.T y x∈UE)->(∀I,O I->∀x y,I "g" [x,y]=I "g" [y,x])->Kd O UE J ⟨nm,cx u u',cx u' u⟩ (λc=>mq u u'<|Nx J c) (xX J.T)
variable{ab:Rl}{f:List (V×V)->V×V}
theorem Kd.pat(h:Kd O UE J ab R f):hY UE J ab.l R:=by
 cases h with
 |gr _ _ _ a=>exact .gr _ a
 |sw _ u u' a b c=>exact .sw u u' a b c
theorem IP{c:Type}{a b:c}{s:List c}(p:s.Perm [a,b]):s=[a,b]\/s=[b,a]:=by
 match s,p.length_eq with
 |[u,v],_=>
  rcases ba.mp (p.mem_iff.mp (.head _:u∈[u,v])) with rfl|h
  .obtain rfl:=a3.mp<|((List.perm_cons _).mp p).mem_iff.mp<|.head _;exact .inl rfl
  .obtain rfl:=a3.mp h;obtain rfl:=a3.mp<|((List.perm_cons _).mp<|p.trans<|.swap _ _ _).mem_iff.mp<|.head _;exact .inr rfl
theorem Cl.nx{d:List V}(C:Cl O d cnt J)(h:Nx J c x y):(x<J.nd.length/\J.rp x=x)/\y<J.nd.length/\J.rp y=y:=by
 refine b6 h λn p hn Z e=>?_;have e:p.2.map J.rp=[x,y]:=ar Prod.snd e
 have a:∀z,z∈[x,y]->z<J.nd.length/\J.rp z=z:=λz m=>by refine ak (bS.mp<|e▸m) λj f g=>?_;clear m;obtain rfl:=g;have b:=C.E.iy hn f;exact⟨C.E.c5 b,C.E.U.rr j<|C.E.len.symm▸b⟩
 exact⟨a x<|.head _,a y<|.tail _<|.head _⟩
theorem pS(h:u≠u'):aW (hX u u' x y) (.str u)=some (iV x)/\aW (hX u u' x y) (.str u')=some (iV y):=by
 open Classical in
 have a:aW (hX u u' x y) (.str u)=if V.str u= .str u then some (iV x) else aW [(.str u',iV y)] (.str u):=rfl;have b:aW (hX u u' x y) (.str u')=if V.str u= .str u' then some (iV x) else if V.str u'= .str u' then some (iV y) else none:=rfl;exact Y a<|Y b<|Y (az rfl)<|Y (ay λz=>h<|V.str.inj z)<|Y (az rfl) ⟨rfl,rfl⟩
theorem Kd.ap{m:List V}(h:Kd O UE J ab R f)(C:Cl O m cnt J)(b:R c es){s:List V}(hp:s.Perm (dx es)):Ap UE J ab s (f es).1 (f es).2/\∀I,O I->ev I (f es).1=ev I (f es).2:=by
 cases h with
 |gr nm l r d e a=>refine jA b λn Z=>?_;clear b;obtain rfl:=n;exact Y hp.eq_nil ⟨⟨a6 _,[],.nil _,.gr _ d,.gr _ e⟩,a⟩
 |sw nm u u' d e a o p=>
  refine cq b λx y q nx=>?_;clear b;obtain rfl:=q;refine b1 (C.nx nx) λt g Z=>?_;refine jA t λi Z=>?_;refine jA (o c x y nx) λv w=>?_;refine⟨⟨hp.length_eq▸aM _,?_⟩,λI z=>?_⟩
  .have a7:∀es',aW es' (.str u)=some (iV x)->aW es' (.str u')=some (iV y)->iz UE J.T J.nd.length es' (cx u u') (ki J.T x y)/\iz UE J.T J.nd.length es' (cx u' u) (ki J.T y x):=λes' j k=>⟨.sw u u' x y d e j k i g v,.sw u' u y x e d k j g i w⟩;rcases IP hp with rfl|rfl
   .exact⟨_,.cons _ _ _ _ _ (ew u)<|.cons _ _ _ _ _ (ew u')<|.nil _,by rw[sL a];exact a7 _ (pS a).1 (pS a).2⟩
   .exact⟨_,.cons _ _ _ _ _ (ew u')<|.cons _ _ _ _ _ (ew u)<|.nil _,by rw[sL<|cO a];exact a7 _ (pS<|cO a).2 (pS<|cO a).1⟩
  .show ev I (.tup [.str "g",J.T x,J.T y])=ev I (.tup [.str "g",J.T y,J.T x]);exact Y (fJ ..)<|Y (fJ ..)<|p I z _ _
theorem IQ(b:Rep W S a g)(B:BI g):Fg (F aU (k+1)) 122 [.ref (a .cL)] S (iV g.nd.length):=hl Dq rfl<|aV (as:=g.nd) aZ▸.ec (b.nodes<|.vr rfl) (b.get .nodes _ rfl) (bM<|lb B.aL)
theorem IS(b:Rep W S a g)(B:BI g):Fg (F aU (k+2)) 310 [.ref (a .hp)] S (iV g.nd.length):=hl DS rfl<|sj b (.vr rfl) (by kernel_rfl) .nil<|IQ b B
open Classical in
theorem sO(x:Str)(h:x≠"rounds")(d:V):(aW [((.str "rounds":V),V.int 12)] (.str x)).getD d=d:=by show(if(.str "rounds":V)= .str x then some (V.int 12) else none).getD d=d;refine Y (ay λe=>h (V.str.inj e).symm) ?_;rfl
variable{A:dB}{rd:Nat}{ac:List V}{us:List Rl}
theorem xY(N:Rn W A rd ac us)(c:Rep W S a g)(h:a .hp=A.hp)(B:BI g):Fg (F aU (k+3)) 541 [.ref A.rn] S (.bool false):=by have ln:=kh A rd;have d:=Eg.getD (S:=S) (l:=dw [.ref A.rn] 0) (e:=aw (vr 0) "options") (a:=cst<|.str "nodes") (b:=cst<|.int 10000) (.attr (.vr rfl) (c.base _ _ N.rn) ln.2.2.1) (c.base _ _ N.op) .cst .cst<|ew "nodes";rw[sO "nodes" (by decide+kernel)] at d;have f:=Eg.gt (l:=dw [.ref A.rn] 0) (e:=aX (F aU<|k+2) aY (aw (vr 0) "heap") "size" aa) (hW (n:="size") c (.attr (.vr rfl) (c.base _ _ N.rn)<|h▸ln.1) (by kernel_rfl) .nil<|IS c B) d;rw[dd (p:=(g.nd.length:Int)>10000)<|Int.not_lt.mpr<|fT.mpr<|ah B.aL (by decide:1000<=10000)] at f;exact hl EE rfl f
noncomputable def mv(J:G)(P:V->V->Prop)(g:G):Prop:=∃t a,P t a/\¬(ev (aO J) t=ev (aO J) a/\ev (aO J) t<J.nd.length)/\∃n m,n<g.nd.length/\m<g.nd.length/\g.T n=t/\g.T m=a/\g.rp n=g.rp m
theorem mv.le{P:V->V->Prop}(h:mv J P g)(L:Le g g'):mv J P g':=by refine b6 h λt a b c d=>?_;refine dE d λn m hn hm e f=>?_;refine jA f λi j=>?_;exact⟨t,a,b,c,n,m,bt hn<|ee L,bt hm<|ee L,(L.T n hn).trans e,(L.T m hm).trans i,L.rp n m hn hm j⟩
structure ht(O:bg->Prop)(UE:List V)(cnt:Nat)(W X:TH)(a a':Ro->Nat)(J g':G)(P:V->V->Prop)(j:Nat):Prop where
 hp:a' .hp=a .hp
 R:Rep W X a' g'
 E:EI O UE cnt [] g'
 L:Le J g'
 md:j=0->Md J g'
 pr:j≠0->mv J P g'
theorem ht.app{b:List V}{c j:Nat}{P:V->V->Prop}{f:Ro->Nat}{g:G}{t d:V}{e:Bool}(D:ht O UE cnt W S a f J g P j)(C:Cl O b c J)(B:pR O UE (cnt+1) W X f a' g g' t d e)(k:P t d):ht O UE (cnt+1) W X a a' J g' P (j+if e then 1 else 0)/\(j+(if e then 1 else 0)=0->ev (aO J) t=ev (aO J) d):=by
 cases e with
 |true=>
  refine⟨⟨B.hp.trans D.hp,B.R,B.E,D.L.trans B.L,λh=>(nomatch h),λZ=>?_⟩,λh=>(nomatch h)⟩;by_cases i:j=0
  .exact⟨t,d,k,λz=>B.yes rfl J b c C (D.md i) z.1 z.2,B.nm⟩
  .exact(D.pr i).le B.L
 |false=>exact⟨⟨B.hp.trans D.hp,B.R,B.E,D.L.trans B.L,λh=>(B.no rfl J b c C<|D.md h).1,λh=>(D.pr h).le B.L⟩,λh=>(B.no rfl J b c C<|D.md h).2⟩
theorem Kd.uniq{es':List (V×V)}(h:Kd O UE J ab R f)(g:R c es)(i:R c es'){s:List V}(p1:s.Perm (dx es))(p2:s.Perm (dx es')):es=es':=by
 cases h with
 |gr=>exact Y g.1<|Y i.1 rfl
 |sw nm u u' _ _ ne=>
  refine cq g λx y j Z=>?_;clear g;obtain rfl:=j;refine cq i λk l o Z=>?_;clear i;obtain rfl:=o;have q:=p1.symm.trans p2;have p:=q.mem_iff.mp (.head _:V.tup [.str u,iV x]∈dx (hX u u' x y));have r:=q.mem_iff.mp (.tail _ (.head _):V.tup [.str u',iV y]∈dx (hX u u' x y))
  have d:∀{a b:Str}{m n:Nat},V.tup [.str a,iV m]= .tup [.str b,iV n]->a=b/\m=n:=λe=>by refine jA (b5<|V.tup.inj e) λt v=>?_;exact⟨V.str.inj t,e1 (b5 v).1⟩
  have w:x=k:=by
   refine Or.elim (ba.mp p) (λe=>?_) λe=>?_
   .exact(d e).2
   .exact absurd (d<|a3.mp e).1 ne
  have z:y=l:=by
   refine Or.elim (ba.mp r) (λe=>?_) λe=>?_
   .exact absurd (d e).1.symm ne
   .exact(d<|a3.mp e).2
  exact Y w<|Y z rfl
theorem Rep.outer{o o':aQ}(R:Rep W S a g)(h:W i=some o'):Rep (upd W i o) (upd S i o) a g:=
 have ne:∀r o',dh a g r=some o'->a r≠i:=λr o' z w=>((a4<|(w▸R.new r o' z).symm.trans h))
 ⟨λj p w=>by
  unfold upd at w⊢;split
  .rename_i z;rw[az z] at w;exact w
  .rename_i z;rw[ay z] at w;exact R.base _ _ w,λr p w=>(bC (ne r p w)).trans (R.get r p w),λr p w=>(bC (ne r p w)).trans (R.new r p w),R.inj⟩
inductive sP(O:bg->Prop)(UE:List V)(cnt:Nat)(W:TH)(a:Ro->Nat)(J:G)(P:V->V->Prop)(j:Nat)(R:Nat->List (V×V)->Prop)(f:List (V×V)->V×V)(sl:Nat->Option V->Option V->au)(ws d:List V)(l':au)(X:TH):Prop
 |mk (e g:Option V) (b:Nat) (a':Ro->Nat) (g':G) (dn:List V):ht O UE (cnt+dn.length) W X a a' J g' P (j+b)->ws=dn++d->(j+b=0->∀w∈dn,∀c es s,w= .tup [iV c,.tup s]->R c es->s.Perm (dx es)->ev (aO J) (f es).1=ev (aO J) (f es).2)->l'=sl b e g->sP O UE cnt W a J P j R f sl ws d l' X
theorem Ex.IT{a c:M}{b:Bool}(h:Eg S l a (.bool true))(d:Ex S l c λv X=>∃b,v= .bool b/\K (.bool b) X):Ex S l (andM a c) K:=λe f P k=>h S (.refl S) e f _ λg i=>d g i _ λv X j z m=>by obtain⟨b,rfl,z⟩:=z;exact k _ _ j z m
theorem IU{an:List V}{ao j ix:Nat}{P:V->V->Prop}(aq:UE.length<=63)(ar:cnt+ws.length<=900000)(hi:∀hs,W A.hi=some (.list hs)->hs.length<=1000)(N:Rn W A rd ac us)(aa:a .hp=A.hp)(C:Cl O an ao J)(ad:us[ix]? =some ab)(ae:Kd O UE J ab R f)(as:∀c es,R c es->P (f es).1 (f es).2)(F:pQ J R ws)(Q:W r=some (.list ws)){ag:Ro->Nat}(D:ht O UE cnt W S a ag J g P j)
  (h:∀hs v X a' g' i,W A.hi=some (.list hs)->ht O UE (cnt+ws.length) (upd W A.hi<|.list<|hs++[v]) X a a' J g' P (j+i)->(j+i=0->∀c es,c<J.nd.length->J.rp c=c->R c es->ev (aO J) (f es).1=ev (aO J) (f es).2)->K (iV i) X):Fx (Mine.F aU<|k+11) 560 [.ref A.rn,iV ix,.ref r] S K:=by
 have ln:=kh A rd;obtain⟨ru,T⟩:∃v,ac[ix]? =some v:=⟨_,cc<|N.len▸gQ ad⟩;refine ak (N.ru ix ru ab T ad) λrr au ai=>?_;obtain rfl:=au;refine cT EL rfl<|.asg .cst<|.then (.for (sP O UE cnt W a J P j R f (λi n o=>[some<|.ref A.rn,some<|iV ix,some<|.ref r,some<|iV i,n,o]) ws) (.list (.vr rfl)<|D.R.base _ _ Q) ⟨none,none,0,ag,g,[],D,rfl,λZ=>(λZ=>bw),rfl⟩ (λaj l' X x=>x.casesOn λZ Z Z Z Z Z d Z Z Z=>d.R.base _ _ Q) (λv aj l' X x=>?_) λl' X x=>?_)
 .cases x with|mk n o i a' g' dn d e hh U=>
  subst U;refine hI (F.ok v<|e▸dS _ (.head _)) λc es s Z u av hp=>?_;obtain rfl:=av;refine jA (ae.ap C u hp) λax hs=>?_;have dl:dn.length+1<=ws.length:=Y e<|Y a0<|Y fS<|bz (cR<|a6 _) _;have ay:cnt+dn.length<=900000:=ah (bz (jr dl) _) ar;have fl:=xY (k:=k+7) N d.R (d.hp.trans aa) d.E.B
  have nx:∀{y G g2 b},pR O UE (cnt+dn.length+1) W y a' G g' g2 (f es).1 (f es).2 b->∀n o,sP O UE cnt W a J P j R f (λi n o=>[some<|.ref A.rn,some<|iV ix,some<|.ref r,some<|iV i,n,o]) ws aj [some<|.ref A.rn,some<|iV ix,some<|.ref r,some<|iV (i+if b then 1 else 0),n,o] y:=λ{y G g2 b} B n o=>by
   refine jA (d.app C B<|as c es u) λaz z=>?_;refine⟨n,o,_,G,g2,dn++[.tup [iV c,.tup s]],?_,by refine Y e<|Y (gV ..) ?_;rfl,λq w m c' es' aA I al am=>?_,rfl⟩
   .exact Y a0<|dD j i _▸az
   .rw[←dD] at q;refine Or.elim (cD.mp m) (λm=>?_) λm=>?_
    .exact hh (Nat.eq_zero_of_add_eq_zero_right q) w m c' es' aA I al am
    .rw[a3.mp m] at I;refine jA (b5<|V.tup.inj I) λaB aC=>?_;obtain rfl:=e1 aB;clear I;obtain rfl:=V.tup.inj (b5 aC).1;exact Y (ae.uniq u al hp am).symm<|z q
  refine .me<|.then (.r9<|.IT (b:=true) (.not<|.bP (.vr rfl) (d.R.base _ _ N.rn) (by kernel_rfl) .nil fl)<|.bP (f:=553) (.vr rfl) (d.R.base _ _ N.rn) (by kernel_rfl)<|Es.x (.cons (.eY (.attr (.vr rfl) (d.R.base _ _ N.rn) ln.2.1) (.vr rfl) (d.R.base _ _ N.rl) T ?_)<|.one<|.vr rfl)<|IM (k:=k) aq ay N (d.hp.trans aa) ai (ax.grow d.L) hs d.R d.E λy G g2 b B=>⟨b,rfl,b,rfl,λt=>?_,λt=>?_⟩)
  .exact Y N.len<|ah N.aL af
  .subst t;exact .asg (.l7 (.vr rfl) .cst)<|.pass<|.pass<|nx B _ _
  .subst t;exact .pass<|.pass<|nx B _ _
 .cases x with|mk n o i a' g' dn d e hh U=>
  subst U;rw[d2] at e;subst e;refine jE N.hi λhs M=>?_;have q:∀{l},Eg X l (vr 0) (.ref A.rn)->∀(nm:Str)(v:V),(dQ A rd).lookup nm=some v->Eg X l (aw (vr 0) nm) v:=λh nm v z=> .attr h (d.R.base _ _ N.rn) z;have aD:=fK ab.nm ab.l ab.r;refine .dp<|.append (q (.vr rfl) _ _ ln.2.2.2.2.2.1) (d.R.base _ _ M) (.tup (.cons (q (.vr rfl) _ _ ln.2.2.2.2.2.2.1)<|.cons (.attr (.eY (q (.vr rfl) _ _ ln.2.1) (.vr rfl) (d.R.base _ _ N.rl) T<|Y N.len<|ah N.aL af) (d.R.base _ _ ai) aD.1)<|.cons (.ec (.vr rfl) (d.R.base _ _ Q)<|ah F.aL af)<|.one<|.vr rfl) (by decide:4<=aF)) (ah (hi hs M) af)<|.dz (.vr rfl) ?_
  exact h hs _ _ a' g' i M ⟨d.hp,d.R.outer M,d.E,d.L,d.md,d.pr⟩ λz c es aE aG u=>by refine ak (F.all c es aE aG u) λs m p=>?_;exact hh z _ m c es s rfl u p
end
section
variable{I:bg->Prop}{UE J:List V}{cnt:Nat}{L:List Nat}{k:Nat}{j O S P T:TH}{a a':Ro->Nat}{g g' U:G}{l:au}{e e' b:M}{n m c d x y:Nat}{p:Nd}{v w t:V}{K:V->TH->Prop}{op u u':Str}{cs:List Nat}{ks vs ws items:List V}{src:cK}{js:List Nat}{i r:Nat}{ds es:List (V×V)}{Q:Fl->au->TH->Prop}{q rest:aE}{R:Nat->List (V×V)->Prop}{B:Rl}{f:List (V×V)->V×V}{A:dB}{rd:Nat}{D:List V}{us:List Rl}
theorem EI.sup(E:EI I UE cnt L g)(h:∀v∈UE,v∈J):EI I J cnt L g:={E with cY:=λn hn=>h _ (E.cY n hn)}
theorem Rn.sub(N:Rn j A rd D us)(s:Sub j O):Rn O A rd D us:=⟨s _ _ N.rn,s _ _ N.wk,s _ _ N.pl,s _ _ N.rl,N.len,N.aL,λi v u a b=>(N.ru i v u a b).imp λr z=>⟨z.1,s _ _ z.2⟩,s _ _ N.op,s _ _ N.wa,N.hi.imp λhs z=>s _ _ z⟩
theorem xZ(N:Rn j A rd D us)(c:Rep j S a g)(e:Eg S l (vr 0) (.ref A.rn))(x:Str)(h:x≠"rounds")(d:V):Eg S l (bB (bG .get) (bH .get) (aw (vr 0) "options") (H (cst (.str x)) (H (cst d) aa))) d:=by have z:=Eg.getD (S:=S) (l:=l) (a:=cst<|.str x) (b:=cst d) (.attr e (c.base _ _ N.rn) (kh A rd).2.2.1) (c.base _ _ N.op) .cst .cst<|ew x;rw[sO x h] at z;exact z
theorem IV{i ix:Nat}(p:UE.length<=63)(q:∀v∈J,v∈UE)(C:Cl I J i g)(N:Rn j A rd D us)(c:Rep j S a g)(u:a .hp=A.hp)(e:us[ix]? =some B)(hp:hY UE g B.l R):eN (F aU (k+11)) 548 [.ref A.rn,iV ix] S (pQ g R):=by
 have ln:=kh A rd;obtain⟨ru,m⟩:∃v,D[ix]? =some v:=⟨_,cc<|N.len▸gQ e⟩;refine ak (N.ru ix ru B m e) λrr y G=>?_;obtain rfl:=y;have K:Cl I UE i g:=⟨C.E.sup q,C.w⟩;refine pO EG rfl λT s=>?_;have c:=c.sup s;have at_:∀{l}(nm:Str)(v:V),Eg T l (vr 0) (.ref A.rn)->(dQ A rd).lookup nm=some v->Eg T l (aw (vr 0) nm) v:=λnm v h z=> .attr h (c.base _ _ N.rn) z;have wk:(List.replicate us.length<|V.int 0)[ix]? =some (.int 0):=Y List.getElem?_replicate<|Y (az<|gQ e) rfl;refine .guard (.gt (.eY (at_ _ _ (.vr rfl) ln.2.2.2.2.2.2.2) (.vr rfl) (c.base _ _ N.wa) wk<|Y List.length_replicate<|ah N.aL af)<|at_ _ _ (.vr rfl) ln.2.2.2.2.2.2.1) (λt=>?_) λZ=>?_
 .exact absurd (cf t)<|Int.not_lt.mpr<|eR rd
 refine .b8<|(bN.bP (f:=450) (at_ _ _ (.vr rfl) ln.2.2.2.1) (c.base _ _ N.wk) (by kernel_rfl) (.one<|.attr (.eY (at_ _ _ (.vr rfl) ln.2.1) (.vr rfl) (c.base _ _ N.rl) m<|Y N.len<|ah N.aL af) (c.base _ _ G) (fK B.nm B.l B.r).2.1)<|IJ (k:=k) p K hp c (show T A.wk=some (.inst 453<|kg a) from by unfold kg;exact Y u<|c.base _ _ N.wk)).x λws r d n=>?_;have L:=c.sup<|.new (o:= .list ws) n;refine .guard (.and (b:=false) (.j5 (xZ N L (.vr rfl) "order" (by decide+kernel)<|.str "together") .cst) λt=>((b3<|(dd (by decide+kernel:¬("together":Str)="rests")).symm.trans t))) (λt=>?_) λZ=> .dz (.vr rfl) ⟨r,ws,rfl,n,d,.refl _⟩
 .rw[dd (by decide+kernel:¬("together":Str)="rests"),Bool.false_and] at t;exact b3 t
end
section
variable{F:bg->Prop}{UE L:List V}{cnt:Nat}{J:List Nat}{k:Nat}{s O S B T:TH}{a a':Ro->Nat}{g g' U:G}{l:au}{e e' b:M}{n m c d x y:Nat}{p:Nd}{v w t:V}{K:V->TH->Prop}{op u u':Str}{cs:List Nat}{ks vs ws items:List V}{src:cK}{js:List Nat}{i r:Nat}{ds es:List (V×V)}{Q:Fl->au->TH->Prop}{q rest:aE}{R:Nat->List (V×V)->Prop}{W:Rl}{f:List (V×V)->V×V}{A:dB}{rd:Nat}{C hs:List V}{us:List Rl}
theorem IW(S:TH)(i:Nat)(o o':aQ):upd (upd S i o) i o'=upd S i o':=funext λj=>by
 by_cases h:j=i
 .subst h;exact Y aJ<|Y aJ rfl
 .exact Y (bC h)<|Y (bC h)<|Y (bC h) rfl
theorem IX{o:aQ}(h:S i=some o):upd S i o=S:=funext λj=>by
 by_cases z:j=i
 .subst z;exact Y aJ<|Y h rfl
 .exact Y (bC z) rfl
theorem x1{b:List V}(h:v::b=((List.range n).map iV).drop i):v=iV i/\i<n/\b=((List.range n).map iV).drop (i+1):=by
 have a:(((List.range n).map iV).drop i)[0]? =some v:=by refine Y h.symm ?_;rfl
 rw[List.getElem?_drop,Nat.add_zero] at a;have hi:i<n:=cF (n:=n)▸aV (as:=List.range n) iV▸gQ a;rw[b9,h7 hi] at a;exact⟨(aT a).symm,hi,by refine Y List.tail_drop.symm<|Y h.symm ?_;rfl⟩
theorem x2(h:[]=((List.range n).map iV).drop i)(hi:i<=n):i=n:=fi hi<|cF (n:=n)▸aV (as:=List.range n) iV▸List.drop_eq_nil_iff.mp h.symm
theorem Ex.IY{G:TH->Prop}(I:List V->List V->TH->Prop)(hs:dg S l src items G)(d:I items [] S)(f:∀c acc S,I c acc S->G S)(step:∀v c acc S,I (v::c) acc S->Eg S ((cH js 1 l).set i (some v)) b (.bool true)/\Ex S ((cH js 1 l).set i (some v)) e λw B=>acc.length<aF/\I c (acc++[w]) B)
  (a7:∀acc S,I [] acc S->∀r,S r=none->K (.ref r) (upd S r<|.list acc)):Ex S l (aS src js 1 (aj i) (c1 b aK)<|aR e) K:=λg j P q=>hs S (.refl S) g j _ λok k m n=>
 nA (ok:=ok) (λr acc a=>∃S,I r acc S/\Hd S a) (λr acc a h=>h.elim λS h=>n S a h.2<|f r acc S h.1) (λv r acc a h P o=>h.elim λS h=>(step v r acc S h.1).1 S (.refl S) a h.2 _ λp s=>(step v r acc S h.1).2 p s _ λw B t z u=>⟨z.1,o _ t ⟨B,z.2,u⟩⟩) items [] k _ ⟨S,d,m⟩ λacc a h=>h.elim λS h=>q _ _ _ (a7 acc S h.1 _ h.2.cv) h.2.new
theorem IZ(js:List Nat):(js.map Int.ofNat).sum=(js.sum:Int):=by
 induction js with
 |nil=>rfl
 |cons x l a=>refine Y jC<|Y List.sum_cons<|Y List.sum_cons<|Y a ?_;rfl
theorem Ex.I0(h:Ex S l e λv B=>∃r,∃js:List Nat,v= .ref r/\B r=some (.list (js.map iV))/\js.length<=aF/\K (iV js.sum) B):Ex S l (aC (aD .sum) (H e aa)) K:=λb c P p=>h b c _ λv B f q a=>by obtain⟨r,js,rfl,g,d,q⟩:=q;exact⟨_,a _ _ g,js.map Int.ofNat,(c3 ..).symm,bM d,p _ _ _ (IZ js▸q) a⟩
open Classical in
theorem Eg.I1(h:Eg S l e (.ref r)):Eg S l (aH .IsNot e (Mine.cst V.none)) (.bool true):= .cmp h .cst λa Z P p=> .inl ⟨rfl,Y (dd (p:=V.ref r=V.none) λz=>nomatch z) p⟩
theorem EI.pT{a:Nat}(E:EI F UE cnt J g)(h:cnt<=a):EI F UE a J g:={E with se:=ah E.se (bz h _)}
noncomputable def Apart(A:dB):Prop:=A.rl≠A.hi/\A.wa≠A.hi
theorem Rn.pU(N:Rn s A rd C us)(D:Apart A)(b:s A.hi=some (.list hs))(a:List V):Rn (upd s A.hi (.list a)) A rd C us:=by have o:∀{j o},s j=some o->j≠A.hi->upd s A.hi (.list a) j=some o:=λh n=>(bC n).trans h;have ni:∀{j o},s j=some o->(∀l,o≠.list l)->j≠A.hi:=λh n z=>n _<|aT<|(z▸h).symm.trans b;have nl:∀{c fs}(l:List V),aQ.inst c fs≠.list l:=λZ z=>nomatch z;exact⟨o N.rn<|ni N.rn nl,o N.wk<|ni N.wk nl,o N.pl<|ni N.pl nl,o N.rl D.1,N.len,N.aL,λi v u d e=>(N.ru i v u d e).imp λr z=>⟨z.1,o z.2<|ni z.2 nl⟩,o N.op (ni N.op λZ z=>nomatch z),o N.wa D.2,⟨_,aJ⟩⟩
theorem Rn.tick(N:Rn s A rd C us):Rn (upd s A.rn (.inst 573 (dQ A (rd+1)))) A (rd+1) C us:=by have ni:∀{j o},s j=some o->o≠.inst 573 (dQ A rd)->upd s A.rn (.inst 573<|dQ A<|rd+1) j=some o:=λh n=>(bC λz=>n<|aT<|(z▸h).symm.trans N.rn).trans h;have a:∀{c fs},c≠573->aQ.inst c fs≠.inst 573 (dQ A rd):=λh z=>h (aQ.inst.inj z).1;exact⟨aJ,ni N.wk<|a af,ni N.pl<|a af,ni N.rl nofun,N.len,N.aL,λi v u b d=>(N.ru i v u b d).imp λr z=>⟨z.1,ni z.2<|a af⟩,ni N.op nofun,ni N.wa nofun,N.hi.imp λhs z=>ni z nofun⟩
end
section
variable{O:bg->Prop}{UE W:List V}{cnt:Nat}{ac:List Nat}{k:Nat}{I U S J T:TH}{a a':Ro->Nat}{g g' B:G}{l:au}{e e' b:M}{n m c d x y:Nat}{p:Nd}{v w t:V}{K:V->TH->Prop}{op u u':Str}{cs:List Nat}{ks vs ws items acc:List V}{src:cK}{js:List Nat}{i r:Nat}{ds es:List (V×V)}{Q:Fl->au->TH->Prop}{q rest:aE}{R:Nat->List (V×V)->Prop}{X:Rl}{f:List (V×V)->V×V}{A:dB}{rd:Nat}{ab hs:List V}{us:List Rl}
 {Rs:Nat->Nat->List (V×V)->Prop} {fs:Nat->List (V×V)->V×V} {P:V->V->Prop}
noncomputable def hZ(O:bg->Prop)(UE:List V)(B:G)(us:List Rl)(Rs:Nat->Nat->List (V×V)->Prop)(fs:Nat->List (V×V)->V×V)(P:V->V->Prop):Prop:=∀(i:Nat)(X:Rl),us[i]? =some X->Kd O UE B X (Rs i) (fs i)/\∀c es,Rs i c es->P (fs i es).1 (fs i es).2
noncomputable def sQ(I:TH)(A:dB)(B:G)(Rs:Nat->Nat->List (V×V)->Prop)(acc:List V):Prop:=∀(i:Nat)(w:V),acc[i]? =some w->∃r ws,w= .ref r/\I r=some (.list ws)/\r≠A.hi/\pQ B (Rs i) ws
noncomputable def hu(B:G)(R:Nat->List (V×V)->Prop)(f:List (V×V)->V×V):Prop:=∀c es,c<B.nd.length->B.rp c=c->R c es->ev (aO B) (f es).1=ev (aO B) (f es).2
inductive x3(A:dB)(us:List Rl)(I:TH)(a:Ro->Nat)(B:G)(Rs:Nat->Nat->List (V×V)->Prop)(b acc:List V)(J:TH):Prop
 |mk (U:TH):Sub I U->Rep U J a B->sQ U A B Rs acc->b=((List.range us.length).map iV).drop acc.length->acc.length<=us.length->x3 A us I a B Rs b acc J
theorem I3{t u y:Option V}(D:UE.length<=63)(E:∀v∈W,v∈UE)(C:Cl O W cnt B)(N:Rn I A rd ab us)(l:I A.hi=some (.list hs))(G:Rep I S a B)(M:a .hp=A.hp)(Q:hZ O UE B us Rs fs P)
  (h:∀J U r acc,Sub I U->Rep U J a B->acc.length=us.length->sQ U A B Rs acc->U r=some (.list acc)->r≠A.hi->K (.ref r) J):
  Ex S [some<|.ref A.rn,t,some<|.cP 0 us.length 1,u,y] (aS (aI<|vr 2) [0] 1 (aj 1) aK<|aR<|aX (F aU<|k+11) aY (vr 0) "matches"<|H (vr 1) aa) K:=by
 refine .comp (λm acc J=>x3 A us I a B Rs m acc J) (lx us.length▸.cP (.vr rfl) (ly<|ah N.aL af)) ⟨I,.refl I,G,(λZ Z=>a4),rfl,a6 _⟩ (λZ Z Z Z=>trivial) (λv m acc J x=>?_) λacc J x r c=>?_
 .cases x with|mk U s b L j le=>
  obtain⟨rfl,hi,j⟩:=x1 j;have n:us[acc.length]? =some us[acc.length]:=cc hi;refine bN.x (.bP (f:=548) (.vr rfl) (b.base _ _<|s _ _ N.rn) (by kernel_rfl) (.one<|.vr rfl)<|IV (k:=k) D E C (N.sub s) b M n (Q _ _ n).1.pat) λws r d c=>⟨bt hi<|ah N.aL af,⟨upd U r<|.list ws,s.trans<|.new<|b.out c,b.loc c,λi w g=>?_,j.trans (by refine Y a0 ?_;rfl),Y a0 hi⟩⟩;refine Or.elim (gw i acc.length) (λq=>?_) λq=>?_
  .rw[fP q] at g;obtain⟨o,p,R,T,X,ac⟩:=L i w g;exact⟨o,p,R,br (b.out c) T,X,ac⟩
  .have ad:i<acc.length+1:=a0 (as:=acc) (bs:=[.ref r])▸gQ g;obtain rfl:=fi (c6 ad) q;rw[fq] at g;exact⟨r,ws,(aT g).symm,aJ,(cO<|e0 (b.out c)<|s _ _ l),d⟩
 .cases x with|mk U s b L j le=>have e:=x2 j le;exact h _ _ r acc (s.trans<|.new<|b.out c) (b.loc c) e (λi w g=>(L i w g).imp λo z=>z.imp λp z=>⟨z.1,br (b.out c) z.2.1,z.2.2⟩) aJ<|(cO<|e0 (b.out c)<|s _ _ l)
inductive x4(O:bg->Prop)(UE:List V)(cnt:Nat)(A:dB)(us:List Rl)(I:TH)(a:Ro->Nat)(B:G)(Rs:Nat->Nat->List (V×V)->Prop)(fs:Nat->List (V×V)->V×V)(P:V->V->Prop)(hs:List V)(b acc:List V)(J:TH):Prop
 |mk (js:List Nat) (c:List V) (a':Ro->Nat) (g':G):acc=js.map iV->c.length=hs.length+js.length->ht O UE (cnt+3969*js.length) (upd I A.hi<|.list c) J a a' B g' P js.sum->(js.sum=0->∀i,i<js.length->hu B (Rs i) (fs i))->b=((List.range us.length).map iV).drop js.length->js.length<=us.length->x4 O UE cnt A us I a B Rs fs P hs b acc J
theorem ht.pT{b j:Nat}(D:ht O UE cnt I S a a' B g P j)(h:cnt<=b):ht O UE b I S a a' B g P j:={D with E:=D.E.pT h}
theorem I4{ae ag:Option V}{m:Nat}{lt:List V}(ai:UE.length<=63)(ak:cnt+3969*us.length<=900000)(al:∀v∈W,v∈UE)(C:Cl O W cnt B)(N:Rn I A rd ab us)(D:Apart A)(t:I A.hi=some (.list hs))(hh:hs.length+us.length<=1000)(am:Rep I S a B)(an:a .hp=A.hp)(M:hZ O UE B us Rs fs P)
  (Q:lt.length=us.length) (L:sQ I A B Rs lt) (ao:I m=some (.list lt)) (ap:m≠A.hi)
  (h:∀J a' g' c j,c.length=hs.length+us.length->ht O UE (cnt+3969*us.length) (upd I A.hi<|.list c) J a a' B g' P j->(j=0->∀i,i<us.length->hu B (Rs i) (fs i))->K (iV j) J):
  Ex S [some<|.ref A.rn,ae,some<|.cP 0 us.length 1,ag,some<|.ref m] (aC (aD .sum)<|H (aS (aI<|vr 2) [4,0] 1 (aj 2) (c1 (aH .IsNot (ax (vr 0)<|vr 2)<|cst .none) aK)<|aR<|aX (F aU<|k+12) aY (vr 1) "apply_all"<|H (vr 2)<|H (ax (vr 0)<|vr 2) aa) aa) K:=by
 refine .I0<|.IY (λT acc J=>x4 O UE cnt A us I a B Rs fs P hs T acc J) (lx us.length▸.cP (.vr rfl) (ly<|ah N.aL af)) ⟨[],hs,a,B,rfl,rfl,?_,λZ Z=>nofun,rfl,a6 _⟩ (λZ Z Z Z=>trivial) (λv T acc J x=>?_) λacc J x r aq=>?_
 .exact Y (IX t) ⟨rfl,am,(C.E.sup al),.refl B,λZ=>C.md,λz=>absurd rfl z⟩
 .cases x with|mk js c a' g' n p b u d le=>
  obtain⟨rfl,hi,d⟩:=x1 d;have w:us[js.length]? =some us[js.length]:=cc hi;have ar:js.length<lt.length:=Q▸hi;have y:lt[js.length]? =some lt[js.length]:=cc ar;obtain⟨U,ws,e,gr,as,F⟩:=L _ _ y;rw[e] at y;have old:∀{j o},I j=some o->j≠A.hi->J j=some o:=λz q=>b.R.base _ _<|(bC q).trans z;have rn:J A.rn=some (.inst 573<|dQ A rd):=b.R.base _ _ (N.pU D t c).rn;have sb:∀{l},Eg J l (vr 0) (.ref m)->Eg J l (vr 2) (iV js.length)->Eg J l (ax (vr 0)<|vr 2) (.ref U):=λau G=> .eY au G (old ao ap) y<|Y Q<|ah N.aL af;have X:cnt+3969*js.length+ws.length<=cnt+3969*(js.length+1):=Y (dD ..)<|bz (bz F.aL _) _;refine⟨.I1<|sb (.vr rfl)<|.vr rfl,.bP (f:=560) (.vr rfl) rn (by kernel_rfl)<|Es.x (.cons (.vr rfl)<|.one<|sb (.vr rfl)<|.vr rfl)<|IU (k:=k+1) ai (ah X<|ah (bz (eA _ hi) _) ak) (λav q=>?_) (N.pU D t c) an C w (M _ _ w).1 (M _ _ w).2 F (((bC as).trans gr):upd I A.hi (.list c) U=_) b λav aw az ay g2 s q ac G=>?_⟩
  .rw[aJ] at q;obtain rfl:=aQ.list.inj<|aT q;exact Y p<|ah (bz le _) hh
  .rw[aJ] at q;obtain rfl:=aQ.list.inj<|aT q;rw[IW] at ac;have es:(js++[s]).sum=js.sum+s:=by refine Y List.sum_append ?_;rfl
   have g:(js++[s]).length=js.length+1:=a0;refine⟨Y n<|Y (aV ..)<|bt hi<|ah N.aL af,⟨js++[s],c++[aw],ay,g2,by refine Y n<|Y dT ?_;rfl,by refine Y a0<|Y g<|Y p ?_;rfl,Y es<|Y g<|ac.pT X,λz i ad=>?_,Y g d,Y g hi⟩⟩;rw[es] at z;rw[g] at ad;refine Or.elim (gw i js.length) (λq=>?_) λq=>?_
   .exact u (Nat.eq_zero_of_add_eq_zero_right z) i q
   .obtain rfl:=fi (c6 ad) q;exact G z
 .cases x with|mk js c a' g' n p b u d le=>have e:=x2 d le;refine⟨r,js,rfl,n▸aJ,e▸ah N.aL af,?_⟩;have aA:=b;exact h _ a' g' c js.sum (e▸p) (e▸⟨b.hp,b.R.sup<|.new aq,b.E,b.L,b.md,b.pr⟩) λz i hi=>u z i<|e.symm▸hi
end
section
variable{U:bg->Prop}{UE I:List V}{cnt:Nat}{ab:List Nat}{k:Nat}{O X S W T:TH}{a a':Ro->Nat}{g g' B:G}{l:au}{e e' b:M}{n m c d x y:Nat}{p:Nd}{v w t:V}{K:V->TH->Prop}{op u u':Str}{cs:List Nat}{ks vs ws items acc:List V}{src:cK}{js:List Nat}{i r:Nat}{ds es:List (V×V)}{Q:Fl->au->TH->Prop}{q rest:aE}{R:Nat->List (V×V)->Prop}{ac:Rl}{f:List (V×V)->V×V}{A:dB}{rd:Nat}{aa hs:List V}{us:List Rl}
 {Rs:Nat->Nat->List (V×V)->Prop} {fs:Nat->List (V×V)->V×V} {P:G->V->V->Prop} {J:G->List V->Prop}
inductive x5(U:bg->Prop)(UE:List V)(cnt:Nat)(O:TH)(A:dB)(rd:Nat)(us:List Rl)(hs:List V)(a:Ro->Nat)(g:G)(P:G->V->V->Prop)(J:G->List V->Prop)(v:V)(W:TH):Prop
 |mk (a':Ro->Nat) (B g':G) (I:List V) (Rs:Nat->Nat->List (V×V)->Prop) (fs:Nat->List (V×V)->V×V) (j:Nat) (b:List V):v=iV j->Cl U UE cnt B->Le g B->(∀v∈UE,v∈I)->I.length<=63->hZ U I B us Rs fs (P B)->J B I->b.length=hs.length+us.length->
  ht U I (cnt+3969*us.length) (upd (upd O A.hi<|.list b) A.rn<|.inst 573<|dQ A<|rd+1) W a a' B g' (P B) j->(j=0->∀i,i<us.length->hu B (Rs i) (fs i))->x5 U UE cnt O A rd us hs a g P J v W
theorem Rep.down(R:Rep X S a g)(s:Sub O X):Rep O S a g:=⟨s.trans R.base,R.get,λr o h=>h4.mpr λo' z=>((a4<|(R.new r o h).symm.trans<|s _ _ z)),R.inj⟩
theorem Sub.upd{o:aQ}(s:Sub O X):Sub (Mine.upd O i o) (Mine.upd X i o):=λj p h=>by
 unfold Mine.upd at h⊢;split
 .rename_i z;rw[az z] at h;exact h
 .rename_i z;rw[ay z] at h;exact s _ _ h
theorem I5(ae:UE.length<=63)(i:cnt+3969*us.length<=900000)(N:Rn O A rd aa us)(D:Apart A)(m:O A.hi=some (.list hs))(hh:hs.length+us.length<=1000)(c:Rep O S a g)(n:a .hp=A.hp)(E:EI U UE cnt [] g)
  (ag:∀B,Cl U UE cnt B->Le g B->B.nd=g.nd->∃I Rs fs,(∀v∈UE,v∈I)/\I.length<=63/\hZ U I B us Rs fs (P B)/\J B I) (h:∀v W,x5 U UE cnt O A rd us hs a g P J v W->K v W):Fx (F aU<|k+13) 565 [.ref A.rn] S K:=by
 have ln:=kh A rd;refine cT EN rfl<|.jZ<|(Eg.tup (.cons .cst<|.one<|.range<|.ec (.attr (.vr rfl) (c.base _ _ N.rn) ln.2.1) (c.base _ _ N.rl)<|Y N.len<|ah N.aL af) dA).x ⟨_,_,.inl rfl,?_⟩;refine Y N.len<|.dp<|.bP (f:=367) (.attr (.vr rfl) (c.base _ _ N.rn) ln.1) (n▸c.get .hp _ rfl) (by kernel_rfl)<|.nil<|n▸xC (k:=k+7) c E ae (ah (cp _ _) i) λaC ai B G M aj ak Q al Z=>?_;have C:Cl U UE cnt B:=⟨aj,ak⟩;refine hI (ag B C Q al) λI Rs fs o d p am=>?_;have r:ai .hp=A.hp:=G.trans n;refine .ma (.j5 (xZ N M (.vr rfl) "order" (by decide+kernel)<|.str "together") .cst) (λt=>?_) λZ=>?_
 .rw[dd (by decide+kernel:¬("together":Str)="turns")] at t;exact b3 t
 refine .assoc<|.b8<|I3 (k:=k+1) d o C N m M r p λaD X aE lt s an ao L ap aq=>?_;refine .assoc<|.b8<|I4 (k:=k) d i o C (N.sub s) D (s _ _ m) hh an r p ao L ap aq λaF ar aG T j as b au=>?_;have u:=b.R.down s.upd;have e:=N.pU D m T;have ab:ar .hp=A.hp:=b.hp.trans r;refine .assoc<|.dp<|.bP (f:=367) (.attr (.vr rfl) (u.base _ _ e.rn) ln.1) (ab▸u.get .hp _ rfl) (by kernel_rfl)<|.nil<|ab▸xC (k:=k+7) u b.E d i λac av ax ay y az aH ad Z aA=>?_;have aB:∀{l},Eg ac l (vr 0) (.ref A.rn)->Eg ac l (aw (vr 0) "rounds") (iV rd):=λq=> .attr q (y.base _ _ e.rn) ln.2.2.2.2.2.2.1;refine .no<|.attr<|(Eg.l7 (aB<|.vr rfl) .cst).x ⟨A.rn,573,dQ A rd,.vr rfl,y.base _ _ e.rn,?_⟩;exact Y (show gC (dQ A rd) "rounds" (V.int<|(rd:Int)+1)=dQ A (rd+1) from by kernel_rfl)<|.dz (.vr rfl)<|h _ _ ⟨av,B,ax,I,Rs,fs,j,T,rfl,C,Q,o,d,p,am,as,⟨ay.trans<|b.hp.trans G,y.outer e.rn,az,b.L.trans ad,λz=>aA (b.md z).w▸b.md z,λz=>(b.pr z).le ad⟩,au⟩
end
section
variable{O:bg->Prop}{UE W:List V}{cnt:Nat}{ae:List Nat}{k:Nat}{U ag S ab T X:TH}{a a':Ro->Nat}{g g' I ac:G}{l:au}{e e' b:M}{n m c d x y:Nat}{p:Nd}{v w t:V}{K:V->TH->Prop}{op u u':Str}{cs:List Nat}{ks vs ws items acc:List V}{src:cK}{js:List Nat}{i r:Nat}{ds es:List (V×V)}{Q:Fl->au->TH->Prop}{q rest:aE}{R:Nat->List (V×V)->Prop}{ai:Rl}{f:List (V×V)->V×V}{A:dB}{rd:Nat}{ad hs:List V}{us:List Rl}{D:List (V×V)}
 {Rs:Nat->Nat->List (V×V)->Prop} {fs:Nat->List (V×V)->V×V} {P:G->V->V->Prop} {J:Nat->List V->G->Prop}
noncomputable def iA(g:G)(d:V×V):Prop:=ev (aO g) d.1=ev (aO g) d.2/\ev (aO g) d.1<g.nd.length
noncomputable def Ps(O:bg->Prop)(D:List (V×V))(I:G)(t a:V):Prop:=∃d∈D,∀UE cnt g,Cl O UE cnt g->Le I g->(ev (aO g) t=ev (aO g) d.1/\ev (aO g) a=ev (aO g) d.2)\/ev (aO g) t=ev (aO g) d.2/\ev (aO g) a=ev (aO g) d.1
open Classical in
noncomputable def pV(D:List (V×V))(g:G):Nat:=D.countP λd=>decide ¬iA g d
theorem iA.iff{d:V×V}{t a:V}(h:(ev (aO g) t=ev (aO g) d.1/\ev (aO g) a=ev (aO g) d.2)\/ev (aO g) t=ev (aO g) d.2/\ev (aO g) a=ev (aO g) d.1):iA g d↔ev (aO g) t=ev (aO g) a/\ev (aO g) t<g.nd.length:=by
 unfold iA;refine Or.elim h (λe=>jA e λb c=>?_) λf=>jA f λb c=>?_
 .rw[b,c]
 .exact Y b<|Y c ⟨λz=>⟨z.1.symm,z.1▸z.2⟩,λz=>⟨z.1.symm,z.1▸z.2⟩⟩
theorem iA.f3{W:List V}{c:Nat}{d:V×V}(C:Cl O UE cnt I)(a:Cl O W c g)(L:Le I g)(e:∃n,Tm n d.1)(f:∃n,Tm n d.2)(h:iA I d):iA g d:=by have b:=C.f3 a L e h.2;have i:=C.f3 a L f<|h.1▸h.2;refine⟨Y b<|Y i<|Y h.1 rfl,?_⟩;exact Y b<|a.E.c5<|bt h.2<|ee L
open Classical in
theorem I6{W:List V}{g:Nat}(b:∀d∈D,(∃n,Tm n d.1)/\∃n,Tm n d.2)(C:Cl O UE cnt I)(p:mv I (Ps O D I) g')(a:Cl O W g ac)(c:Le I g')(L:Le g' ac):pV D ac<pV D I:=by refine b6 p λt s h nd i=>?_;refine dE i λn m hn hm j k=>?_;refine jA k λl o=>?_;refine ak h λd hd e=>?_;refine pG (λd hd z=>bJ λq=>cf z<|q.f3 C a (c.trans L) (b d hd).1 (b d hd).2) ⟨d,hd,bJ λq=>nd<|(iA.iff<|e _ _ _ C<|.refl I).mp q,dd<|Decidable.not_not.mpr ?_⟩;have f:=bt hn<|ee L;have r:=bt hm<|ee L;refine(iA.iff<|e _ _ _ a<|c.trans L).mpr ?_;exact Y j.symm<|Y l.symm<|Y (L.T n hn).symm<|Y (L.T m hm).symm<|Y (a.ev f)<|Y (a.ev r) ⟨L.rp n m hn hm o,a.E.c5 f⟩
open Classical in
theorem I7(C:Cl O UE cnt I)(p:mv I (Ps O D I) g'):0<pV D I:=by refine b6 p λt c a nd Z=>?_;refine ak a λd hd b=>?_;exact List.countP_pos_iff.mpr ⟨d,hd,bJ λq=>nd<|(iA.iff<|b _ _ _ C<|.refl I).mp q⟩
open Classical in
theorem Eg.I8{e e':M}(h:El S l e vs)(b:El S l e' ws)(c:∀v∈vs,a8 40 v)(d:∀v∈ws,a8 40 v):Eg S l (aH .Eq e e') (.bool (decide (vs=ws))):=λT s f i P k=>h T s f i _ λr j g m=>b _ (s.trans<|.new g) j m _ λo n g' a=> .inr<|.inr ⟨vs,(a.weak g').at,ws,a.at,c,d,k n<|(a.weak g').weak g⟩
theorem Eg.ge{e e':M}{a b:Int}(h:Eg S l e (.int a))(c:Eg S l e' (.int b)):Eg S l (aH .GtE e e') (.bool (decide (a>=b))):= .cmp h c λd Z P p=>p
theorem I9(N:Rn U A (rd+1) ad us)(s:Sub U S){o:Option V}:Eg S [some (.ref A.rn),o] (aH .Eq (aS (aI (aw (vr 0) "wakes")) [0] 1 (aj 1) (c1 (aH .GtE (vr 1) (aw (vr 0) "rounds")) aK) (aR (vr 1))) (cg aa)) (.bool true):=by
 have nil:((List.replicate us.length<|V.int 0).flatMap λZ=>([]:List V))=[]:=List.flatMap_eq_nil_iff.mpr λZ Z=>rfl;have ln:=kh A<|rd+1;refine(λh=>?_:El S [some<|.ref A.rn,o] (aS (aI<|aw (vr 0) "wakes") [0] 1 (aj 1) (c1 (aH .GtE (vr 1)<|aw (vr 0) "rounds") aK)<|aR<|vr 1) ((List.replicate us.length<|V.int 0).flatMap λZ=>[])->_)<|.comp (.list (.attr (.vr rfl) (s _ _ N.rn) ln.2.2.2.2.2.2.2)<|s _ _ N.wa) (λT q=>q _ _<|s _ _ N.wa) (Y nil<|a6 _) λv m=>?_
 .have z:=Eg.I8 h (.lst .nil<|a6 _) (by refine Y nil ?_;nofun) nofun;rw[bJ nil] at z;exact z
 .obtain rfl:=List.eq_of_mem_replicate m;refine .if (b':=false) ?_ nofun λZ=>rfl;have z:=Eg.ge (S:=S) (l:=(cH [0] 1 [some<|.ref A.rn,o]).set 1<|some<|.int 0) (e:=vr 1) (e':=aw (vr 0) "rounds") (a:=0) (.vr rfl)<|.attr (.vr rfl) (s _ _ N.rn) ln.2.2.2.2.2.2.1;rw[dd (p:=(0:Int)>=((rd+1:Nat):Int))<|Int.not_le.mpr<|ij.mpr<|jv rd] at z;exact z
inductive x6(O:bg->Prop)(D:List (V×V))(J:Nat->List V->G->Prop)(X:TH)(A:dB)(ad:List V)(us:List Rl)(I:G)(n:Nat)(l':au)(ab:TH):Prop
 |mk (rd:Nat) (U:TH) (hs UE:List V) (a:Ro->Nat) (g:G) (o:Option V):Sub X U->Rn U A rd ad us->U A.hi=some (.list hs)->hs.length=rd*us.length->Rep U ab a g->a .hp=A.hp->EI O UE (119070*rd) [] g->UE.length<=63->J rd UE g->Le I g->rd<=D.length->
  (∀UE cnt ac,Cl O UE cnt ac->Le g ac->rd+pV D ac<=D.length)->n=D.length-rd->l'=[some<|.ref A.rn,o]->x6 O D J X A ad us I n l' ab
inductive pW(O:bg->Prop)(D:List (V×V))(X:TH)(hp:Nat)(us:List Rl)(I:G)(ab:TH):Prop
 |mk (U:TH) (a:Ro->Nat) (b g':G) (UE W:List V) (cnt c:Nat) (Rs:Nat->Nat->List (V×V)->Prop) (fs:Nat->List (V×V)->V×V):Sub X U->Rep U ab a g'->a .hp=hp->Cl O UE cnt b->EI O W c [] g'->Le I b->Md b g'->hZ O W b us Rs fs (Ps O D b)->(∀i,i<us.length->hu b (Rs i) (fs i))->pW O D X hp us I ab
theorem Sub.put{o:aQ}(s:Sub X U)(h:X i=none):Sub X (Mine.upd U i o):=λj p z=>(bC λe=>by rw[e,h] at z;exact a4 z).trans<|s _ _ z
open Classical in
theorem Ja:(aW [((.str "rounds":V),V.int 12)] (.str "rounds")).getD (.int 30)= .int 12:=by show(if(.str "rounds":V)= .str "rounds" then some (V.int 12) else none).getD (.int 30)= .int 12;refine Y (az rfl) ?_;rfl
theorem Jb(an:D.length<=5)(ao:∀d∈D,(∃n,Tm n d.1)/\∃n,Tm n d.2)(M:us.length<=30)(ae:Apart A)(ap:X A.rn=none)(aq:X A.hi=none)(ar:∀rd UE cnt I,rd<=5->J rd UE I->Cl O UE cnt I->∃W Rs fs,(∀v∈UE,v∈W)/\W.length<=63/\hZ O W I us Rs fs (Ps O D I)/\J (rd+1) W I)
  (ag:∀rd UE g g',J rd UE g->Le g g'->J rd UE g') (s:Sub X U) (N:Rn U A 0 ad us) (m:U A.hi=some (.list [])) (i:Rep U S a g) (u:a .hp=A.hp) (E:EI O UE 0 [] g) (w:UE.length<=63) (y:J 0 UE g) (h:∀v ab,pW O D X A.hp us g ab->K v ab):Fx (F aU<|k+14) 570 [.ref A.rn] S K:=by
 refine cT EP rfl<|.fst<|.while (t:=D.length) (x6 O D J X A ad us g) ⟨0,U,[],UE,a,g,none,s,N,m,(Nat.zero_mul _).symm,i,u,E,w,y,.refl g,a6 _,λZ Z ac Z Z=>(eE _).symm▸List.countP_le_length,rfl,rfl⟩ λn l' ab x=>?_;cases x with|mk rd U hs UE a ac o s N m ai i u E w y L hd as en au=>
 subst au en;have ln:=kh A rd;have r:rd<=5:=ah hd an;have P:∀{l}(nm:Str)(v:V),Eg ab l (vr 0) (.ref A.rn)->(dQ A rd).lookup nm=some v->Eg ab l (aw (vr 0) nm) v:=λnm v q z=> .attr q (i.base _ _ N.rn) z;refine⟨true,?_,λZ=>?_,nofun⟩
 .have z:=Eg.lt (P (l:=[some<|.ref A.rn,o]) _ _ (.vr rfl) ln.2.2.2.2.2.2.1) (Ja▸Eg.getD (a:=cst<|.str "rounds") (b:=cst<|.int 30) (P _ _ (.vr rfl) ln.2.2.1) (i.base _ _ N.op) .cst .cst (ew "rounds"):Eg ab _ _ (.int 12));rw[show decide ((rd:Int)<12)=true from bJ<|ij.mpr (b0 r af:rd<12)] at z;exact z
 have aj:119070*rd+3969*us.length<=119070*(rd+1):=bz (eA 3969 M) _;refine .b8<|.bP (f:=565) (.vr rfl) (i.base _ _ N.rn) (by kernel_rfl)<|.nil<|I5 (k:=k) (J:=λI W=>J (rd+1) W I) w (ah aj<|ah (eA _<|cR r) af) N ae m ?_ i u E (λI C L Z=>ar rd UE _ I r (ag _ _ _ _ y L) C) λv aG x=>?_
 .exact Y ai<|ah (c7 (Nat.mul_le_mul r M) M) af
 clear i E w y hd ln r P Z;cases x with|mk Q g2 ak W Rs fs j T av C L' sub ax ay az aA c aB=>
 subst av;have G:=(N.pU ae m T).tick;have aa:Q .hp=A.hp:=c.hp.trans u;have al:Sub X (upd (upd U A.hi<|.list T) A.rn<|.inst 573<|dQ A<|rd+1):=(s.put aq).put ap;refine .guard (.bP (.vr rfl) (c.R.base _ _ G.rn) (by kernel_rfl) .nil<|xY (k:=k+10) G c.R aa c.E.B) nofun λZ=>?_;refine .guard (.and (b:=true) (.fu (.vr rfl) .cst) λZ=>?_) (λz=>?_) λz=> .pass ?_
 .exact I9 G c.R.base
 .rw[Bool.and_true] at z;obtain rfl:=ih<|cf z;exact .dz .cst<|h _ _ ⟨_,Q,g2,ak,UE,W,_,_,Rs,fs,al,c.R,aa,C,c.E,L.trans L',c.md rfl,ay,aB rfl⟩
 .rw[Bool.and_true] at z;have aC:j≠0:=λe=>by rw[e] at z;cases(bJ rfl).symm.trans z
  have p:=c.pr aC;have aD:A.hi≠A.rn:=λz=>by rw[z,N.rn] at m;cases m
  have am:=as _ _ g2 C L';have lt:rd+1<=D.length:=ah (bz (I7 C p) _) am;exact⟨D.length-(rd+1),Nat.sub_lt_sub_left lt<|eg rd,.mk (rd+1) _ T W Q ak _ al G ((bC aD).trans aJ) (Y aA<|Y ai<|Y (Nat.succ_mul ..) rfl) c.R aa (c.E.pT aj) ax (ag _ _ _ _ az c.L) (L.trans<|L'.trans c.L) lt (λaH aI aK aE aF=>ah (Nat.succ_add rd _▸bz (I6 ao C p aE c.L aF) rd) am) rfl rfl⟩
end
section
variable{f:bg->Prop}{k i m:Nat}{b S d:TH}{l:au}{K:V->TH->Prop}{rest:aE}{Q:Fl->au->TH->Prop}{xs:List (Nat×aQ)}{x r:Nat}{o o':aQ}{c:Addr}{n:Str}{fs:List (Str×V)}{v:V}
theorem nH{c:Type}{l:List c}{i j:Nat}{x:c}(h:l.Nodup)(a:l[i]? =some x)(b:l[j]? =some x):i=j:=by
 refine jE (cN.mp a) λhi a=>?_;refine jE (cN.mp b) λd b=>?_;have w:=List.pairwise_iff_getElem.mp h;refine Or.elim (Nat.lt_trichotomy i j) (λq=>?_) λe=>Or.elim e (λq=>?_) λq=>?_
 .exact absurd (a.trans b.symm)<|w i j hi d q
 .exact q
 .exact absurd (b.trans a.symm)<|w j i d hi q
structure cQ(b S:TH)(xs:List (Nat×aQ)):Prop where
 base:Sub b S
 at_:∀p∈xs,S p.1=some p.2/\b p.1=none
 dG:(xs.map Prod.fst).Nodup
theorem cQ.nil(S:TH):cQ S S []:=⟨.refl S,(λZ=>bw),.nil⟩
theorem cQ.add(A:cQ b S xs)(h:S x=none)(o:aQ):cQ b (upd S x o) ((x,o)::xs):=by
 have a:b x=none:=h4.mpr λp z=>(a4<|h.symm.trans<|A.base _ _ z);refine⟨A.base.trans<|.new h,λp m=>?_,gX.mpr ⟨λm=>?_,A.dG⟩⟩
 .rcases ba.mp m with rfl|m
  .exact⟨aJ,a⟩
  .exact⟨br h (A.at_ p m).1,(A.at_ p m).2⟩
 .refine ak (bS.mp m) λp q e=>?_;have z:=(A.at_ p q).1;rw[show p.1=x from e,h] at z;exact a4 z
theorem cQ.put(A:cQ b S xs)(h:xs[m]? =some (x,o))(o':aQ):cQ b (upd S x o') (xs.set m (x,o')):=by
 have hm:=gQ h;have d:=A.at_ _<|bI h;refine⟨λj p z=>(bC λe=>(a4<|(e▸d.2).symm.trans z)).trans<|A.base _ _ z,λp q=>?_,?_⟩
 .refine jE (fy.mp q) λj a=>?_;by_cases e:m=j
  .subst e;rw[gU hm] at a;clear q;obtain rfl:=aT a;exact⟨aJ,d.2⟩
  .rw[hB e] at a;have hp:=A.at_ _<|bI a;refine⟨(bC λz=>e ?_).trans hp.1,hp.2⟩;have c:(xs.map Prod.fst)[m]? =some x:=by refine Y b9<|Y h ?_;rfl
   have f:(xs.map Prod.fst)[j]? =some x:=by refine Y b9<|Y a<|Y z.symm ?_;rfl
   exact nH A.dG c f
 .refine Y List.map_set ?_;have c:(xs.map Prod.fst)[m]? =some x:=by refine Y b9<|Y h ?_;rfl
  exact Y (show(xs.map Prod.fst).set m x=xs.map Prod.fst from ic λj=>by
   by_cases e:m=j
   .subst e;rw[gU<|gQ c,c]
   .rw[hB e]) A.dG
theorem iB{e:M}(f:l[0]? =some (some (.ref i)))(h:Ex S l e λv d=>∃xs,cQ b d xs/\xs[m]? =some (i,.inst c fs)/\∀a,cQ b a (xs.set m (i,.inst c (gC fs n v)))->Sw a l rest Q):Sw S l (ag (aB (cA (vr 0) n) e) rest) Q:=
 .attr (h.mono λv d z=>by refine bE z λxs A hm q=>?_;exact⟨i,c,fs,.vr f,(A.at_ _ (bI hm)).1,q _ (A.put hm _)⟩)
theorem iC(A:cQ b S xs)(a:l[0]? =some (some (.ref i)))(hm:xs[m]? =some (i,.inst c fs))(h:∀d x,cQ b d ((x,.list [])::xs.set m (i,.inst c (gC fs n (.ref x))))->Sw d l rest Q):Sw S l (ag (aB (cA (vr 0) n) (cg aa)) rest) Q:=iB (m:=m+1) a ((El.lst .nil<|a6 _).x λx e=>⟨_,A.add e _,hm,λf g=>h f x g⟩)
theorem sR(kk:KK)(A:cQ b S xs)(a:l[0]? =some (some (.ref i)))(hm:xs[m]? =some (i,.inst c fs))(h:∀d x,cQ b d ((x,.dict kk [])::xs.set m (i,.inst c (gC fs n (.ref x))))->Sw d l rest Q):Sw S l (ag (aB (cA (vr 0) n) gF) rest) Q:=iB (m:=m+1) a (.pN kk λx e=>⟨_,A.add e _,hm,λf g=>h f x g⟩)
theorem nJ{e:M}(A:cQ b S xs)(a:l[0]? =some (some (.ref i)))(f:Eg S l e v)(hm:xs[m]? =some (i,.inst c fs))(h:∀d,cQ b d (xs.set m (i,.inst c (gC fs n v)))->Sw d l rest Q):Sw S l (ag (aB (cA (vr 0) n) e) rest) Q:=iB (m:=m) a (f.x ⟨_,A,hm,h⟩)
noncomputable def Jc(a b c d:Nat):aQ:= .inst 203 [("nodes",.ref a),("numbers",.ref b),("weights",.ref c),("depths",.ref d)]
theorem Jd(A:cQ b S ((r,.inst 203 [])::xs))(h:∀d a c e f,cQ b d ((f,.list [])::(e,.list [])::(c,.dict .t [])::(a,.list [])::(r,Jc a c e f)::xs)->K .none d):Fx (F aU (k+1)) 115 [.ref r] S K:=cT Dn rfl (iC A (m:=0) rfl rfl λS a A=>sR .t A (m:=1) rfl rfl λS c A=>iC A (m:=2) rfl rfl λS e A=>iC A (m:=3) rfl rfl λS f A=> .pass<|h S a c e f<|cast (by kernel_rfl) A)
noncomputable def Je(a b c:Nat):aQ:= .inst 285 [("above",.ref a),("lots",.ref b),("merged",.ref c)]
theorem Jf(A:cQ b S ((r,.inst 285 [])::xs))(h:∀d a c e,cQ b d ((e,.list [])::(c,.list [])::(a,.list [])::(r,Je a c e)::xs)->K .none d):Fx (F aU (k+1)) 221 [.ref r] S K:=cT DB rfl (iC A (m:=0) rfl rfl λS a A=>iC A (m:=1) rfl rfl λS c A=>iC A (m:=2) rfl rfl λS e A=> .pass<|h S a c e<|cast (by kernel_rfl) A)
noncomputable def iD:G:=⟨λZ=> .none,λn=>n,[],[],[],[],[],[],[],[],[],[],[],λZ=>[],[]⟩
noncomputable def pX:Ro->Nat
 | .waiting=>0| .above=>1| .known=>2| .ho=>3| .gc=>4| .merged=>5| .eZ=>6| .up=>7| .un=>8| .gb=>9| .gM=>10| .fv=>11| .nodes=>12| .cL=>13| .hp=>14|_=>15
noncomputable def x7(n:Nat):Ro:=([.waiting,.above,.known,.ho,.gc,.merged,.eZ,.up,.un,.gb,.gM,.fv,.nodes,.cL,.hp]:List Ro).getD n .hp
theorem cQ.rep{a:Ro->Nat}{g:G}(A:cQ b S xs)(h:∀r o,dh a g r=some o->xs[pX r]? =some (a r,o)/\x7 (pX r)=r):Rep b S a g:=
 ⟨A.base,λr o z=>(A.at_ _ (bI (h r o z).1)).1,λr o z=>(A.at_ _ (bI (h r o z).1)).2,λr c o o' z i e=>by
  have d:=h r o z;have f:=h c o' i;have j:(xs.map Prod.fst)[pX r]? =some (a r):=by refine Y b9<|Y d.1 ?_;rfl
  have k:(xs.map Prod.fst)[pX c]? =some (a r):=by refine Y b9<|Y f.1<|Y e ?_;rfl
  refine Y d.2.symm<|Y f.2.symm ?_;exact ar x7 (nH A.dG j k)⟩
theorem EI.new{UE:List V}:EI f UE 0 [] iD where
 B:=⟨a6 _,(λZ Z=>a4),λp v=>⟨λh=>((a4 h)),λ⟨n,_,h⟩=>((a4 h))⟩,rfl,rfl,rfl⟩
 len:=rfl
 U:=⟨a6 _,nofun,nofun,nofun⟩
 L:=⟨rfl,nofun⟩
 tm:=(λZ Z=>a4)
 cY:=nofun
 inj:=nofun
 out:=λZ Z=>rfl
 snd:=λZ Z Z=>rfl
 kn:=λp v h=>((a4 h))
 d9:=(λZ Z=>a4)
 wt:=(λZ=>bw)
 dG:= .nil
 bu:=λc=>⟨λh=>((bw h)),λh=>(nomatch h.1)⟩
 use:=(λZ Z Z=>a4)
 gP:=(λZ=>bw)
 sz:=aM _
 sm:=aM _
 sf:=aM _
 se:=aM _
theorem Jg(f:S r=none)(h:∀d a,a .hp=r->Rep S d a iD->K .none d):Fx (F aU (k+2)) 303 [.ref r] (upd S r (.inst 415 [])) K:=by
 refine cT DQ rfl<|iB (m:=5) rfl<|.new<|.nil λg j=>Jd (k:=k) (((cQ.nil S).add f _).add j _) λb l n p q A=>⟨rfl,_,A,rfl,λb A=>?_⟩;refine iB (m:=9) rfl<|.new<|.nil λru s=>Jf (k:=k) (A.add s _) λb u v w A=>⟨rfl,_,A,rfl,λb A=>?_⟩;refine iC A (m:=9) rfl rfl λS x A=>iC A (m:=10) rfl rfl λS y A=>sR .t A (m:=11) rfl rfl λS z A=>sR .i A (m:=12) rfl rfl λS B A=>iC A (m:=13) rfl rfl λS C A=> .pass ?_;refine h S (λ| .hp=>r| .cL=>g| .un=>ru| .nodes=>l| .fv=>n| .gM=>p| .gb=>q| .up=>u| .eZ=>v| .merged=>w| .gc=>x| .ho=>y| .known=>z| .above=>B| .waiting=>C|_=>0) rfl<|A.rep λD o e=>?_;cases D with
 |aP i=>exact(a4 e)
 |ab c=>exact(bw<|((lp e).1:c∈([]:List Nat)))
 |_=>obtain rfl:=aT e;exact⟨by kernel_rfl,rfl⟩
end
section
variable{u:bg->Prop}{k i m:Nat}{t S f B:TH}{l:au}{K:V->TH->Prop}{e:M}{rest:aE}{Q:Fl->au->TH->Prop}{xs:List (Nat×aQ)}{x r:Nat}{o o':aQ}{c:Addr}{n:Str}{fs:List (Str×V)}{v:V}{vs w:List V}{us:List Rl}{a:Ro->Nat}{g:G}
noncomputable def je:List (Nat×aQ)->TH->TH
 |[],B=>B
 |p::xs,B=>upd (je xs B) p.1 p.2
theorem x8:∀{xs:List (Nat×aQ)}{j:Nat}{o:aQ},je xs B j=some o->(j,o)∈xs\/B j=some o
 |[],j,o,h=> .inr h
 |p::xs,j,o,h=>by
  by_cases e:j=p.1
  .subst e;obtain rfl:=aT<|aJ.symm.trans h;exact .inl<|.head _
  .exact(x8<|(bC e).symm.trans h).imp_left<|.tail _
theorem x9:∀{xs:List (Nat×aQ)}{p:Nat×aQ},(xs.map Prod.fst).Nodup->p∈xs->je xs B p.1=some p.2
 |q::xs,p,h,m=>by
  refine jA (gX.mp h) λa b=>?_;clear h;rcases ba.mp m with rfl|m
  .exact aJ
  .exact(bC λe=>a (by exact Y e.symm<|gm m)).trans<|x9 b m
theorem sS:∀{xs:List (Nat×aQ)}{j:Nat},(∀p∈xs,j≠p.1)->je xs B j=B j
 |[],j,h=>rfl
 |p::xs,j,h=>(bC<|h p<|.head _).trans<|sS λq m=>h q<|.tail _ m
theorem cQ.old(A:cQ S f xs)(s:Sub B S):Sub B (je xs B):=λj o h=>(sS λp m=>e0 (A.at_ p m).2<|s _ _ h).trans h
theorem Rep.Jh(R:Rep B S a g)(A:cQ S f xs):Rep (je xs B) f a g:=⟨λj o h=>(x8 h).elim (λm=>(A.at_ _ m).1) λz=>A.base _ _<|R.base _ _ z,λr o h=>A.base _ _<|R.get r o h,λr o h=>(sS λp m=>e0 (A.at_ p m).2<|R.get r o h).trans<|R.new r o h,R.inj⟩
theorem Eg.Ji(h:Eg S l e (.ref r))(g:S r=some (.list vs))(c:∃kk,∀v∈vs,bK kk v)(f:vs.length<=64)(nd:vs.Nodup):Eg S l (dV lX e) (.int vs.length):=λT s i j P k=>h T s i j _ λa b=>⟨vs,b _ _ (s _ _ g),c,f,λd hd hm=>by show P (.int (d.length:Nat)) a;refine Y (fi (hd.length_le_of_subset λv m=>(hm v).mp m)<|nd.length_le_of_subset λv m=>(hm v).mpr m) ?_;exact k a b⟩
theorem El.mul{e':M}{x:V}(h:El S l e [x])(b:Eg S l e' (.int (m:Nat)))(c:m<=100000):El S l (a9 .Mult e e') (List.replicate m x):=λT s d f P k=>h T s d f _ λr i g j=>b _ (s.trans (.new g)) i j _ λn a=> .inr ⟨[x],a.at,x,rfl,⟨eR m,fT.mpr c⟩,by
 refine Y (fR ..) ?_;exact k _ _ (a.weak g).cv (a.weak g).new⟩
open Classical in
theorem Eg.ya{e e':M}{b:Bool}(h:Eg S l e v)(a:Eg S l e' (.tup vs))(c:a8 30 v)(d:∀v∈vs,a8 30 v)(f:b=true↔v∈vs):Eg S l (aH .NotIn e e') (.bool !b):= .cmp h a λg Z P p=> .inl ⟨c,d,by
 rw[show b=decide (v∈vs) from by rw[iM,f,h8]] at p;exact p⟩
theorem Jj{hp:Nat}(A:cQ t S ((r,.inst 453 [])::xs))(h:∀f,cQ t f ((r,.inst 453 [("heap",.ref hp)])::xs)->K .none f):Fx (F aU (k+1)) 433 [.ref r,.ref hp] S K:=cT Ej rfl (nJ A (m:=0) rfl (.vr rfl) rfl λS A=> .pass<|h S A)
theorem Jk{hp:Nat}(A:cQ t S ((r,.inst 518 [])::xs))(h:∀f,cQ t f ((r,.inst 518 [("heap",.ref hp)])::xs)->K .none f):Fx (F aU (k+1)) 498 [.ref r,.ref hp] S K:=cT Ez rfl (nJ A (m:=0) rfl (.vr rfl) rfl λS A=> .pass<|h S A)
end
section
variable{t:bg->Prop}{k i m:Nat}{y S f B T:TH}{l:au}{K:V->TH->Prop}{e:M}{rest:aE}{Q:Fl->au->TH->Prop}{xs:List (Nat×aQ)}{x r:Nat}{o o':aQ}{c:Addr}{n:Str}{fs:List (Str×V)}{v:V}{vs d:List V}{us:List Rl}{a:Ro->Nat}{g:G}
structure dC(S:TH)(d:List V)(us:List Rl):Prop where
 len:d.length=us.length
 at_:∀(i:Nat)(v:V)(u:Rl),d[i]? =some v->us[i]? =some u->gh S v u
theorem dC.sup(h:dC S d us)(s:Sub S T):dC T d us:=⟨h.len,λi v u a b=>(h.at_ i v u a b).imp λr z=>⟨z.1,s _ _ z.2⟩⟩
noncomputable def yb:aQ->List (Str×V)| .inst _ fs=>fs|_=>[]
noncomputable def Jl:V->Nat| .ref r=>r|_=>0
noncomputable def nK(S:TH)(n:Str)(v:V):V:=((((S<|Jl v).map yb).getD []).lookup n).getD .none
theorem gh.fld{u:Rl}(h:gh S v u){e:M}(a:Eg S l e v){n:Str}{w:V}(hn:(gg u.nm u.l u.r).lookup n=some w):Eg S l (aw e n) w:=by refine ak h λr b g=>?_;clear h;obtain rfl:=b;exact .attr a g hn
theorem gh.of{u:Rl}(h:gh S v u){n:Str}{w:V}(hn:(gg u.nm u.l u.r).lookup n=some w):nK S n v=w:=by refine ak h λr a g=>?_;clear h;obtain rfl:=a;show((((S r).map yb).getD []).lookup n).getD .none=w;refine Y g ?_;show((gg u.nm u.l u.r).lookup n).getD .none=w;refine Y hn ?_;rfl
theorem dC.names(h:dC S d us):d.map (nK S "name")=us.map λu=> .str u.nm:=ic λi=>by
 refine Y b9<|Y b9<|Or.elim (gw i us.length) (λq=>?_) λq=>?_
 .have a:d[i]? =some (d[i]'(h.len▸q)):=cc (h.len▸q);have b:us[i]? =some us[i]:=cc q;exact Y a<|Y b<|ar some<|(h.at_ i _ _ a b).of (fK _ _ _).1
 .refine Y (ez q)<|Y (ez<|h.len▸q) ?_;rfl
theorem dC.mem(h:dC S d us)(m:v∈d):∃u∈us,gh S v u:=by refine jE (fy.mp m) λi hi=>?_;have q:i<us.length:=h.len▸gQ hi;exact⟨us[i],gW q,h.at_ i _ _ hi<|cc q⟩
theorem dC.yc{js:List Nat}(h:dC S d us)(a:Eg S l e (.ref r))(g:S r=some (.list d))(aL:us.length<=63)(hi:i<(cH js 1 l).length):El S l (aS (aI e) js 1 (aj i) aK (aR (aw (vr i) "name"))) (us.map λu=> .str u.nm):=by refine Y h.names.symm<|.map (.list a g) (λT s=>s _ _ g) (h.len▸ah aL af) λv m=>?_;refine ak (h.mem m) λu Z q=>?_;exact Y (q.of (fK _ _ _).1)<|q.fld (.vr<|gU hi) (fK _ _ _).1
noncomputable def mw(A:dB)(nm:Nat)(d:List V)(us:List Rl):List (Nat×aQ):=[(A.wa,.list<|List.replicate us.length<|.int 0),(A.re,.list<|List.replicate us.length<|.int 0),(A.hi,.list []),(A.pl,.inst 518 [("heap",.ref A.hp)]),(A.wk,.inst 453 [("heap",.ref A.hp)]),(A.rl,.list d),(nm,.list<|us.map λu=> .str u.nm),(A.rn,.inst 573<|dQ A 0)]
theorem Jm{rn hp c op:Nat}(g:S rn=none)(D:S c=some (.list d))(g2:S op=some (.dict .s [(.str "rounds",.int 12)]))(n:dC S d us)(aL:us.length<=63)(dG:(us.map Rl.nm).Nodup)
  (h:∀f A nm,A.rn=rn->A.hp=hp->A.op=op->cQ S f (mw A nm d us)->K .none f):Fx (F aU<|k+2) 534 [.ref rn,.ref hp,.ref c,.ref op] (upd S rn<|.inst 573 []) K:=by
 have u:∀{j:Nat}{o o':aQ},S j=some o->upd S rn o' j=some o:=λz=>br g z;have r:d.length<=63:=n.len▸aL;have nl:(us.map λu=>V.str u.nm).length=us.length:=aV _
 have I:∀{T:TH}{l:au},T op=some (.dict .s [(.str "rounds",.int 12)])->Eg T l (vr 3) (.ref op)->Eg T l (bB (bG .get) (bH .get) (vr 3)<|H (cst<|.str "order")<|H (cst<|.str "together") aa) (.str "together"):=λq t=>by have z:=Eg.getD (a:=cst<|.str "order") (b:=cst<|.str "together") t q .cst .cst<|ew "order";rw[sO "order" (by decide+kernel)] at z;exact z
 refine cT EC rfl<|.guard (.ya (b:=true) (I (u g2)<|.vr rfl) .cst (.str _ _) ?_ ⟨λZ=> .head _,λZ=>rfl⟩) b3 λZ=>?_
 .intro v m;rcases ba.mp m with rfl|m
  .exact .str _ _
  rcases ba.mp m with rfl|m
  .exact .str _ _
  rcases ba.mp m with rfl|m
  .exact .str _ _
  .exact(bw m)
 have J:=n.sup<|.new (o:= .inst 573 []) g;refine .b8<|(J.yc (.vr rfl) (u D) aL<|jv _).x λnm L=>?_;have A1:=((cQ.nil S).add g<|.inst 573 []).add L<|.list<|us.map λu=> .str u.nm;have M:=Eg.ec (S:=upd (upd S rn<|.inst 573 []) nm<|.list<|us.map λu=> .str u.nm) (l:=[some<|.ref rn,some<|.ref hp,some<|.ref c,some<|.ref op,some<|.ref nm]) (e:=vr 4) (.vr rfl) aJ (by exact Y nl<|ah aL af);refine .guard (.lt (.Ji (.vr rfl) aJ ⟨.s,λv m=>?_⟩ (Y nl<|gp aL) ?_) M) (λz=>absurd (cf z)<|Int.lt_irrefl _) λZ=>?_
 .refine ak (bS.mp m) λu Z N=>?_;clear m;obtain rfl:=N;exact ew _
 .exact List.pairwise_map.mpr<|(List.pairwise_map.mp dG).imp λh e=>h<|V.str.inj e
 refine nJ A1 (m:=1) rfl (.vr rfl) rfl λam E=>?_;refine iB (m:=2) rfl<|(El.pn (.vr rfl) (E.base _ _ D)<|ah r af).x λrl O=>⟨_,E.add O _,rfl,λan P=>?_⟩;refine nJ P (m:=2) rfl (.vr rfl) rfl λao Q=>?_;refine iB (m:=3) rfl<|.new<|Es.x (.one<|.vr rfl) λwk R=>Jj (k:=k) (Q.add R _) λU w=>⟨rfl,_,w,rfl,λU w=>?_⟩;refine iB (m:=4) rfl<|.new<|Es.x (.one<|.vr rfl) λpl W=>Jk (k:=k) (w.add W _) λX y=>⟨rfl,_,y,rfl,λX y=>?_⟩;refine iC y (m:=4) rfl rfl λap hi ab=>?_;refine nJ ab (m:=5) rfl .cst rfl λaq B=>?_;have G:∀{T:TH}{l:au}{fs:List (Str×V)},Eg T l (vr 0) (.ref rn)->T rn=some (.inst 573 fs)->T rl=some (.list d)->fs.lookup ("rules":Str)=some (.ref rl)->El T l (a9 .Mult (cg<|H (cst<|.int 0) aa)<|aC (aD .len)<|H (aw (vr 0) "rules") aa) (List.replicate us.length<|.int 0):=λt ac ad ae=>n.len▸.mul (.lst (.one .cst) dO) (.ec (.attr t ac ae) ad<|ah r af) (ah r af);have at_:∀{T xs}{p:Nat×aQ}(A:cQ S T xs)(i:Nat),xs[i]? =some p->T p.1=some p.2:=λA i h=>(A.at_ _<|bI h).1;refine iB (m:=6) rfl<|(G (.vr rfl) (at_ B 5 rfl) (at_ B 3 rfl) (by kernel_rfl)).x λre ag=>⟨_,B.add ag _,rfl,λar C=>?_⟩;refine iB (m:=7) rfl<|(G (.vr rfl) (at_ C 6 rfl) (at_ C 4 rfl) (by kernel_rfl)).x λwa ai=>⟨_,C.add ai _,rfl,λaj al=>?_⟩;exact .pass<|h aj ⟨rn,hp,rl,op,wk,pl,hi,re,wa⟩ nm rfl rfl rfl<|cast (by kernel_rfl) al
end
section
variable{f:bg->Prop}{k i m:Nat}{q S d B T:TH}{l:au}{K:V->TH->Prop}{e:M}{rest:aE}{Q:Fl->au->TH->Prop}{xs:List (Nat×aQ)}{x r nm:Nat}{o o':aQ}{c:Addr}{n:Str}{fs:List (Str×V)}{v t:V}{vs ks b:List V}{us:List Rl}{a:Ro->Nat}{g:G}{A:dB}
theorem Jo(c:cQ S d (mw A nm b us))(s:Sub B S)(g2:B A.op=some (.dict .s [(.str "rounds",.int 12)]))(f:dC B b us)(aL:us.length<=63):Rn (je (mw A nm b us) B) A 0 b us/\je (mw A nm b us) B A.hi=some (.list [])/\Apart A/\B A.rn=none/\B A.hi=none:=by
 have a:∀{p:Nat×aQ}(i:Nat),(mw A nm b us)[i]? =some p->je (mw A nm b us) B p.1=some p.2/\B p.1=none:=λi h=>⟨x9 c.dG<|bI h,h4.mpr λo z=>(a4<|((c.at_ _<|bI h).2).symm.trans<|s _ _ z)⟩;have g:=c.old s;refine⟨⟨(a 7 rfl).1,(a 4 rfl).1,(a 3 rfl).1,(a 5 rfl).1,f.len,ah aL af,(f.sup g).at_,g _ _ g2,(a 0 rfl).1,_,(a 2 rfl).1⟩,(a 2 rfl).1,⟨λe=>?_,λe=>?_⟩,(a 7 rfl).2,(a 2 rfl).2⟩
 .exact absurd (nH (i:=5) (j:=2) (x:=A.hi) c.dG (e▸rfl) rfl) af
 .exact absurd (nH (i:=0) (j:=2) (x:=A.hi) c.dG (e▸rfl) rfl) af
end
section
variable{y:bg->Prop}{k i j m N:Nat}{C S u B T:TH}{l:au}{K:V->TH->Prop}{e b:M}{rest:aE}{Q:Fl->au->TH->Prop}{xs:List (Nat×aQ)}{x r nm:Nat}{o o':aQ}{c:Addr}{n op:Str}{fs:List (Str×V)}{v w t:V}{vs ws ks D:List V}{us:List Rl}{a:Ro->Nat}{g:G}{A:dB}
theorem eN.lst{fn:aG}{f:Addr}(h:eN fn f vs S (· =ws)):Fn fn f vs S ws:=λT s a b P k=>h T s a b P λe r c d=>by clear h;subst d;exact k r c
theorem Sub.re(h:Sub (Mine.upd T r o) u)(o':aQ):Sub (Mine.upd T r o') (Mine.upd u r o'):=λj p z=>by
 by_cases e:j=r
 .clear h;subst e;rw[aJ] at z⊢;exact z
 .rw[bC e] at z⊢;exact h _ _<|(bC e).trans z
theorem Gb.yd{a:Mg}(h:Gb S (a ((l.set i (some v)).set j (some w))) ws):Gb S (gI (cB 2 (bb (aj i) (bb (aj j) cu))) aK a l (.tup [v,w])) ws:=λT s b c acc P d q=> .inl ⟨rfl,v,[w],rfl,w,[],rfl,rfl,h T s b c acc P d q⟩
inductive Pt:Nat->V->Prop
 |mk (n:Nat) (op:Str) (ks:List V):(op∈cX\/op∈cw/\ks=[])->ks.length<=2->(∀k∈ks,Pt n k)->Pt (n+1) (.tup<|.str op::ks)
noncomputable def jf:V->List V
 | .tup (_::ks)=>ks
 |_=>[]
noncomputable def kj(f:V->List (List V×V)):Nat->List V->List (List V×V)
 |_,[]=>[]
 |i,k::ks=>(f k).map (λp=>(iV i::p.1,p.2))++kj f (i+1) ks
noncomputable def fL:Nat->V->List (List V×V)
 |0,t=>[([],t)]
 |n+1,t=>([],t)::kj (fL n) 0 (jf t)
noncomputable def jg(p:List V×V):V:= .tup [.tup p.1,p.2]
noncomputable def h1:V->List V
 | .tup l=>l
 |_=>[]
noncomputable def pre(i v:V):V:= .tup [.tup<|i::h1 ((h1 v).headD .none),(h1 v).getD 1 .none]
theorem Jp(i:V)(L:List (List V×V)):(L.map jg).flatMap (λv=>[pre i v])=(L.map λp=>(i::p.1,p.2)).map jg:=by refine Y (j6 ..).symm<|Y c3<|Y c3 ?_;rfl
theorem Jq{f:V->List (List V×V)}{m d:Nat}(h:∀k∈ks,(f k).length<=m/\∀p∈f k,p.1.length<=d):∀i,(kj f i ks).length<=ks.length*m/\∀p∈kj f i ks,p.1.length<=d+1:=by
 induction ks with
 |nil=>exactλi=>⟨a6 _,(λZ=>bw)⟩
 |cons k ks b=>
  intro i;refine jA (b (λq a=>h q<|.tail _ a)<|i+1) λc e=>?_;refine⟨?_,λp hp=>?_⟩
  .show((f k).map _++kj f (i+1) ks).length<=(ks.length+1)*m;exact Y a0<|Y (aV ..)<|Y (Nat.succ_mul ..)<|Y (d3 ..)<|c7 c (h k<|.head _).1
  .refine Or.elim (cD.mp hp) (λhp=>?_) λhp=>?_
   .refine ak (bS.mp hp) λq a g=>?_;clear hp;obtain rfl:=g;exact cR<|(h k<|.head _).2 q a
   .exact e p hp
theorem pY(h:Pt N t):(fL N t).length<=3^N/\∀p∈fL N t,p.1.length<=N:=by
 induction h with
 |mk n op ks _ a _ b=>
  refine jA (Jq (ks:=ks) b 0) λc d=>?_;refine⟨?_,λp hp=>?_⟩
  .show(kj (fL n) 0 ks).length+1<=3^n*3;have:1<=3^n:=Nat.one_le_pow _ _ af;exact Y (Nat.mul_succ ..)<|Y (Nat.mul_comm ..)<|c7 (ah c<|Nat.mul_le_mul_right _ a) this
  .rcases ba.mp hp with rfl|hp
   .exact a6 _
   .exact d p hp
inductive ye(T:TH)(t:V)(n r:Nat)(a b c:List V)(l':au)(u:TH):Prop
 |mk (e f:Option V) (i:Nat) (ks:List V) (d:List V):c=fa i ks->(∀k∈ks,k∈a)->Sub (upd T r<|.list d) u->d++(kj (fL n) i ks).map jg=b->l'=[some t,some<|.ref r,e,f]->ye T t n r a b c l' u
theorem Jr(h:Pt N t)(l:N<=5):eN (F aU (k+N)) 96 [t] S λws=>ws=(fL N t).map jg:=by
 induction h generalizing S with
 |mk n op ks B o q C=>
  have hn:n<=5:=jr l;have P:((fL (n+1)<|.tup<|.str op::ks).map jg).length<=3^(n+1):=Y (aV ..) (pY<|.mk n op ks B o q).1;refine pO Dj rfl λT s=> .b8<|(El.lst (.one<|.tup (.cons (.tup .nil<|a6 _)<|.one<|.vr rfl) dA) dO).x λr D=>?_;refine .then (.for (ye T (.tup<|.str op::ks) n r ks<|(fL (n+1)<|.tup<|.str op::ks).map jg) (.G6<|.f9 (.vr rfl) ⟨aM _,kf _ _,jc o⟩) ⟨none,none,0,ks,[.tup [.tup [],.tup<|.str op::ks]],rfl,λZ=>id,.refl _,rfl,rfl⟩ (λZ Z Z Z=>trivial) (λv O l' u x=>?_) λl' u x=>?_)
  .cases x with|mk E G i b d c e f a j=>
   subst j;cases b with
   |nil=>exact eG c
   |cons kd b=>
    refine jA (b5 c) λI J=>?_;obtain rfl:=I;clear c;obtain rfl:=J;have w:=e kd<|.head _;refine jA (pY<|q kd w) λK L=>?_;have y:∀{m},m<=5->3^m<=243:=λh=>Nat.pow_le_pow_right af h;have A:(((fL n kd).map jg).flatMap λv=>[pre (iV i) v]).length<=243:=Y (l9 ..)<|Y (aV ..)<|ah K<|y hn
    have fl:d.length<=243:=by have z:=ar List.length a;rw[a0,aV] at z;exact ah (cp _ _)<|z▸ah P (y l)
    refine .me<|.dp<|.G8 (.vr rfl) (f _ _ aJ) (.r8 (g:=λv=>[pre (iV i) v]) (.new<|.call (.one<|.vr rfl) (C kd w hn).lst) ?_ λv m=>?_) ?_<|.pass ?_
    .exact ah A af
    .refine ak (bS.mp m) λp hp M=>?_;clear m;obtain rfl:=M;exact .yd<|.elt<|.tup (.cons (.ny (.tup (.one<|.vr rfl) dO) (.vr rfl)<|ah (bz (ah (L p hp) hn) 1) af)<|.one<|.vr rfl) dA
    .exact ah (c7 fl A) af
    .exact Y (Jp ..) ⟨_,_,i+1,b,_,rfl,λk m=>e k<|.tail _ m,f.re _,by rw[gV,←dT];exact a,rfl⟩
  .cases x with|mk E G i b d c e f a j=>
   subst j;clear e;cases b with
   |nil=>have a:d++[]=_:=a;rw[d2] at a;exact .dz (.vr rfl) ⟨r,d,rfl,D,a,f⟩
   |cons kd b=>exact ik c
end
section
variable{C:bg->Prop}{k i j m N:Nat}{E S I B T:TH}{l:au}{K:V->TH->Prop}{e e' b:M}{rest:aE}{Q:Fl->au->TH->Prop}{xs:List (Nat×aQ)}{x r nm:Nat}{o o':aQ}{c:Addr}{n op:Str}{fs:List (Str×V)}{v w t:V}{vs ws ks J:List V}{us:List Rl}{a:Ro->Nat}{g:G}{A:dB}{D:List V->Prop}
theorem bN.Js(h:bN S l e D)(hs:∀vs,D vs->vs.length<=63/\∀v∈vs,∃x:Str,v= .str x):bN S l (dV hk e) λws=>∃vs,D vs/\gN vs ws:=λT s n o P k=>h T s n o _ λvs r B d g c=>by
 refine jA (hs vs d) λf q=>?_;refine⟨vs,c.at,⟨.s,λv m=>?_⟩,gp f,λds nd m=> .inr ⟨⟨hD<|ah (nd.length_le_of_subset λv w=>(m v).mp w) f,λa i b j=>?_,.inr<|.inl λv w=>?_⟩,λr p=>k _ _ _ ⟨vs,d,p.nodup_iff.mpr nd,λv=>p.mem_iff.trans<|m v⟩ (c.weak g).cv (c.weak g).new⟩⟩
 .refine jE (q v m) λx t=>?_;clear m;obtain rfl:=t;exact .s x
 .refine jE (q a<|(m a).mp i) λx u=>?_;clear i;obtain rfl:=u;refine jE (q b<|(m b).mp j) λy z=>?_;clear j;obtain rfl:=z;exact .str _ _ _
 .refine jE (q v<|(m v).mp w) λx A=>?_;clear w;obtain rfl:=A;exact .s x
theorem bN.yf{js:List Nat}{kk:Nat}{tt:Mt}{c':Mb}{b:Mg}{f:V->List V}(h:bN S l e D)(i:∀vs,D vs->(vs.flatMap f).length<=aF)(j:∀vs,D vs->∀v,v∈vs->Gb S (gI tt c' b (cH js kk l) v) (f v)):bN S l (aS (aI e) js kk tt c' b) λws=>∃vs,D vs/\ws=vs.flatMap f:=λT s k n P q=>h T s k n _ λvs r o d g c=>
 .inr (.inl ⟨vs,c.at,la (f:=f) (s.trans<|.new g) (λp a=>a.at) (λv m=>j vs d v m) [] (pq<|i vs d) o c _ λp a=>q _ _ _ ⟨vs,d,rfl⟩ (a.weak g).cv (a.weak g).new⟩)
theorem Gb.if2{c:Mg}{b':Bool}(h:Eg S ((l.set i (some v)).set j (some w)) e (.bool b'))(a:b'=true->Gb S (c ((l.set i (some v)).set j (some w))) ws)(b:b'=false->ws=[]):Gb S (gI (cB 2 (bb (aj i) (bb (aj j) cu))) (c1 e aK) c l (.tup [v,w])) ws:=λT s g k acc P m q=> .inl ⟨rfl,v,[w],rfl,w,[],rfl,rfl,h T s g k _ λd f=>match b',a,b with
 |true,a,_=>a rfl T s d f acc P m q
 |false,_,b=>by have q:=q d f;rw[b rfl,d2] at q;exact q⟩
noncomputable def jh(v:V):V:=(h1 v).headD .none
open Classical in
noncomputable def dR(v:V):Bool:=decide (∃u∈cw,v= .tup [.str u])
theorem sT(h:Pt N t):∀p∈fL N t,∃n,Pt n p.2:=by
 induction h with
 |mk n op ks a b c d=>
  intro p hp;rcases ba.mp hp with rfl|hp
  .exact⟨n+1,.mk n op ks a b c⟩
  .have e:∀(l:List V) i,(∀k∈l,k∈ks)->∀p∈kj (fL n) i l,∃n,Pt n p.2:=λl=>by
    induction l with
    |nil=>exactλi Z p m=>((bw m))
    |cons k l f=>
     intro i q p m;refine Or.elim (cD.mp m) (λm=>?_) λm=>?_
     .refine ak (bS.mp m) λg j o=>?_;clear m;obtain rfl:=o;exact d k (q k<|.head _) g j
     .exact f (i+1) (λk m=>q k<|.tail _ m) p m
   exact e ks 0 (λZ=>id) p hp
theorem sU:cX.all (λx=> !cw.elem x)=true:=by decide+kernel
open Classical in
theorem yg(h:Pt N t):Fg (F aU (k+1)) 86 [t] S (.bool (dR t)):=by
 cases h with
 |mk n op ks a b c=>
  clear c;rcases a with a|⟨a,rfl⟩
  .exact Y (show dR (.tup (.str op::ks))=false from dd λ⟨u,d,e⟩=>by have e:=V.str.inj (b5<|V.tup.inj e).1;have z:=e3.mp sU op a;rw[e,List.elem_eq_true_of_mem d] at z;exact b3 z) (nG a b)
  .exact Y (show dR (.tup [.str op])=true from bJ ⟨op,a,rfl⟩)<|sJ a
noncomputable def bV(N:Nat)(t:V):List V:=(fL N t).flatMap λp=>if dR p.2 then[jh p.2] else[]
theorem bN.call{fn:aG}{f:Addr}{es:Ms}(h:Es S l es vs)(hf:eN fn f vs S D):bN S l (b2 fn f es) D:=λT s a b P k=>h T s a b _ λc d=>hf T s c d P k
theorem Jt(h:Pt N t)(b:N<=3):eN (F aU (k+N+1)) 91 [t] S (gN (bV N t)):=by
 obtain⟨a,rfl⟩:∃n,N=n+1:=by clear b;cases h;exact⟨_,rfl⟩
 have z:=(pY h).1;have c:((fL (a+1) t).map jg).flatMap (λv=>if dR ((h1 v).getD 1 .none) then[jh<|(h1 v).getD 1 .none] else[])=bV (a+1) t:=List.flatMap_map ..;have e:(bV (a+1) t).length<=27:=ah (mr _ (λp=>by split;exact aM 1;exact a6 1) _)<|ah z<|Nat.pow_le_pow_right af b;refine nF Dh rfl<|(bN.Js (.yf (f:=λv=>if dR ((h1 v).getD 1 .none) then[jh<|(h1 v).getD 1 .none] else[]) (D:=λws=>ws=(fL (a+1) t).map jg) (bN.call (.one<|.vr rfl)<|Jr h<|ah b af) (λvs d=>?_) λvs d v m=>?_) λvs d=>?_).mono λws h=>?_
 .exact Y d<|Y c<|ah e af
 .subst d;refine ak (bS.mp m) λp hp l=>?_;clear m;obtain rfl:=l;refine jE (sT h p hp) λn q=>?_;refine .if2 (b':=dR p.2) (.call (.one<|.vr rfl)<|yg (k:=k+a) q) (λz=>?_) λz=>?_
  .show Gb S _ (if dR p.2 then[jh p.2] else[]);refine Y (az z) ?_;clear z;generalize hs:p.2=s at q⊢;clear hs;cases q with
   |mk n op ks _ g _=>exact .elt<|.eu (j:=0) (.vr rfl) .cst rfl<|jd g
  .show(if dR p.2 then[jh p.2] else[])=[];exact Y (ay (by rw[z];nofun)) rfl
 .refine ak d λo r u=>?_;obtain rfl:=r;clear d;obtain rfl:=u;refine Y c ⟨ah e af,λv m=>?_⟩;refine ak (fD.mp m) λp hp m=>?_;refine jE (sT h p hp) λn q=>?_;generalize p.2=s at q m;cases q with
  |mk n op ks _ g _=>
   split at m
   .exact⟨op,a3.mp m⟩
   .exact nomatch m
 .refine ak h λvs i h=>?_;refine ak i λo w x=>?_;obtain rfl:=w;clear i;obtain rfl:=x;exact c▸h
end
section
variable{O:bg->Prop}{k i j m N I:Nat}{R S E B T:TH}{l:au}{K:V->TH->Prop}{e e' b:M}{rest q:aE}{Q:Fl->au->TH->Prop}{xs:List (Nat×aQ)}{x r nm:Nat}{o o':aQ}{c:Addr}{n op:Str}{fs:List (Str×V)}{u v w t C:V}{vs ws ks U:List V}{us:List Rl}{a:Ro->Nat}{g:G}{A:dB}{D J:List V->Prop}
theorem bN.add(h:bN S l e D)(i:bN S l e' J)(j:∀a b,D a->J b->a.length+b.length<=aF):bN S l (a9 .Add e e') λws=>∃a b,(D a/\J b)/\ws=a++b:=λT s m n P k=>h T s m n _ λvs r o d g p=>i _ (s.trans<|.new g) o p _ λws q t f g' c=>
 .inr (.inr<|.inr ⟨vs,(c.weak g').at,ws,c.at,j vs ws d f,k _ _ _ ⟨vs,ws,⟨d,f⟩,rfl⟩ ((c.weak g').weak g).cv ((c.weak g').weak g).new⟩)
open Classical in
theorem Eg.yh(h:Eg S l e (.ref r))(g:S r=some (.list vs))(b:El S l e' ws)(c:∀v∈vs,a8 40 v)(d:∀v∈ws,a8 40 v):Eg S l (aH .NotEq e e') (.bool !decide (vs=ws)):=λT s f i P k=>h T s f i _ λj m=>b T s j m _ λo n g' a=> .inl<|.inr<|.inr ⟨vs,(a.weak g') _ _<|s _ _ g,ws,a.at,c,d,k n<|a.weak g'⟩
theorem Eg.yi{b:Bool}(h:Eg S l e v)(a:Eg S l e' (.ref r))(g:S r=some (.list vs))(c:a8 30 v)(d:∀v∈vs,a8 30 v)(f:b=true↔v∈vs):Eg S l (aH .NotIn e e') (.bool !b):=by
 classical
 refine .cmp h a λj i P p=> .inr<|.inl ⟨c,vs,i _ _ g,d,?_⟩;rw[show b=decide (v∈vs) from by rw[iM,f,h8]] at p;exact p
theorem Sw.Ju(h:Sw S (((l.set i (some u)).set j (some v)).set m (some w)) q Q):Sw S l (Mine.dF (cB 3 (bb (aj i) (bb (aj j) (bb (aj m) cu)))) q (.tup [u,v,w])) Q:=λa b P k=> .inl ⟨rfl,u,[v,w],rfl,v,[w],rfl,w,[],rfl,rfl,h a b P k⟩
theorem El.Jv(h:Eg S l e (.tup vs))(b:vs.length<=aF):El S l (aC (aD .list) (H e aa)) vs:=λT s c d P k=>h T s c d _ λf a=> .inl<|.inl ⟨b,k _ _ a.cv a.new⟩
inductive yj(a:TH)(t:V)(p:au)(b:List V)(l':au)(E:TH):Prop
 |mk (c d e f:Option V):Sub a E->(∀v∈b,v= .tup [.str "alike",t,t])->l'=p++[c,d,e,f]->yj a t p b l' E
theorem yk(h:Pt N t):∀v∈bV N t,∃x:Str,v= .str x:=λv m=>by
 refine ak (fD.mp m) λp hp m=>?_;refine jE (sT h p hp) λn q=>?_;generalize p.2=s at q m;cases q with
 |mk n op ks _ a _=>
  split at m
  .exact⟨op,a3.mp m⟩
  .exact(bw m)
theorem nL(h:Pt N t)(a:N<=3):eN (F aU (k+4)) 91 [t] S (gN (bV N t)):=by have z:=Jt (k:=k+(3-N)) (S:=S) h a;rw[show k+(3-N)+N=k+3 from Y (dD ..)<|Y (Nat.sub_add_cancel a) rfl] at z;exact z
theorem pZ(h:Pt N t)(a:N<=3):(bV N t).length<=27:=ah (mr _ (λp=>by split;exact aM 1;exact a6 1) _)<|ah (pY h).1<|Nat.pow_le_pow_right af a
theorem ym(c:Pt N t)(U:dR t=false)(g:Pt I C)(B:N<=3)(p:I<=3)(hs:∀v∈bV I C,v∈bV N t)(ax:S r=none)(h:∀E,Sub (upd S r (.inst 480 (gg n t C))) E->K .none E):Fx (F aU (k+6)) 470 [.ref r,.str n,t,C,.tup []] (upd S r (.inst 480 [])) K:=by
 have ay:=pZ c B;have D:=pZ g p;refine cT Et rfl<|.guard (t:=false) (.call (.one<|.vr rfl)<|U▸yg (k:=k+4) c) b3 λZ=>?_;refine .b8<|(bN.call (.one<|.vr rfl)<|nL (k:=k+1) c B).x λkn i G W=>?_;refine .b8<|(El.add (vs:=[.tup [.str "alike",C,C]]) (ws:=[]) (.lst (.one<|.tup (.cons .cst<|.cons (.vr rfl)<|.one<|.vr rfl) (by decide:3<=aF)) dO) (.Jv (.vr rfl)<|a6 _) dO).x λj J=>?_;refine Y (d2 ..) ?_;generalize u:upd (upd (upd S r<|.inst 480 []) i<|.list kn) j (.list [.tup [.str "alike",C,C]])=o;have O:o j=some (.list [.tup [.str "alike",C,C]]):=u▸aJ;have X:o i=some (.list kn):=u▸br J aJ;have ab:Sub (upd S r<|.inst 480 []) o:=u▸(Sub.new W).trans (.new J);refine .then (.for (yj o C [some<|.ref r,some<|.str n,some t,some C,some<|.tup [],some<|.ref i,some<|.ref j]) (.list (.vr rfl) O) ⟨none,none,none,none,.refl _,λv m=>a3.mp m,rfl⟩ (λac l' E x=>x.casesOn λZ Z Z Z s Z Z=>s _ _ O) (λv ac l' E x=>?_) λl' E x=>?_)
 .cases x with|mk ad ae ai P s hm w=>
  subst w;obtain rfl:=hm v<|.head _;refine .Ju<|.guard (.ya (b:=true) (.vr rfl) (.tup (.cons .cst<|.one .cst) dA) (.str _ _) ?_ ⟨λZ=> .head _,λZ=>rfl⟩) b3 λZ=>?_
  .intro v m;rcases ba.mp m with rfl|m
   .exact .str _ _
   .exact Y (a3.mp m)<|.str _ _
  have two:=bN.add (S:=E) (l:=[some<|.ref r,some<|.str n,some t,some C,some<|.tup [],some<|.ref i,some<|.ref j,some<|.str "alike",some C,some C,P]) (e:=b2 (F aU<|k+5) 91<|H (vr 8) aa) (e':=b2 (F aU<|k+5) 91<|H (vr 9) aa) (.call (.one<|.vr rfl)<|nL (k:=k+1) g p) (.call (.one<|.vr rfl)<|nL (k:=k+1) g p) λa b d A=>ah (c7 (ah d.len D)<|ah A.len D) af;have nil:∀L:List V,(L.flatMap λZ=>([]:List V))=[]:=λL=>List.flatMap_eq_nil_iff.mpr λZ Z=>rfl;refine .b8<|(bN.yf (f:=λZ=>[]) two (λvs d=>(nil vs).symm▸a6 _) λvs d v m=>?_).x λws az Q aj=>?_
  .refine cq d λa b al am=>?_;clear d;obtain rfl:=am;refine jA al λd A=>?_;have R:v∈bV I C:=(cD.mp m).elim (d.2 v).mp (A.2 v).mp;refine jE (yk g v R) λx an=>?_;clear m;obtain rfl:=an;refine .if (b':=false) (.yi (b:=true) (.vr rfl) (.vr rfl) (s _ _ X) (.str _ _) (λv m=>?_) ⟨λZ=>(G.2 _).mpr<|hs _ R,λZ=>rfl⟩) b3 λZ=>rfl;refine jE (yk c v<|(G.2 v).mp m) λy ao=>?_;clear m;obtain rfl:=ao;exact .str _ _
  .refine ak Q λvs Z ap=>?_;clear Q;obtain rfl:=ap;refine Y (nil ..)<|.guard (.yh (.vr rfl) aJ (.lst .nil<|a6 _) (λZ=>bw) λZ=>bw) (λz=>?_) λZ=> .pass ⟨_,_,_,_,s.trans<|.new aj,λv m=>hm v<|.tail _ m,rfl⟩;rw[bJ rfl] at z;exact b3 z
 .cases x with|mk ad ae ai P s hm w=>subst w;have aq:=ab.trans s;have fld:∀{T:TH}{l:au}{rest:aE}{e:M}{fs:List (Str×V)}{nm:Str}{v:V},Sub (upd S r<|.inst 480 fs) T->Eg T l (vr 0) (.ref r)->Eg T l e v->(∀T,Sub (upd S r<|.inst 480<|gC fs nm v) T->Sw T l rest λfl x E=>K (eX fl) E)->Sw T l (ag (aB (cA (vr 0) nm) e) rest) λfl x E=>K (eX fl) E:=λs ar as q=> .attr<|as.x ⟨r,480,_,ar,s _ _ aJ,q _<|s.re _⟩;refine fld aq (.vr rfl) (.vr rfl) λT s1=>fld s1 (.vr rfl) (.vr rfl) λT s2=>fld s2 (.vr rfl) (.vr rfl) λT av=>fld av (.vr rfl) (.r7<|.vr rfl) λT aw=> .pass<|h T<|cast (by kernel_rfl) aw
end
section
variable{y:bg->Prop}{k i j m N p:Nat}{z S d B T:TH}{l:au}{K:V->TH->Prop}{e e' b:M}{rest q:aE}{Q:Fl->au->TH->Prop}{xs:List (Nat×aQ)}{x r nm:Nat}{o o':aQ}{c:Addr}{n op:Str}{fs:List (Str×V)}{u v w t f:V}{vs ws ks C:List V}{us:List Rl}{a:Ro->Nat}{g:G}{A:dB}{D E:List V->Prop}{ds:List (V×V)}
theorem Jw{rr:Nat}(g:S rr=some (.inst 480 (gg n f t)))(hn:n.length<=100)(c:Pt N t)(e:dR t=false)(i:Pt p f)(j:N<=3)(l:p<=3)(hs:∀v∈bV p f,v∈bV N t)(h:∀r d,S r=none->Sub (upd S r (.inst 480 (gg (n++"-back") t f))) d->K (.ref r) d):Fx (F aU (k+7)) 477 [.ref rr] S K:=
 have a:=fK n f t
 cT Ew rfl (.iw<|.new<|Es.x (.cons (.r6 (.attr (.vr rfl) g a.1) .cst<|ah (ef hn _) (by decide+kernel))<|.cons (.attr (.vr rfl) g a.2.2.1)<|.cons (.attr (.vr rfl) g a.2.1)<|.one<|.attr (.vr rfl) g a.2.2.2) λr b=>ym c e i j l hs b λd s=>⟨rfl,h r d b s⟩)
noncomputable def iE(N:Nat)(ds:List (V×V))(t:V):V:=match N with
 |0=>t
 |N+1=> .tup<|(aW ds<|jh t).getD (jh t)::(jf t).map (iE N ds)
theorem Jx(h:Pt N t)(hd:∀T,Sub S T->T r=some (.dict .s ds)):Fg (F aU (k+N)) 101 [t,.ref r] S (iE N ds t):=by
 induction h with
 |mk n op ks d a e b=>
  have c:=hd S<|.refl S;refine hl Dl rfl<|.ny (vs:=[(aW ds<|.str op).getD<|.str op]) (.tup (.one<|.getD (.vr rfl) c (.eu (j:=0) (.vr rfl) .cst rfl<|jd a) (.eu (j:=0) (.vr rfl) .cst rfl<|jd a)<|ew op) dO) (.nz (.map (g:=iE n ds) (.tup<|.f9 (.vr rfl) ⟨aM _,kf _ _,jc a⟩) (λZ Z=>trivial) (ah a af) λv m=> .call (.cons (.vr rfl)<|.one<|.vr rfl)<|b v m) ?_) ?_
  .exact Y (aV ..)<|ah a af
  .exact Y (aV ..)<|ah (bz a 1) af
end
section
variable{k i j m N o:Nat}{r S A B T:TH}{l:au}{K:V->TH->Prop}{u v w t a:V}{vs ws ks C UE:List V}{ds:List (V×V)}{x y z:Str}{ps n:List (V×V)}{p q:V×V}
noncomputable def lf(x:Str):V:= .tup [.str x]
noncomputable def f1(t:V):V:= .tup [.str "f",t]
noncomputable def g2(t u:V):V:= .tup [.str "g",t,u]
noncomputable def fM:List Str:=["a","b","c"]
inductive Sd(L:List Str):V->Prop
 |l (x:Str):x∈L->Sd L (lf x)
 |f (x:Str):x∈L->Sd L (f1<|lf x)
 |ff (x:Str):x∈L->Sd L (f1<|f1<|lf x)
 |g (x y:Str):x∈L->y∈L->Sd L (g2 (lf x)<|lf y)
noncomputable def bR:V×V:=(cx "?x" "?y",cx "?y" "?x")
noncomputable def c8(p:V×V):Prop:=p=bR\/Sd fM p.1/\Sd fM p.2
open Classical in
noncomputable def fN(I:bg)(p:V×V):Prop:=if p=bR then∀x y,I "g" [x,y]=I "g" [y,x] else ev I p.1=ev I p.2
noncomputable def dq(ps:List (V×V))(p:V×V):Prop:=∀I,(∀q∈ps,fN I q)->fN I p
theorem dq.mono(h:dq ps p)(s:∀q∈ps,q∈n):dq n p:=λI a=>h I λq m=>a q<|s q m
theorem dq.cut(h:∀q∈ps,dq n q)(a:dq ps p):dq n p:=λI b=>a I λq m=>h q m I b
theorem dq.self(h:p∈ps):dq ps p:=λI a=>a p h
noncomputable def bx:List Str:=["a","b","c","leafx","leafy","own1","own2"]
theorem hv(h:x∈bx):x∈cX:=(by decide+kernel:∀x∈bx,x∈cX) x h
theorem nM(h:x∈fM):x∈bx:=(by decide+kernel:∀x∈fM,x∈bx) x h
theorem Sd.gi(h:Sd fM t):Sd bx t:=by
 cases h with
 |l x h=>exact .l x<|nM h
 |f x h=>exact .f x<|nM h
 |ff x h=>exact .ff x<|nM h
 |g x y h a=>exact .g x y (nM h)<|nM a
theorem Pt.lf(h:x∈cX):Pt (N+1) (lf x):= .mk N x [] (.inl h) (a6 _) λZ=>bw
theorem Pt.f1(h:Pt N t):Pt (N+1) (f1 t):= .mk N "f" [t] (.inl (by decide+kernel)) (by decide:1<=2) λk m=>Y (a3.mp m) h
theorem Pt.g2(h:Pt N t)(b:Pt N a):Pt (N+1) (g2 t a):= .mk N "g" [t,a] (.inl (by decide+kernel)) (aM 2) λk m=>by
 rcases ba.mp m with rfl|m
 .exact h
 .exact Y (a3.mp m) b
theorem Sd.pt(h:Sd bx t):Pt 3 t:=by
 cases h with
 |l x h=>exact .lf<|hv h
 |f x h=>exact .f1<|.lf<|hv h
 |ff x h=>exact .f1<|.f1<|.lf<|hv h
 |g x y h a=>exact .g2 (.lf<|hv h)<|.lf<|hv a
open Classical in
theorem ji{op:Str}(h:op∈cX):dR (.tup (.str op::ks))=false:=dd λ⟨u,a,e⟩=>by have e:=V.str.inj (b5<|V.tup.inj e).1;have z:=e3.mp sU op h;rw[e,List.elem_eq_true_of_mem a] at z;exact b3 z
theorem Sd.yn(h:Sd bx t):dR t=false:=by
 cases h with
 |l x h=>exact ji<|hv h
 |f x h=>exact ji (by decide+kernel)
 |ff x h=>exact ji (by decide+kernel)
 |g x y h a=>exact ji (by decide+kernel)
theorem p3{b:Bool}{v:V}(h:b=false):(if b then[v] else[])=([]:List V):=by refine Y h ?_;rfl
theorem Sd.bV(h:Sd bx t):bV 3 t=[]:=by
 have z:=h.yn;have a:∀{x:Str}{d},x∈bx->(if dR (lf x) then[d] else[])=([]:List V):=λh=>p3<|ji<|hv h;have b:∀{ks:List V}{d},(if dR (.tup<|.str "f"::ks) then[d] else[])=([]:List V):=p3<|ji (by decide+kernel);have c:∀{ks:List V}{d},(if dR (.tup<|.str "g"::ks) then[d] else[])=([]:List V):=p3<|ji (by decide+kernel);refine List.flatMap_eq_nil_iff.mpr λp hp=>?_;clear z;cases h with
 |l x h=>exact Y (a3.mp (hp:p∈[_]))<|a h
 |f x h=>
  rcases ba.mp hp with rfl|hp
  .exact b
  .exact Y (a3.mp (hp:p∈[_]))<|a h
 |ff x h=>
  rcases ba.mp hp with rfl|hp
  .exact b
  rcases ba.mp hp with rfl|hp
  .exact b
  .exact Y (a3.mp (hp:p∈[_]))<|a h
 |g x y h e=>
  rcases ba.mp hp with rfl|hp
  .exact c
  rcases ba.mp hp with rfl|hp
  .exact a h
  .exact Y (a3.mp (hp:p∈[_]))<|a e
noncomputable def c9(t:V):List V:=(fL 3 t).map Prod.snd
theorem Sd.sV(h:Sd bx t):(c9 t).length<=3:=by
 cases h with
 |l=>exact(by decide:1<=3)
 |f=>exact(by decide:2<=3)
 |ff=>exact aM 3
 |g=>exact aM 3
theorem Tu.lf(h:x∈cX)(m:lf x∈UE):Tu UE (N+1) (lf x):= .mk N x [] h (a6 _) m λZ=>bw
theorem Tu.f1(h:Tu UE N t)(m:f1 t∈UE):Tu UE (N+1) (f1 t):= .mk N "f" [t] (by decide+kernel) (by decide:1<=2) m λk m=>Y (a3.mp m) h
theorem Tu.g2(h:Tu UE N t)(b:Tu UE N a)(m:g2 t a∈UE):Tu UE (N+1) (g2 t a):= .mk N "g" [t,a] (by decide+kernel) (aM 2) m λk m=>by
 rcases ba.mp m with rfl|m
 .exact h
 .exact Y (a3.mp m) b
theorem Sd.tu(h:Sd bx t)(s:∀v∈c9 t,v∈UE):Tu UE 3 t:=by
 have c:∀i v,(c9 t)[i]? =some v->v∈UE:=λi v z=>s v<|bI z;clear s;cases h with
 |l x h=>exact .lf (hv h)<|c 0 _ rfl
 |f x h=>exact .f1 (.lf (hv h)<|c 1 _ rfl)<|c 0 _ rfl
 |ff x h=>exact .f1 (.f1 (.lf (hv h)<|c 2 _ rfl)<|c 1 _ rfl)<|c 0 _ rfl
 |g x y h a=>exact .g2 (.lf (hv h)<|c 1 _ rfl) (.lf (hv a)<|c 2 _ rfl)<|c 0 _ rfl
theorem Sd.Jy(h:Sd bx t)(m:g2 u v∈c9 t):t=g2 u v:=by
 have ne:∀{x:Str},g2 u v≠lf x:=λe=>((eG<|(b5<|V.tup.inj e).2));have a:∀{w:V},g2 u v≠f1 w:=λe=>((eG<|(b5 (b5<|V.tup.inj e).2).2));cases h with
 |l x h=>exact absurd (a3.mp (m:_∈[_])) ne
 |f x h=>
  refine Or.elim (ba.mp m) (λe=>?_) λm=>?_
  .exact absurd e a
  .exact absurd (a3.mp (m:_∈[_])) ne
 |ff x h=>
  refine Or.elim (ba.mp m) (λe=>?_) λm=>?_
  .exact absurd e a
  refine Or.elim (ba.mp m) (λe=>?_) λm=>?_
  .exact absurd e a
  .exact absurd (a3.mp (m:_∈[_])) ne
 |g x y h b=>
  refine Or.elim (ba.mp m) (λe=>?_) λm=>?_
  .exact e.symm
  refine Or.elim (ba.mp m) (λe=>?_) λm=>?_
  .exact absurd e ne
  .exact absurd (a3.mp (m:_∈[_])) ne
end
section
variable{A:bg->Prop}{k i j m n N B cnt c rd d x y:Nat}{u v w t D:V}{r UE F:List V}{g g' o:G}{p:Nd}
noncomputable def iF(r:List V):List V:=r.flatMap c9
inductive Fr(r:List V)(g:G)(t:V):Prop
 |old:t∈iF r->Fr r g t
 |mk (a b mu c:Nat):a<g.nd.length->b<g.nd.length->mu<g.nd.length->c<g.nd.length->t=g2 (g.T a) (g.T b)->g2 (g.T mu) (g.T c)∈r->(g.rp a=g.rp mu/\g.rp b=g.rp c\/g.rp a=g.rp c/\g.rp b=g.rp mu)->Fr r g t
structure Jn(r:List V)(c rd:Nat)(UE:List V)(g:G):Prop where
 len:UE.length<=3*r.length+c*rd
 sub:∀v∈iF r,v∈UE
 p4:∀t∈UE,Fr r g t
theorem Jn.le(J:Jn r c rd UE g)(L:Le g g'):Jn r c rd UE g':=by
 refine⟨J.len,J.sub,λt m=>?_⟩;have z:=λ{n}(h:n<g.nd.length)=>bt h<|ee L;cases J.p4 t m with
 |old m=>exact .old m
 |mk d i mu j a b e f k l o=>exact .mk d i mu j (z a) (z b) (z e) (z f) (Y (L.T _ a)<|Y (L.T _ b) k) (Y (L.T _ e)<|Y (L.T _ f) l)<|o.imp (λq=>⟨L.rp _ _ a e q.1,L.rp _ _ b f q.2⟩) λq=>⟨L.rp _ _ a f q.1,L.rp _ _ b e q.2⟩
theorem Jz(hs:∀t∈r,Sd bx t)(h:g2 u v∈iF r):g2 u v∈r:=by refine ak (fD.mp h) λt a m=>?_;exact(hs t a).Jy m▸a
theorem nN{u v u' v':V}(h:g2 u v=g2 u' v'):u=u'/\v=v':=by have e:=(b5<|V.tup.inj h).2;exact⟨(b5 e).1,(b5 (b5 e).2).1⟩
noncomputable def Gm(r:List V)(g:G)(x y mu a:Nat):Prop:=(mu<g.nd.length/\a<g.nd.length)/\g2 (g.T mu) (g.T a)∈r/\(x=g.rp mu/\y=g.rp a\/x=g.rp a/\y=g.rp mu)
theorem Jn.nx(J:Jn r c rd UE o)(hs:∀t∈r,Sd bx t)(C:Cl A UE cnt o)(h:Nx o d x y):∃mu k,Gm r o x y mu k:=by
 refine b6 h λn p hn Z e=>?_;have u:p.1="g":=ar Prod.fst e;have i:p.2.map o.rp=[x,y]:=ar Prod.snd e
 obtain⟨g,k2,j⟩:∃g k2,p.2=[g,k2]:=by
  match hp:p.2,(ar List.length i:(p.2.map o.rp).length=2) with
  |[g,k2],_=>exact⟨g,k2,rfl⟩
 rw[j] at i;have v:o.rp g=x:=(b5 i).1;have w:o.rp k2=y:=(b5 (b5 i).2).1;clear h e i;subst v w;have l:g<o.nd.length:=C.E.iy hn<|j▸.head _;have s:k2<o.nd.length:=C.E.iy hn<|j▸.tail _ (.head _);have tn:o.T n=g2 (o.T g) (o.T k2):=by refine Y (C.E.tm n p hn).1<|Y u<|Y j ?_;rfl
 cases J.p4 _ (C.E.cY n<|dW hn) with
 |old m=>exact⟨g,k2,⟨l,s⟩,Jz hs<|tn▸m,.inl ⟨rfl,rfl⟩⟩
 |mk F G mu k a b e f z B D=>have q:=nN<|tn.symm.trans z;exact⟨mu,k,⟨e,f⟩,B,Y (C.E.inj _ _ l a q.1)<|Y (C.E.inj _ _ s b q.2) D⟩
open Classical in
noncomputable def kl(r:List V)(g:G):List V:=r.flatMap λt=>if h:∃q:Nat×Nat,(q.1<g.nd.length/\q.2<g.nd.length)/\t=g2 (g.T q.1) (g.T q.2) then[g2 (g.T<|g.rp h.choose.1)<|g.T<|g.rp h.choose.2,g2 (g.T<|g.rp h.choose.2)<|g.T<|g.rp h.choose.1] else[]
theorem JA:(kl r g).length<=2*r.length:=by
 unfold kl;induction r with
 |nil=>exact a6 _
 |cons t l a=>
  refine Y fh<|Y a0<|Y fS<|Y (Nat.mul_succ ..)<|Y (d3 ..)<|c7 a ?_;split
  .exact aM 2
  .exact a6 2
theorem yo(C:Cl A UE cnt o){mu c:Nat}(h:Gm r o x y mu c):g2 (o.T x) (o.T y)∈kl r o:=by
 refine b1 h λi m h=>?_;refine jA i λd f=>?_;refine fD.mpr ⟨_,m,?_⟩;have g:∃q:Nat×Nat,(q.1<o.nd.length/\q.2<o.nd.length)/\g2 (o.T mu) (o.T c)=g2 (o.T q.1) (o.T q.2):=⟨(mu,c),⟨d,f⟩,rfl⟩;refine Y (dif_pos g) ?_;refine jA g.choose_spec λj e=>?_;refine jA j λa b=>?_;refine jA (nN e) λk l=>?_;refine Y (C.E.inj _ _ d a k).symm<|Y (C.E.inj _ _ f b l).symm ?_;rcases h with⟨rfl,rfl⟩|⟨rfl,rfl⟩
 .exact .head _
 .exact .tail _<|.head _
theorem JB(C:Cl A UE cnt o)(h:t∈kl r o):∃x y mu c:Nat,t=g2 (o.T x) (o.T y)/\Gm r o x y mu c:=by
 refine ak (fD.mp h) λs hs m=>?_;split at m
 .rename_i d;refine jA d.choose_spec λf e=>?_;refine jA f λa b=>?_;clear h;rcases ba.mp m with rfl|m
  .exact⟨_,_,_,_,rfl,⟨a,b⟩,e▸hs,.inl ⟨rfl,rfl⟩⟩
  .exact Y (a3.mp m) ⟨_,_,_,_,rfl,⟨a,b⟩,e▸hs,.inr ⟨rfl,rfl⟩⟩
 .exact(bw m)
theorem Jn.next(J:Jn r c rd UE o)(f:2*r.length<=c)(C:Cl A UE cnt o):Jn r c (rd+1) (UE++kl r o) o:=by
 refine⟨?_,λv m=>dJ _<|J.sub v m,λt m=>(cD.mp m).elim (J.p4 t) λm=>?_⟩
 .exact Y a0<|Y (Nat.mul_succ ..)<|Y (dD ..).symm<|c7 J.len<|ah JA f
 .refine cj (JB C m) λx y g=>?_;refine dE g λmu d e i hm h=>?_;refine jA i λa b=>?_;have rr:∀{x},x<o.nd.length->o.rp (o.rp x)=o.rp x:=λh=>C.E.U.rr _<|C.E.len.symm▸h
  exact h.elim (λh=> .mk x y mu d (h.1▸C.E.c5 a) (h.2▸C.E.c5 b) a b e hm<|.inl ⟨(ar o.rp h.1).trans<|rr a,(ar o.rp h.2).trans<|rr b⟩)
   λh=> .mk x y mu d (h.1▸C.E.c5 b) (h.2▸C.E.c5 a) a b e hm<|.inr ⟨(ar o.rp h.1).trans<|rr b,(ar o.rp h.2).trans<|rr a⟩
end
section
variable{D:bg->Prop}{k i j m n N F cnt c rd d x y mu o:Nat}{u v w t K:V}{b UE A:List V}{g g' a:G}{p:Nd}{ps:List (V×V)}{us:List Rl}{B:Rl}
noncomputable def cU(ps:List (V×V))(I:bg):Prop:=∀q∈ps,fN I q
noncomputable def iG(t:V):V×V:=(t,g2 ((jf t).getD 1 .none)<|(jf t).headD .none)
open Classical in
noncomputable def hx(b:List V)(ps:List (V×V)):List (V×V):=ps.filter (λp=>decide<|p≠bR)++if bR∈ps then(b.filter λt=>decide (∃u v,t=g2 u v)).map iG else[]
structure Cx(b:List V)(c:Nat)(ps:List (V×V))(us:List Rl):Prop where
 sd:∀t∈b,Sd bx t
 pr:∀p∈ps,p=bR\/p.1∈b/\p.2∈b
 us:∀u∈us,(u.l,u.r)∈ps\/(u.r,u.l)∈ps
 JC:bR∈ps->2*b.length<=c
 sz:3*b.length+c*6<=63
 JD:(hx b ps).length<=5
theorem km(I:bg)(u v:V):ev I (g2 u v)=I "g" [ev I u,ev I v]:=fJ I _ _
theorem fN.gr{I:bg}{q:V×V}(h:fN I q)(n:q≠bR):ev I q.1=ev I q.2:=by unfold fN at h;rw[if_neg n] at h;exact h
theorem fN.sw{I:bg}(h:fN I bR):∀x y,I "g" [x,y]=I "g" [y,x]:=by unfold fN at h;rw[if_pos rfl] at h;exact h
open Classical in
theorem Gm.done(C:Cl D UE cnt a)(sw:bR∈ps)(h:Gm b a x y mu o):Ps D (hx b ps) a (g2 (a.T x) (a.T y)) (g2 (a.T y) (a.T x)):=by
 refine b1 h λf hm h=>?_;refine jA f λd e=>?_;refine⟨(g2 (a.T mu)<|a.T o,g2 (a.T o)<|a.T mu),?_,λUE cnt g i L=>?_⟩
 .unfold hx;exact Y (az sw)<|dS _<|bS.mpr ⟨_,ig.mpr ⟨hm,bJ ⟨_,_,rfl⟩⟩,rfl⟩
 .have c:∀z,z<a.nd.length->ev (aO g) (a.T z)=g.rp z:=λz hz=>Y (L.T z hz).symm (i.ev<|bt hz<|ee L);have rr:∀z,z<a.nd.length->g.rp (a.rp z)=g.rp z:=λz hz=>L.rp _ _ (C.E.c5 hz) hz<|C.E.U.rr z<|C.E.len.symm▸hz;simp only[km];refine Y (c mu d)<|Y (c o e) ?_;rcases h with⟨rfl,rfl⟩|⟨rfl,rfl⟩
  .exact Y (c _<|C.E.c5 d)<|Y (c _<|C.E.c5 e)<|Y (rr mu d)<|Y (rr o e)<|.inl ⟨rfl,rfl⟩
  .exact Y (c _<|C.E.c5 d)<|Y (c _<|C.E.c5 e)<|Y (rr mu d)<|Y (rr o e)<|.inr ⟨rfl,rfl⟩
theorem p5{u u':Str}(h:Sd bx t)(a:u∈cw):t≠cx u u':=λe=>by
 cases h with
 |l x h=>exact(ik<|(b5<|V.tup.inj e).2)
 |f x h=>exact(ik<|(b5 (b5<|V.tup.inj e).2).2)
 |ff x h=>exact(ik<|(b5 (b5<|V.tup.inj e).2).2)
 |g x y h b=>have q:lf x=lf u:=(nN (u':=lf u) (v':=lf u') e).1;have q:=V.str.inj (b5<|V.tup.inj q).1;exact(by decide+kernel:∀x∈bx,x∉cw) x h<|q▸a
open Classical in
theorem Cx.kd(X:Cx b c ps us)(C:Cl (cU ps) UE cnt a)(J:Jn b c rd UE a)(s:∀v∈UE,v∈A)(hn:bR∈ps->∀v∈kl b a,v∈A)(n:B∈us):∃R f,Kd (cU ps) A a B R f/\∀c es,R c es->Ps (cU ps) (hx b ps) a (f es).1 (f es).2:=by
 obtain⟨nm,l,r⟩:=B;have tu:∀t∈b,Tu A 3 t:=λt m=>(X.sd t m).tu λv w=>s v<|J.sub v<|fD.mpr ⟨t,m,w⟩
 have sw:∀u u',u∈cw->u'∈cw->u≠u'->bR∈ps->∃R f,Kd (cU ps) A a ⟨nm,cx u u',cx u' u⟩ R f/\∀c es,R c es->Ps (cU ps) (hx b ps) a (f es).1 (f es).2:=λu u' d g i j=>by
  refine⟨_,_,.sw nm u u' d g i (λc x y nx=>?_) λI k=>(k bR j).sw,λc es h=>?_⟩
  .refine cj (J.nx X.sd C nx) λmu o G=>?_;exact⟨hn j _<|yo C G,hn j _<|yo C ⟨G.1,G.2.1,G.2.2.symm.imp And.symm And.symm⟩⟩
  .refine cq h λx y E nx=>?_;clear h;obtain rfl:=E;refine cj (J.nx X.sd C nx) λmu o G=>?_;exact G.done C j
 have gr:∀l r,l∈b->r∈b->(l,r)∈ps\/(r,l)∈ps->∃R f,Kd (cU ps) A a ⟨nm,l,r⟩ R f/\∀c es,R c es->Ps (cU ps) (hx b ps) a (f es).1 (f es).2:=λl r d g i=>by
  have z:(l,r)≠bR:=λe=>p5 (X.sd l d) (by decide+kernel)<|ar Prod.fst e;have D:(r,l)≠bR:=λe=>p5 (X.sd r g) (by decide+kernel)<|ar Prod.fst e;refine⟨_,_,.gr nm l r (tu l d) (tu r g) λI k=>i.elim (λm=>(k _ m).gr z) λm=>((k _ m).gr D).symm,λc es Z=>?_⟩;refine Or.elim i (λm=>?_) λm=>?_
  .exact⟨(l,r),dJ _<|ig.mpr ⟨m,bJ z⟩,λZ Z Z Z Z=> .inl ⟨rfl,rfl⟩⟩
  .exact⟨(r,l),dJ _<|ig.mpr ⟨m,bJ D⟩,λZ Z Z Z Z=> .inr ⟨rfl,rfl⟩⟩
 refine Or.elim (X.us _ n) (λm=>?_) λm=>?_
 .refine Or.elim (X.pr _ m) (λe=>?_) λF=>jA F λd g=>?_
  .refine jA (Prod.mk.inj e) λp q=>?_;obtain rfl:l=cx "?x" "?y":=p;clear n;obtain rfl:r=cx "?y" "?x":=q;exact sw _ _ (by decide+kernel) (by decide+kernel) (by decide+kernel)<|e▸m
  .exact gr l r d g<|.inl m
 .refine Or.elim (X.pr _ m) (λe=>?_) λK=>jA K λd g=>?_
  .refine jA (Prod.mk.inj e) λp q=>?_;obtain rfl:r=cx "?x" "?y":=p;clear n;obtain rfl:l=cx "?y" "?x":=q;exact sw _ _ (by decide+kernel) (by decide+kernel) (by decide+kernel)<|e▸m
  .exact gr l r g d<|.inr m
end
section
variable{B:bg->Prop}{k i j m n N D cnt c rd d x y mu E:Nat}{u v w t F:V}{b UE q:List V}{g g' o:G}{p:Nd}{ps:List (V×V)}{us:List Rl}{r:Rl}{I S L M:TH}{K:V->TH->Prop}{A:dB}{O:List V}{a:Ro->Nat}
theorem Cx.cM(X:Cx b c ps us)(C:Cl (cU ps) UE cnt o)(J:Jn b c rd UE o)(s:∀v∈UE,v∈q)(hn:bR∈ps->∀v∈kl b o,v∈q):∃Rs fs,hZ (cU ps) q o us Rs fs (Ps (cU ps) (hx b ps) o):=by
 have a:∀i:Nat,∃R,∃f,∀r,us[i]? =some r->Kd (cU ps) q o r R f/\∀c es,R c es->Ps (cU ps) (hx b ps) o (f es).1 (f es).2:=λi=>by
  cases h:us[i]? with
  |none=>exact⟨λZ Z=>False,λZ=>(.none,.none),λr e=>((a4 e))⟩
  |some r=>refine cj (X.kd C J s hn<|bI h) λR f z=>?_;exact⟨R,f,λd e=>aT e▸z⟩
 refine jE (Classical.axiomOfChoice a) λRs a=>?_;refine jE (Classical.axiomOfChoice a) λfs a=>?_;exact⟨Rs,fs,a⟩
open Classical in
theorem Cx.next(X:Cx b c ps us)(e:rd<=5)(J:Jn b c rd UE o)(C:Cl (cU ps) UE cnt o):∃q Rs fs,(∀v∈UE,v∈q)/\q.length<=63/\hZ (cU ps) q o us Rs fs (Ps (cU ps) (hx b ps) o)/\Jn b c (rd+1) q o:=by
 have z:3*b.length+c*(rd+1)<=63:=ah (bz (eA _<|cR e) _) X.sz;by_cases sw:bR∈ps
 .have s:∀v∈UE,v∈UE++kl b o:=λv m=>dJ _ m;refine cj (X.cM C J s λZ v m=>dS _ m) λRs fs d=>?_;have a:=J.next (X.JC sw) C;exact⟨_,Rs,fs,s,ah a.len z,d,a⟩
 .refine cj (X.cM C J (λZ=>id) λh=>absurd h sw) λRs fs d=>?_;have a:Jn b c (rd+1) UE o:=⟨ah J.len<|bz (eA _<|fk rd) _,J.sub,J.p4⟩;exact⟨_,Rs,fs,λZ=>id,ah a.len z,d,a⟩
theorem Sd.mx(h:Sd bx t):Tm 3 t:=by
 have z:=h.tu (UE:=c9 t) λZ=>id;clear h;generalize c9 t=UE at z;generalize 3=n at z;induction z with
 |mk n op ks _ _ _ _ a=>exact .mk n op ks a
theorem Sd.tm(h:Sd bx t):∃n,Tm n t:=⟨3,h.mx⟩
theorem Sd.sw(h:Sd bx (g2 u v)):Sd bx (g2 v u):=by
 generalize e:g2 u v=s at h;cases h with
 |l x h=>exact(eG<|(b5<|V.tup.inj e).2)
 |f x h=>exact(eG<|(b5 (b5<|V.tup.inj e).2).2)
 |ff x h=>exact(eG<|(b5 (b5<|V.tup.inj e).2).2)
 |g x y h a=>refine jA (nN e) λb c=>?_;obtain rfl:=b;clear e;obtain rfl:=c;exact .g y x a h
open Classical in
theorem Cx.tm(X:Cx b c ps us):∀d∈hx b ps,(∃n,Tm n d.1)/\∃n,Tm n d.2:=λd m=>by
 refine Or.elim (cD.mp m) (λm=>?_) λm=>?_
 .refine jA (ig.mp m) λm n=>?_;have h:=(X.pr d m).resolve_left<|cf n;exact⟨(X.sd _ h.1).tm,(X.sd _ h.2).tm⟩
 .split at m
  .refine ak (bS.mp m) λt a f=>?_;obtain rfl:=f;refine jA (ig.mp a) λa e=>?_;refine cj (cf e) λu v g=>?_;clear m e;obtain rfl:=g;exact⟨(X.sd _ a).tm,(X.sd _ a).sw.tm⟩
  .exact(bw m)
end
section
variable{B:bg->Prop}{k i j m n N X cnt c rd d x y mu aa hp:Nat}{u v w t ab:V}{F UE J:List V}{g g' ac b:G}{p:Nd}{ps:List (V×V)}{us:List Rl}{o:Rl}{O S Q W:TH}{K:V->TH->Prop}{A:dB}{ad:List V}{a:Ro->Nat}{D:List (V×V)}
 {Rs:Nat->Nat->List (V×V)->Prop} {fs:Nat->List (V×V)->V×V} {P:V->V->Prop}
theorem JE(C:Cl B UE cnt b){op:Str}{cs:List Nat}(h:aO b op cs<b.nd.length):b.rp (aO b op cs)=aO b op cs:=by refine cq ((lr b op cs).resolve_left<|bk h) λn p hn e=>?_;have a:p.1=op:=ar Prod.fst e;have c:p.2.map b.rp=cs:=ar Prod.snd e;clear h e;subst a c;exact Y (C.at hn)<|C.E.U.rr n<|C.E.len.symm▸dW hn
theorem sW(C:Cl B UE cnt b){op:Str}{cs:List Nat}(h:¬aO b op cs<b.nd.length):aO b op cs=b.nd.length:=(lr b op cs).resolve_right λ⟨n,p,hn,e⟩=>by have a:p.1=op:=ar Prod.fst e;have c:p.2.map b.rp=cs:=ar Prod.snd e;clear e;subst a c;rw[C.at hn] at h;exact h<|C.E.c5<|dW hn
theorem hu.gr(C:Cl B UE cnt b)(d:hZ B J b us Rs fs P)(e:∀i,i<us.length->hu b (Rs i) (fs i))(c:o∈us)(hs:Sd bx o.l)(h:ev (aO b) o.l<b.nd.length):ev (aO b) o.l=ev (aO b) o.r:=by
 refine jE (fy.mp c) λi hi=>?_;have z:=(d i o hi).1;have q:=e i<|gQ hi;generalize Rs i=R at z q;generalize fs i=f at z q;cases z with
 |gr nm l r a j g=>
  refine q (ev (aO b) l) [] h ?_ ⟨rfl,rfl⟩;clear g c hs hi q;cases a with
  |mk n op ks=>rw[fJ] at h⊢;exact JE C h
 |sw nm u u' a=>exact absurd rfl<|p5 hs a
theorem hu.sw(C:Cl B UE cnt b)(g:hZ B J b us Rs fs P)(j:∀i,i<us.length->hu b (Rs i) (fs i))(a:o∈us)(hs:o.l=cx "?x" "?y")(h:aO b "g" [x,y]<b.nd.length):aO b "g" [x,y]=aO b "g" [y,x]:=by
 refine jE (fy.mp a) λi hi=>?_;have z:=(g i o hi).1;have q:=j i<|gQ hi;generalize Rs i=R at z q;generalize fs i=f at z q;refine cq ((lr b "g" [x,y]).resolve_left<|bk h) λn p hn e=>?_;cases z with
 |gr nm l r c k d=>
  have hs:l=cx "?x" "?y":=hs;clear d a hi q;subst hs;cases c with
  |mk n op ks _ _ _ m=>cases m (lf "?x") (.head _) with|mk n op ks s=>exact absurd s (by decide+kernel)
 |sw nm u u' c k d G I=>have nx:Nx b (b.rp n) x y:=⟨n,p,hn,rfl,e⟩;refine b1 (C.nx nx) λt v w=>?_;refine jA t λA D=>?_;have z:=q (b.rp n) (hX u u' x y) (C.E.c5<|dW hn) (C.E.U.rr n<|C.E.len.symm▸dW hn) ⟨x,y,rfl,nx⟩;have F:xX b.T (hX u u' x y)=(ki b.T x y,ki b.T y x):=rfl;rw[F] at z;have z:ev (aO b) (g2 (b.T x)<|b.T y)=ev (aO b) (g2 (b.T y)<|b.T x):=z;rw[km,km,C.ev A,C.ev v,D,w] at z;exact z
theorem JF(sd:∀t∈F,Sd bx t)(pr:∀p∈ps,p=bR\/p.1∈F/\p.2∈F)(D:∀p∈ps,(∃u∈us,(u.l,u.r)=p)/\∃u∈us,(u.r,u.l)=p)(C:Cl B UE cnt b)(f:hZ B J b us Rs fs P)(g:∀i,i<us.length->hu b (Rs i) (fs i)):cU ps (aO b):=λq m=>by
 refine jA (D q m) λj k=>?_;refine ak k λI E o=>?_;refine ak j λc s v=>?_;unfold fN;split
 .rename_i e;clear m j k o;subst e;have sw:=λx y=>hu.sw (x:=x) (y:=y) C f g s<|ar Prod.fst v;intro x y;by_cases h:aO b "g" [x,y]<b.nd.length
  .exact sw x y h
  .by_cases a:aO b "g" [y,x]<b.nd.length
   .exact(sw y x a).symm
   .exact Y (sW C h)<|Y (sW C a) rfl
 .rename_i ne;refine jA ((pr q m).resolve_left ne) λw A=>?_;clear ne;subst v;have d:=Prod.mk.inj o
  have lo:∀t∈F,¬ev (aO b) t<b.nd.length->ev (aO b) t=b.nd.length:=λt G h=>by
   cases(sd t G).pt with
   |mk n op ks=>rw[fJ] at h⊢;exact sW C h
  by_cases h:ev (aO b) c.l<b.nd.length
  .exact hu.gr C f g s (sd _ w) h
  .by_cases a:ev (aO b) c.r<b.nd.length
   .have z:=hu.gr C f g E (d.2.symm▸sd _ A) (d.2.symm▸a);rw[d.1,d.2] at z;exact z.symm
   .show ev (aO b) c.l=ev (aO b) c.r;exact Y (lo _ w h)<|Y (lo _ A a) rfl
theorem pW.says(sd:∀t∈F,Sd bx t)(pr:∀p∈ps,p=bR\/p.1∈F/\p.2∈F)(j:∀p∈ps,(∃u∈us,(u.l,u.r)=p)/\∃u∈us,(u.r,u.l)=p)(h:pW (cU ps) D W hp us g Q)(c:n<g.nd.length)(d:m<g.nd.length):∃O a g' UE cnt,Sub W O/\Rep O Q a g'/\a .hp=hp/\EI (cU ps) UE cnt [] g'/\Le g g'/\(g'.rp n=g'.rp m↔∀I,cU ps I->ev I (g.T n)=ev I (g.T m)):=by
 cases h with|mk O a b g' UE J cnt k Rs fs s R o C E L M q v=>
 have L':=L.trans M.le;refine⟨O,a,g',J,k,s,R,o,E,L',λe I f=>?_,λh=>?_⟩
 .exact Y (L'.T n c).symm<|Y (L'.T m d).symm<|Y (E.snd I f n).symm<|Y (E.snd I f m).symm<|Y e rfl
 .have z:=h _ (JF sd pr j C q v);have i:=bt c<|ee L;have k2:=bt d<|ee L;rw[←L.T n c,←L.T m d,C.ev i,C.ev k2] at z;exact Y (M.rp n i)<|Y (M.rp m k2)<|Y z rfl
end
section
variable{I:bg->Prop}{k i j m n N C cnt c rd d x y mu J hp r:Nat}{u v w t D:V}{M UE O:List V}{g g' E P:G}{p:V×V}{ps:List (V×V)}{us vs:List Rl}{R:Rl}{U S o W T:TH}{K:V->TH->Prop}{A:dB}{B dn:List V}{a:Ro->Nat}{l:au}{rest:aE}{Q:Fl->au->TH->Prop}
noncomputable def nO(t D:V):Prop:=∃N C,(Pt N t/\dR t=false/\Pt C D)/\(N<=3/\C<=3)/\∀v∈bV C D,v∈bV N t
theorem Sd.p6(h:Sd bx t)(a:Sd bx D):nO t D:=⟨3,3,⟨h.pt,h.yn,a.pt⟩,⟨aM 3,aM 3⟩,by refine Y a.bV ?_;nofun⟩
theorem p7{u u':Str}(h:u∈cw)(a:u'∈cw):Pt 2 (cx u u'):= .mk 1 "g" [lf u,lf u'] (.inl (by decide+kernel)) (aM 2) λk m=>by
 rcases ba.mp m with rfl|m
 .exact .mk 0 u [] (.inr ⟨h,rfl⟩) (a6 _) λZ=>bw
 .exact Y (a3.mp m)<|.mk 0 u' [] (.inr ⟨a,rfl⟩) (a6 _) λZ=>bw
theorem yp{b:Bool}{v:V}(h:b=true):(if b then[v] else[])=[v]:=by refine Y h ?_;rfl
open Classical in
theorem p8{u u':Str}(h:u∈cw)(a:u'∈cw):bV 2 (cx u u')=[.str u,.str u']:=by have e:bV 2 (cx u u')=(if dR (cx u u') then[jh<|cx u u'] else[])++((if dR (lf u) then[V.str u] else[])++((if dR (lf u') then[V.str u'] else[])++[])):=rfl;refine Y e<|Y (p3 (show dR (cx u u')=false from ji (by decide+kernel)))<|Y (yp (show dR (lf u)=true from bJ ⟨u,h,rfl⟩))<|Y (yp (show dR (lf u')=true from bJ ⟨u',a,rfl⟩)) ?_;rfl
theorem yq{u u':Str}(h:u∈cw)(a:u'∈cw):nO (cx u u') (cx u' u):=⟨2,2,⟨p7 h a,ji (by decide+kernel),p7 a h⟩,⟨by decide,by decide⟩,λv m=>by
 rw[p8 a h] at m;refine Y (p8 h a) ?_;rcases ba.mp m with rfl|m
 .exact .tail _<|.head _
 .exact Y (a3.mp m) (.head _)⟩
noncomputable def my(u:Rl):Rl:=⟨u.nm++"-back",u.r,u.l⟩
inductive yr(S:TH)(us:List Rl)(B:List V)(p:au)(r:Nat)(a:List V)(l':au)(o:TH):Prop
 |mk (dn:List V) (b c d e:Option V):Sub (upd S r<|.list<|B++dn) o->dC o dn ((us.take dn.length).map my)->a=B.drop dn.length->dn.length<=us.length->l'=p++[b,c,d,e]->yr S us B p r a l' o
theorem gh.upd{u:Rl}(h:gh S v u){L L':List V}(g:S r=some (.list L)):gh (Mine.upd S r (.list L')) v u:=h.imp λx z=>⟨z.1,(bC λe=>by have z:=z.2;rw[e,g] at z;cases z).trans z.2⟩
theorem JG{rl:Nat}{y A D G:Option V}(g:dC S B us)(E:S rl=some (.list B))(aL:us.length<=30)(I:S r=none)(ok:∀u∈us,nO u.r u.l/\u.nm.length<=100)
  (h:∀o dn j m n p,Sub (upd S r<|.list<|B++dn) o->dC o dn (us.map my)->Sw o [some<|.ref rl,y,A,D,G,some<|.ref r,j,m,n,p] rest Q):Sw (upd S r<|.list B) [some<|.ref rl,y,A,D,G,some<|.ref r,none,none,none,none] (ag (forM (aI<|vr 0) (aj 6)<|ag (ag (cn<|bB (bG .append) (bH .append) (vr 5)<|H (aX (F aU<|k+7) aY (vr 6) "turned" aa) aa) av) av) rest) Q:=by
 refine .then (.for (yr S us B [some<|.ref rl,y,A,D,G,some<|.ref r] r) (.list (.vr rfl)<|br I E) ⟨[],none,none,none,none,Y (d2 ..)<|.refl _,⟨rfl,(λZ Z Z=>a4)⟩,rfl,a6 _,rfl⟩ (λO l' o x=>x.casesOn λZ Z Z Z Z s Z Z Z Z=>s _ _<|br I E) (λv O l' o x=>?_) λl' o x=>?_)
 .cases x with|mk dn j m n p s hd t le J=>
  subst J;refine jA (mY t.symm) λK P=>?_;have hi:dn.length<us.length:=g.len▸gQ K;have w:us[dn.length]? =some us[dn.length]:=cc hi;generalize us[dn.length]=u at w;refine ak (g.at_ _ _ _ K w) λrr R T=>?_;clear t K;obtain rfl:=R;refine jA (ok u<|bI w) λU nl=>?_;refine b6 U λN C W X ab=>?_;refine b1 W λp1 p2 ac=>?_;refine jA X λad ae=>?_;have gr:o r=some (.list<|B++dn):=s _ _ aJ;have ai:(B++dn).length<=aF:=Y a0<|Y g.len<|ah (c7 aL<|ah le aL) af;have L:=s _ _<|br I T;refine .dF<|.assoc<|.dp<|.nE (.vr rfl) gr (.bP (f:=477) (.vr rfl) L (by kernel_rfl)<|.nil<|Jw L nl p1 p2 ac ad ae ab λb M c s2=>⟨s2 _ _<|br c gr,.pass ⟨dn++[.ref b],_,_,_,_,gV .. ▸(s.trans<|(Sub.new c).trans s2).re _,⟨?_,λi v u' d a=>?_⟩,?_,?_,rfl⟩⟩) ai
  .exact Y a0<|Y (aV ..)<|Y List.length_take<|Y (show min (dn.length+[V.ref b].length) us.length=dn.length+[V.ref b].length from Nat.min_eq_left hi) rfl
  .have a:(us[i]?).map my=some u':=by
    rw[b9,List.getElem?_take] at a;split at a
    .exact a
    .exact a4 a
   refine Or.elim (gw i dn.length) (λq=>?_) λq=>?_
   .rw[fP q] at d;refine gh.upd (S:=M) ((hd.at_ i v u' d ?_).imp λx z=>⟨z.1,((Sub.new c).trans s2) _ _ z.2⟩)<|s2 _ _<|br c gr;exact Y b9<|Y List.getElem?_take<|Y (az q) a
   .have al:i<dn.length+1:=a0 (as:=dn) (bs:=[.ref b])▸gQ d;obtain rfl:=fi (c6 al) q;rw[fq] at d;rw[w] at a;exact Y (aT d).symm<|Y (aT a).symm<|gh.upd (S:=M) ⟨b,rfl,s2 _ _ aJ⟩<|s2 _ _<|br c gr
  .exact Y a0 P.symm
  .exact Y a0 hi
 .cases x with|mk dn j m n p s hd t le J=>subst J;have e:dn.length=us.length:=fi le<|g.len▸List.drop_eq_nil_iff.mp t.symm;rw[e,List.take_length] at hd;exact h o dn j m n p s hd
end
section
variable{k i j m n N c r:Nat}{u v w t d:V}{g g':G}{b S f T:TH}{K:V->TH->Prop}{a:Ro->Nat}{l:au}{L vs ws:List V}{ds:List (V×V)}{e:M}
theorem JH(R:Rep b S a g)(U:UI g.up g.rp)(hn:n<g.up.length)(hm:m<g.up.length):Fg (F aU (k+3)) 346 [.ref (a .hp),iV n,iV m] S (.bool (decide (g.rp n=g.rp m))):=by have z:=Eg.fu (S:=S) (l:=dw [.ref<|a .hp,iV n,iV m] 0) (e:=aX (F aU<|k+2) aY (vr 0) "find"<|H (vr 1) aa) (e':=aX (F aU<|k+2) aY (vr 0) "find"<|H (vr 2) aa) (hW R (.vr rfl) (by kernel_rfl) (.one<|.vr rfl)<|j9 R U hn)<|hW R (.vr rfl) (by kernel_rfl) (.one<|.vr rfl)<|j9 R U hm;rw[show decide ((g.rp n:Int)=(g.rp m:Int))=decide (g.rp n=g.rp m) from gq.mpr Int.ofNat_inj] at z;exact hl D4 rfl z
noncomputable def jj(x:Str):Str:="leaf"++Txt.slice x (some (1:Nat)) none
noncomputable def strOf:V->Str| .str x=>x|_=>""
noncomputable def ys(v:V):V:= .tup [v,.str<|jj<|strOf v]
open Classical in
theorem JJ:∀{L:List V}{es:List (V×V)},(∀v∈L,∃x:Str,v= .str x)->∃es',hO .s (L.map ys) es es'/\∀w:V,aW es' w=if w∈L then some (.str (jj (strOf w))) else aW es w:=by
 intro L;induction L with
 |nil=>exactλ{es} Z=>⟨es,.nil es,λw=>(ay nofun).symm⟩
 |cons v L a=>
  intro es h;refine jE (h v<|.head _) λx b=>?_;obtain rfl:=b;refine ak (a (es:=bD es (.str x)<|.str<|jj x) λw m=>h w<|.tail _ m) λes' c d=>?_;refine⟨es',.cons _ _ _ _ _ (ew x) c,λw=>?_⟩;refine Y (d w)<|Y (ke ..) ?_;by_cases q:w∈L
  .exact Y (az q)<|Y (az<|.tail _ q) rfl
  .refine Y (ay q) ?_;by_cases e:w= .str x
   .clear q;subst e;refine Y (az rfl)<|Y (az<|.head _) ?_;rfl
   .exact Y (ay e)<|Y (ay λz=>(ba.mp z).elim e q) rfl
end
section
variable{k i j m n N c r:Nat}{u v w t o:V}{g g':G}{A S B T:TH}{K:V->TH->Prop}{a:Ro->Nat}{l:au}{L vs ws:List V}{ds:List (V×V)}{e:M}{D:List V->Prop}
theorem Ex.rB(h:bN S l e D)(q:∀ws,D ws->∃es,(hO .s ws [] es/\ws.length<=aF)/\∀d,S d=none->K (.ref d) (upd S d (.dict .s es))):Ex S l (aC (aD .dict) (H e aa)) K:=λb c P p=>h S (.refl S) b c _ λws r m d g a=>by refine ak (q ws d) λes f i=>?_;refine jA f λj k=>?_;exact .inl<|.inr ⟨ws,a.at,.s,es,j,k,p _ _ _ (i _ (a.weak g).cv) (a.weak g).new⟩
theorem JK:cw.all (λx=>decide (x.length<=100)&&decide ((Txt.slice x (some (1:Nat)) none).length<=100))=true:=by decide+kernel
theorem Eg.JL{x:Str}(h:Eg S l e (.str x))(a:x.length<=aF):Eg S l (c4 e m) (.str (Txt.slice x (some (m:Int)) none)):=λT s b c P k=>h T s b c _ λd f=> .inr ⟨a,k d f⟩
noncomputable def kp(L:List V)(ds:List (V×V)):Prop:=∀w:V,aW ds w=open Classical in if w∈L then some (.str<|jj<|strOf w) else none
theorem p9(h:Pt N t):∀v∈bV N t,∃x∈cw,v= .str x:=λv m=>by
 classical
 refine ak (fD.mp m) λp hp m=>?_;split at m
 .rename_i z;refine ak (cf z) λu a e=>?_;rw[e] at m;exact⟨u,a,a3.mp m⟩
 .exact(bw m)
theorem JM{e e':M}{L L':List V}(h:bN S l e (gN L))(i:bN S l e' (gN L'))(j:∀v∈L,∃x∈cw,v= .str x)(k:∀v∈L',∃x∈cw,v= .str x)(f1:L.length<=27)(n:L'.length<=27)(q:∀es,kp (L++L') es->∀d,S d=none->K (.ref d) (upd S d (.dict .s es))):
  Ex S l (aC (aD .dict)<|H (aS (aI<|a9 .Add e e') [] 1 (aj 0) aK<|aR<|bj<|H (vr 0)<|H (a9 .Add (cst<|.str "leaf")<|c4 (vr 0) 1) aa) aa) K:=by
 have ln:∀{a b},gN L a->gN L' b->a.length+b.length<=54:=λd c=>c7 (ah d.len f1)<|ah c.len n;have st:∀{a b},gN L a->gN L' b->∀v∈a++b,∃x∈cw,v= .str x:=λd c v m=>(cD.mp m).elim (λm=>j v<|(d.2 v).mp m) λm=>k v<|(c.2 v).mp m;refine .rB (.map (f:=ys) (.add h i λa b d c=>ah (ln d c) af) (λvs d=>?_) λvs d v m=>?_) λws d=>?_
 .refine cq d λa b o p=>?_;clear d;obtain rfl:=p;refine jA o λd c=>?_;exact Y a0<|ah (ln d c) af
 .refine cq d λa b r t=>?_;clear d;obtain rfl:=t;refine jA r λd c=>?_;refine ak (st d c v m) λx u A=>?_;clear m;obtain rfl:=A;refine jA (fe.mp<|e3.mp JK x u) λs1 s2=>?_;exact .tup (.cons (.vr rfl)<|.one<|.r6 .cst (.JL (.vr rfl)<|ah (cf s1) af)<|ah (bz (cf s2) _) (by decide+kernel)) dA
 .refine ak d λvs g B=>?_;obtain rfl:=B;refine cq g λa b C D=>?_;clear g d;obtain rfl:=D;refine jA C λd c=>?_;refine ak (JJ (L:=a++b) (es:=[]) λv m=>(st d c v m).imp λx z=>z.2) λes E F=>?_;refine⟨es,⟨E,Y (aV ..)<|Y a0<|ah (ln d c) af⟩,q es λw=>(F w).trans ?_⟩;have iff:w∈a++b↔w∈L++L':=by rw[cD,cD,d.2,c.2]
  by_cases z:w∈a++b
  .exact Y (az z)<|Y (az<|iff.mp z) rfl
  .refine Y (ay z)<|Y (ay λy=>z<|iff.mpr y) ?_;rfl
end
section
variable{N:Nat}{t a:V}{L:List V}{ds:List (V×V)}{x:Str}
theorem kp.op(h:kp L ds)(a:∀v∈L,∃x∈cw,v= .str x)(b:x∈cX):(aW ds (.str x)).getD (.str x)= .str x:=by
 refine Y (h ..) (Y (ay λm=>by refine ak (a _ m) λy c e=>?_;have z:=e3.mp sU x b;rw[V.str.inj e,List.elem_eq_true_of_mem c] at z;exact b3 z) ?_)
 rfl
theorem kp.var(h:kp L ds)(m: .str x∈L):(aW ds (.str x)).getD (.str x)= .str (jj x):=by refine Y (h ..)<|Y (az m) ?_;rfl
theorem yt(h:kp L ds)(a:∀v∈L,∃x∈cw,v= .str x){UE:List V}(b:Tu UE N t):iE N ds t=t:=by
 induction b with
 |mk n op ks c _ _ _ d=>show V.tup ((aW ds<|.str op).getD (.str op)::ks.map (iE n ds))=_;exact Y (h.op a c)<|Y (dZ d:ks.map (iE n ds)=ks.map id)<|Y (List.map_id ..) rfl
theorem yu:jj "?x"="leafx"/\jj "?y"="leafy":=by decide+kernel
theorem yv(h:kp L ds)(a:∀v∈L,∃x∈cw,v= .str x){u u':Str}(m: .str u∈L)(b: .str u'∈L):iE 2 ds (cx u u')=g2 (lf (jj u)) (lf (jj u')):=by show V.tup [(aW ds<|.str "g").getD<|.str "g",.tup [(aW ds<|.str u).getD<|.str u],.tup [(aW ds<|.str u').getD<|.str u']]=_;refine Y (h.op a (by decide+kernel))<|Y (h.var m)<|Y (h.var b) ?_;rfl
end
section
variable{N:Nat}{t c a b:V}{ps:List (V×V)}{us:List Rl}
open Classical in
noncomputable def cV(ps:List (V×V)):List (V×V):=ps.filter λp=>decide<|p≠bR
noncomputable def fO(ps:List (V×V))(a b:V):List V:=(cV ps).flatMap (λp=>[p.1,p.2])++[a,b]
theorem yw:∀l:List (V×V),(l.flatMap λp=>[p.1,p.2]).length=2*l.length
 |[]=>rfl
 |p::l=>Y fh<|Y a0<|Y (yw l)<|d3 2<|2*l.length
theorem sX:(fO ps a b).length=2*(cV ps).length+2:=by unfold fO;refine Y List.length_append<|Y (yw ..) ?_;rfl
open Classical in
theorem yx(h:bR∈ps):(cV ps).length<ps.length:=by refine kC (lD _ _) λe=>?_;have z:=List.length_filter_eq_length_iff.mp e bR h;exact cf z rfl
open Classical in
theorem JN:(hx (fO ps a b) ps).length<=(cV ps).length+if bR∈ps then(fO ps a b).length else 0:=by
 unfold hx;refine Y a0<|bz ?_ _;split
 .exact Y (aV ..)<|lD _ _
 .exact aM 0
open Classical in
theorem Cx.mk'(e:∀p∈ps,c8 p)(d:ps.length<=2)(f:Sd bx a)(g:Sd bx b)(i:∀u∈us,(u.l,u.r)∈ps\/(u.r,u.l)∈ps):Cx (fO ps a b) (if bR∈ps then 8 else 0) ps us:=by
 have mem:∀p∈ps,p≠bR->p.1∈fO ps a b/\p.2∈fO ps a b:=λp m n=>by have z:p∈cV ps:=ig.mpr ⟨m,bJ n⟩;exact⟨dJ _<|fD.mpr ⟨p,z,.head _⟩,dJ _<|fD.mpr ⟨p,z,.tail _<|.head _⟩⟩
 have gl:(cV ps).length<=2:=ah (lD _ _) d;have c:bR∈ps->(cV ps).length<=1:=λh=>c6<|bt (yx h) d;refine⟨λt m=>?_,λp m=>?_,i,λh=>?_,?_,ah JN ?_⟩
 .refine Or.elim (cD.mp m) (λm=>?_) λm=>?_
  .refine ak (fD.mp m) λp hp m=>?_;refine jA (ig.mp hp) λhp n=>?_;have z:=(e p hp).resolve_left<|cf n;rcases ba.mp m with rfl|m
   .exact z.1.gi
   .exact Y (a3.mp m) z.2.gi
  .clear mem;rcases ba.mp m with rfl|m
   .exact f
   .exact Y (a3.mp m) g
 .exact(Classical.em<|p=bR).imp_right<|mem p m
 .exact Y (az h)<|Y sX<|eA 2<|ef (eA 2<|c h) 2
 .refine Y sX ?_;split
  .rename_i h;exact ah (ef (eA 3<|ef (eA 2<|c h) 2) 48) af
  .exact ah (eA 3<|ef (eA 2 gl) 2) af
 .split
  .rename_i h;exact Y sX<|c7 (c h)<|ef (eA 2<|c h) 2
  .exact ah gl af
end
section
variable{k N n m r:Nat}{t v d f q s:V}{ps:List (V×V)}{us w:List Rl}{S y T:TH}{A:List V}{K:V->TH->Prop}
structure Lo(q s d f:V):Prop where
 p1:∃N,N<=3/\Pt N q
 p2:∃N,N<=3/\Pt N s
 s1:Sd bx d
 s2:Sd bx f
noncomputable def e2(us:List Rl):List (V×V):=us.map λu=>(u.l,u.r)
noncomputable def yy(a:Ro->Nat)(g:G)(j:Nat):Prop:=∃r o,dh a g r=some o/\a r=j
open Classical in
noncomputable def iH(S:TH)(a:Ro->Nat)(g:G):TH:=λj=>if yy a g j then none else S j
variable{b:TH}{a:Ro->Nat}{g:G}{j:Nat}{o:aQ}{fs:List (Str×V)}{ds:List (V×V)}
theorem yz(h:¬yy a g j):iH S a g j=S j:=ay h
theorem Rep.rest(R:Rep b S a g):Rep (iH S a g) S a g:=⟨λj o h=>by
 unfold iH at h;split at h
 .exact a4 h
 .exact h,R.get,λr o h=>az ⟨r,o,h,rfl⟩,R.inj⟩
theorem Rep.JO(R:Rep b S a g):Sub b (iH S a g):=λj o h=>by exact Y (yz λ⟨r,p,z,e⟩=>by subst e;rw[R.new r p z] at h;exact a4 h)<|R.base _ _ h
theorem Rep.kept(R:Rep b S a g)(h:S j=some o)(n:∀r,dh a g r≠some o):iH S a g j=some o:=by exact Y (yz λ⟨r,p,z,e⟩=>by subst e;rw[R.get r p z] at h;exact n r<|h▸z) h
theorem JP(r:Ro):dh a g r≠some (.inst 480 fs):=λh=>by
 cases r with
 |hp=>exact absurd (aQ.inst.inj<|aT h).1 af
 |cL=>exact absurd (aQ.inst.inj<|aT h).1 af
 |un=>exact absurd (aQ.inst.inj<|aT h).1 af
 |aP i=>refine ak (dY.mp (h:(g.aP[i]?).map (λl=>aQ.list<|l.map iV)=some _)) λx Z e=>?_;exact nomatch e
 |ab c=>exact nomatch (lp h).2
 |_=>cases h
end
section
variable{k N n m:Nat}{t Q d B j o:V}{ps:List (V×V)}{us W:List Rl}{S O T:TH}{D:List V}{K:V->TH->Prop}
structure nP(S:TH)(rl op:Nat)(D:List V)(us:List Rl)(j o:V):Prop where
 gl:S rl=some (.list D)
 ru:dC S D us
 aL:us.length<=2
 dG:((us++us.map my).map Rl.nm).Nodup
 nl:∀u∈us,u.nm.length<=100
 pr:∀u∈us,c8 (u.l,u.r)
 op:S op=some (.dict .s [(.str "rounds",.int 12)])
 as:c8 (j,o)
theorem nP.sup{rl op:Nat}(G:nP S rl op D us j o)(s:Sub S T):nP T rl op D us j o:=⟨s _ _ G.gl,G.ru.sup s,G.aL,G.dG,G.nl,G.pr,s _ _ G.op,G.as⟩
theorem c8.p6{p:V×V}(h:c8 p):nO p.2 p.1:=by
 rcases h with rfl|h
 .exact yq (by decide+kernel) (by decide+kernel)
 .exact h.2.gi.p6 h.1.gi
noncomputable def kq(p q:Str):Prop:=(∀z∈("f"::"g"::fM:List Str),z≠p/\z≠q)/\p≠q
open Classical in
noncomputable def I2(p q:Str)(I:bg)(x y:Nat):bg:=λop cs=>if op=p/\cs=[] then x else if op=q/\cs=[] then y else I op cs
variable{p q:Str}
theorem sY(w:kq p q){I:bg}{x y:Nat}{op:Str}{cs:List Nat}(h:op∈("f"::"g"::fM:List Str)):I2 p q I x y op cs=I op cs:=by unfold I2;exact Y (if_neg λz=>(w.1 op h).1 z.1)<|Y (if_neg λz=>(w.1 op h).2 z.1) rfl
theorem nQ(w:kq p q){I:bg}{x y:Nat}{cs:List Nat}:I2 p q I x y "g" cs=I "g" cs:=sY w<|.tail _<|.head _
theorem sZ(w:kq p q){I:bg}{x y:Nat}{cs:List Nat}:I2 p q I x y "f" cs=I "f" cs:=sY w<|.head _
theorem mz(I:bg)(u:V):ev I (f1 u)=I "f" [ev I u]:=fJ I _ _
theorem s6(I:bg)(x:Str):ev I (lf x)=I x []:=fJ I _ _
theorem yA(w:kq p q){I:bg}{x y:Nat}(h:Sd fM t):ev (I2 p q I x y) t=ev I t:=by
 have a:∀z∈fM,ev (I2 p q I x y) (lf z)=ev I (lf z):=λz h=>by exact Y (s6 ..)<|sY w<|.tail _<|.tail _ h
 cases h with
 |l z h=>exact a z h
 |f z h=>exact Y (mz ..)<|Y (mz ..)<|Y (sZ w)<|Y (a z h) rfl
 |ff z h=>exact Y (mz ..)<|Y (mz ..)<|Y (mz ..)<|Y (mz ..)<|Y (sZ w)<|Y (sZ w)<|Y (a z h) rfl
 |g z b h c=>exact Y (km ..)<|Y (km ..)<|Y (nQ w)<|Y (a z h)<|Y (a b c) rfl
theorem JQ(w:kq p q){I:bg}{x y:Nat}(hp:∀p∈ps,c8 p)(h:cU ps I):cU ps (I2 p q I x y):=λr m=>by
 by_cases e:r=bR
 .have z:=h r m;clear m;subst e;unfold fN;refine Y (az rfl) ?_;intro a b;exact Y (nQ w)<|Y (nQ w)<|z.sw a b
 .have z:=(h r m).gr e;refine jA ((hp r m).resolve_left e) λc d=>?_;unfold fN;exact Y (ay e)<|Y (yA w c)<|Y (yA w d) z
theorem yB(w:kq p q)(hp:∀p∈ps,c8 p):(∀I,cU ps I->ev I (g2 (lf p) (lf q))=ev I (g2 (lf q) (lf p)))↔dq ps bR:=by
 have c:∀(I:bg)(a b:Str),ev I (g2 (lf a)<|lf b)=I "g" [I a [],I b []]:=λI a b=>Y (km ..)<|Y (s6 ..)<|Y (s6 ..) rfl;refine⟨λh I d=>?_,λh I d=>?_⟩
 .unfold fN;refine Y (az rfl) ?_;intro x y;have z:=h (I2 p q I x y)<|JQ w hp d;rw[c,c,nQ w,nQ w,show I2 p q I x y p []=x from az ⟨rfl,rfl⟩,show I2 p q I x y q []=y from(ay λz=>w.2 z.1.symm).trans<|az ⟨rfl,rfl⟩] at z;exact z
 .exact Y (c ..)<|Y (c ..)<|(h I d).sw _ _
theorem yC{d B:V}(ne:(d,B)≠bR):(∀I,cU ps I->ev I d=ev I B)↔dq ps (d,B):=⟨λh I a=>by unfold fN;exact Y (if_neg ne)<|h I a,λh I a=>(h I a).gr ne⟩
theorem Sd.ns{d B:V}(h:Sd bx d):(d,B)≠bR:=λe=>p5 h (by decide+kernel)<|ar Prod.fst e
theorem c8.asked(h:c8 (j,o)):∃N,((Pt N j/\Pt N o)/\N<=3)/\∀es,kp (bV N j++bV N o) es->∃d B,(iE N es j=d/\iE N es o=B)/\(Sd bx d/\Sd bx B)/\∀ps:List (V×V),(∀p∈ps,c8 p)->((∀I,cU ps I->ev I d=ev I B)↔dq ps (j,o)):=by
 rcases h with e|⟨a,b⟩
 .refine jA (Prod.mk.inj e) λr s=>?_;obtain rfl:=r;clear e;obtain rfl:=s;have c:("?x":Str)∈cw:=by decide+kernel
  have f:("?y":Str)∈cw:=by decide+kernel
  have i:=p7 c f;have k:=p7 f c;have l:∀v∈bV 2 (cx "?x" "?y")++bV 2 (cx "?y" "?x"),∃x∈cw,v= .str x:=λv m=>(cD.mp m).elim (p9 i v)<|p9 k v;have n:V.str "?x"∈bV 2 (cx "?x" "?y")++bV 2 (cx "?y" "?x"):=Y (p8 c f)<|.head _;have q:V.str "?y"∈bV 2 (cx "?x" "?y")++bV 2 (cx "?y" "?x"):=Y (p8 c f)<|.tail _<|.head _;refine⟨2,⟨⟨i,k⟩,by decide⟩,λes T=>⟨_,_,⟨yv T l n q,yv T l q n⟩,?_,λps hp=>?_⟩⟩
  .exact Y yu.2 ⟨.g _ _ (by decide+kernel) (by decide+kernel),.g _ _ (by decide+kernel) (by decide+kernel)⟩
  .exact Y yu.2<|yB (by unfold kq;decide+kernel) hp
 .have a:=a.gi;have b:=b.gi;refine⟨3,⟨⟨a.pt,b.pt⟩,aM 3⟩,λes T=>⟨j,o,⟨yt T ?_<|a.tu (UE:=c9 j) λZ=>id,yt T ?_<|b.tu (UE:=c9 o) λZ=>id⟩,⟨a,b⟩,λps Z=>?_⟩⟩
  .refine Y a.bV<|Y b.bV ?_;nofun
  .refine Y a.bV<|Y b.bV ?_;nofun
  .exact yC a.ns
theorem yD{r:Nat}{ds:List (V×V)}(h:Pt N t)(a:N<=3)(hd:S r=some (.dict .s ds)):Fg (F aU (k+3)) 101 [t,.ref r] S (iE N ds t):=by have z:=Jx (k:=k+(3-N)) (S:=S) (r:=r) (ds:=ds) h λT s=>s _ _ hd;rw[show k+(3-N)+N=k+3 from Y (dD ..)<|Y (Nat.sub_add_cancel a) rfl] at z;exact z
theorem Ex.JR{l:au}{e:M}{es:Ms}{fn:aG}{el:Addr->Str->Option Addr}{n:Str}(h:Ex S l e λv O=>∃i c fs f,(v= .ref i/\O i=some (.inst c fs)/\el c n=some f)/\eM O l es λvs a=>Fx fn f (.ref i::vs) a K):Ex S l (aX fn el e n es) K:=
 λd j P k=>h d j _ λv O m q b=>by obtain⟨i,c,fs,f,⟨rfl,g,hm⟩,q⟩:=q;exact⟨c,fs,b _ _ g,f,hm,q m b _ λvs a o q p=>q o p P k⟩
open Classical in
theorem JS{b:List V}{c j op:Nat}{d:TH}{a:Ro->Nat}{g:G}{l:au}(X:Cx b c ps us)(W:∀p∈ps,(∃u∈us,(u.l,u.r)=p)/\∃u∈us,(u.r,u.l)=p)(aL:us.length<=30)(dG:(us.map Rl.nm).Nodup)
  (R:Rep d S a g) (E:EI (cU ps) (iF b) 0 [] g) (o:Jn b c 0 (iF b) g) (q:l[3]? =some (some<|.ref op)) (t:l[4]? =some (some<|.ref<|a .hp)) (ab:l[5]? =some (some<|.ref j)) (ac:l[8]? =some (some<|iV n)) (ad:l[9]? =some (some<|iV m))
  (ae:d j=some (.list D)) (w:d op=some (.dict .s [(.str "rounds",.int 12)])) (y:dC d D us) (ln:n<g.nd.length) (B:m<g.nd.length):
  Sw S l (ag (cn<|aX (F aU<|k+19) aY (gG (F aU<|k+19) 573 534<|H (vr 4)<|H (vr 5)<|H (vr 3) aa) "run" aa)<|ag (a5<|aX (F aU<|k+19) aY (vr 4) "are_like"<|H (vr 8)<|H (vr 9) aa) av) λfl Z O=>eX fl= .bool (decide (∀I,cU ps I->ev I (g.T n)=ev I (g.T m)))/\Sub d O:=by
 have K:=ah aL (by decide:30<=63);refine .dp<|.JR<|.new<|Es.x (.cons (.vr t)<|.cons (.vr ab)<|.one<|.vr q) λrn M=>Jm (k:=k+17) M (R.base _ _ ae) (R.base _ _ w) (y.sup R.base) K dG λaz A nm af P ai f=>⟨rfl,?_⟩;clear q M;subst af ai;refine dK (Jo f R.base w y K) λN aj ak al=>?_;refine jA al λam an=>?_;have Q:=R.Jh f;refine⟨_,573,_,570,⟨rfl,Q.base _ _ N.rn,by kernel_rfl⟩,.nil<|Jb (k:=k+5) (J:=λrd UE g=>Jn b c rd UE g) X.JD X.tm aL ak am an (λrd UE cnt aA ao J C=>X.next ao J C) (λrd UE g g' J L=>J.le L) (f.old R.base) N aj Q P.symm E (ah o.len<|ah (bz (eA c<|a6 6) _) X.sz) o λv aB z=>?_⟩;refine cj (z.says X.sd X.pr W ln B) λaC a' ap=>?_;refine hI ap λg' UE cnt s h aq as=>?_;refine b1 as λi L aw=>?_;have ax:=bt ln<|ee L;have ay:=bt B<|ee L;have e:a' .hp=a .hp:=aq.trans P;refine .dz (.bP (.vr t) (e▸h.get .hp _ rfl) (by kernel_rfl) (.cons (.vr ac)<|.one<|.vr ad)<|e▸JH (k:=k+16) h i.U (i.len.symm▸ax) (i.len.symm▸ay)) ⟨?_,s.trans h.base⟩;exact ar V.bool<|gq.mpr aw
end
section
variable{k N n m:Nat}{t I b j y C:V}{ps:List (V×V)}{us M:List Rl}{S D T:TH}{w:List V}{K:V->TH->Prop}
theorem dC.app{dn:List V}{vs:List Rl}(h:dC S w us)(c:dC S dn vs):dC S (w++dn) (us++vs):=⟨Y a0 (Y a0 (Y h.len (Y c.len rfl))),λi v u a b=>by
 refine Or.elim (gw i us.length) (λq=>?_) λq=>?_
 .rw[fP q] at b;rw[fP<|h.len▸q] at a;exact h.at_ i v u a b
 .rw[h5 q] at b;rw[h5<|h.len▸q,h.len] at a;exact c.at_ _ v u a b⟩
theorem dC.kept{a:Ro->Nat}{g:G}{b:TH}(R:Rep b S a g)(h:dC S w us):dC (iH S a g) w us:=⟨h.len,λi v u c d=>(h.at_ i v u c d).imp λr z=>⟨z.1,R.kept z.2 JP⟩⟩
theorem nR{p:V×V}:p∈e2 us↔∃u∈us,(u.l,u.r)=p:=bS
theorem Jn.zero{a:List V}{c:Nat}{g:G}(h:∀t∈a,Sd bx t):Jn a c 0 (iF a) g:=by
 refine⟨?_,λv m=>m,λt m=> .old m⟩;show(a.flatMap c9).length<=_;induction a with
 |nil=>exact a6 _
 |cons t l b=>exact Y fh<|Y a0<|Y (d3 ..)<|ah (c7 (b λt m=>h t<|.tail _ m) (h t<|.head _).sV)<|bF rfl
open Classical in
theorem yE{rl op:Nat}(G:nP S rl op w us y C):Fg (F aU (k+20)) 582 [.ref rl,y,C,.ref op] S (.bool (decide (dq (e2 us) (y,C)))):=by
 refine mf ES rfl λT s=>?_;have G:=G.sup s;refine .jZ<|.tup<|.cons (λv I=>∃hp a,v= .ref hp/\a .hp=hp/\Rep T I a iD) (.new<|.nil λr ae=>Jg (k:=k+17) ae λI a h R=>⟨rfl,r,a,rfl,h,R⟩) λv I z=>?_;refine b6 z λhp a ag ai R=>?_;obtain rfl:=ag;refine .one<|El.x (.pn (.vr rfl) (R.base _ _ G.gl)<|Y G.ru.len<|ah G.aL af) λaj O=>⟨dA,_,_,.inl rfl,?_⟩;refine JG (k:=k+12) (G.ru.sup R.base) (R.base _ _ G.gl) (ah G.aL af) O (λu m=>⟨(G.pr u m).p6,G.nl u m⟩) λal dn aK aM aN aO s2 hd=>?_;have P:=(R.loc (o:= .list<|w++dn) O).sup s2;refine ak G.as.asked λN am an=>?_;refine jA am λao q=>?_;refine jA ao λp1 p2=>?_;refine .b8<|JM (.call (.one<|.vr rfl)<|nL (k:=k+15) p1 q) (.call (.one<|.vr rfl)<|nL (k:=k+15) p2 q) (p9 p1) (p9 p2) (pZ p1 q) (pZ p2 q) λes ap d K=>?_;refine b6 (an es ap) λb j aq au av=>?_;refine jA aq λaw ax=>?_;refine jA au λaa ab=>?_;have Q:=P.loc (o:= .dict .s es) K;have ay:=(Sub.new (o:= .dict .s es) K);have B:=Q.rest;have U:=Q.JO;generalize upd al d (.dict .s es)=M at*;have gd:iH M a iD d=some (.dict .s es):=U _ _ aJ;have W:Sub T (iH M a iD):=(Sub.new<|R.out O).trans<|(Sub.new<|P.out K).trans U;have az:iH M a iD aj=some (.list<|w++dn):=U _ _<|br (P.out K) aJ;have i:=(G.ru.sup W).app<|dC.kept Q<|hd.sup ay;have aA:=W _ _ G.op;generalize iH M a iD=aB at*
 have X:Cx (fO (e2 us) b j) (if bR∈e2 us then 8 else 0) (e2 us) (us++us.map my):=Cx.mk' (λp m=>by
  refine ak (nR.mp m) λu i aC=>?_;clear m;obtain rfl:=aC
  exact G.pr u i) (by unfold e2;exact Y (List.length_map ..) G.aL) aa ab λu m=>(List.mem_append.mp m).imp (λm=>nR.mpr ⟨u,m,rfl⟩) λm=>by refine ak (bS.mp m) λu i aD=>?_;clear m;obtain rfl:=aD;exact nR.mpr ⟨u,i,rfl⟩
 have aE:b∈fO (e2 us) b j:=dS _<|.head _;have aF:j∈fO (e2 us) b j:=dS _<|.tail _<|.head _;have J:=λg=>Jn.zero (c:=if bR∈e2 us then 8 else 0) (g:=g) X.sd;have tu:∀{t},t∈fO (e2 us) b j->Sd bx t->Tu (iF<|fO (e2 us) b j) 3 t:=λm h=>h.tu λv z=>fD.mpr ⟨_,m,z⟩;have ac:(iF<|fO (e2 us) b j).length<=63:=ah (J iD).len<|ah (bz (eA _<|a6 6) _) X.sz;have aG:EI (cU<|e2 us) (iF<|fO (e2 us) b j) 0 [] iD:= .new;clear z;subst ai;refine .jZ<|.tup<|.cons (λv I=>∃n a' g',v=iV n/\Add (cU<|e2 us) (iF<|fO (e2 us) b j) 0 aB I a a' iD g' n b) (.bP (f:=325) (.vr rfl) (B.get .hp _ rfl) (by kernel_rfl)<|Es.x (.one<|.call (.cons (.vr rfl)<|.one<|.vr rfl)<|yD (k:=k+16) p1 q<|B.base _ _ gd) ?_) λv aP z=>?_
 .exact Y aw<|xI (k:=k+10) ac (a6 _) (tu aE aa) B aG _ λn D a' g' A=>⟨n,a',g',rfl,A⟩
 refine cj z λn aQ ad=>?_;refine ak ad λaR aH l=>?_;clear z ad;obtain rfl:=aH;refine .one<|.bP (f:=325) (l.hp▸.vr rfl) (l.R.get .hp _ rfl) (by kernel_rfl)<|Es.x (.one<|.call (.cons (.vr rfl)<|.one<|.vr rfl)<|yD (k:=k+16) p2 q<|l.R.base _ _ gd) ?_;refine Y ax<|xI (k:=k+10) ac (a6 _) (tu aF ab) l.R l.E _ λm D a' g' A=>⟨dA,_,_,.inl rfl,?_⟩;refine(JS (k:=k) X ?_ ?_ G.dG A.R A.E (J g') rfl (A.hp.trans l.hp▸rfl) rfl rfl rfl az aA i (bt l.lt<|ee A.L) A.lt).mono λf l' D z=>⟨z.1.trans<|ar V.bool<|gq.mpr ?_,W.trans z.2⟩
 .intro p m;refine ak (nR.mp m) λu i e=>?_;exact⟨⟨u,dJ _ i,e⟩,my u,dS _<|gm i,e⟩
 .exact Y a0<|Y (aV ..)<|ah (c7 G.aL G.aL) af
 .refine Y (A.L.T n l.lt) (Y l.T<|Y A.T ?_)
  exact av (e2 us) λp m=>by refine ak (nR.mp m) λu i aI=>?_;clear m;obtain rfl:=aI;exact G.pr u i
end
section
variable{k n j r op rl:Nat}{S a T:TH}{R:Nat->Nat}{pr:Nat->V×V}{ks js:List Nat}{vs:List V}{l:au}{e:M}
noncomputable def hy(k:Nat):Str:="r"++kN k
noncomputable def cM(R:Nat->Nat)(ks:List Nat):List V:=ks.map λk=> .ref<|R k
noncomputable def qa(pr:Nat->V×V)(k:Nat):Rl:=⟨hy k,(pr k).1,(pr k).2⟩
noncomputable def jk(pr:Nat->V×V)(ks:List Nat):List Rl:=ks.map<|qa pr
noncomputable def bT(k:Nat)(ks:List Nat):List Nat:=ks.filter λj=> !(j==k)
structure h2(S:TH)(n:Nat)(R:Nat->Nat)(pr:Nat->V×V):Prop where
 n3:n<=3
 at_:∀k,k<n->S (R k)=some (.inst 480<|gg (hy k) (pr k).1 (pr k).2)
 pr:∀k,c8<|pr k
theorem h2.sup(h:h2 S n R pr)(s:Sub S T):h2 T n R pr:=⟨h.n3,λk q=>s _ _<|h.at_ k q,h.pr⟩
theorem h2.yF(h:h2 S n R pr)(c:∀k∈ks,k<n):dC S (cM R ks) (jk pr ks):=⟨(aV _).trans (aV _).symm,λi v u a b=>by refine ak (dY.mp<|(b9 ..).symm.trans a) λk hi d=>?_;clear a;obtain rfl:=d;refine ak (dY.mp<|(b9 ..).symm.trans b) λg e f=>?_;obtain rfl:=f;clear b;obtain rfl:=aT<|hi.symm.trans e;exact⟨R k,rfl,h.at_ k (c k (bI hi))⟩⟩
theorem JT:∀j,j<3->∀k,k<3->hy j=hy k->j=k:=by decide+kernel
theorem yG:∀k,k<3->(bT k (List.range 3)).length<=2:=by decide
theorem JU:(((List.range 3).map λk=>hy k)++(List.range 3).map λk=>hy k++"-back").Nodup:=by decide+kernel
theorem JV:∀k,k<3->(hy k).length<=100:=by decide+kernel
theorem h2.yH(h:h2 S n R pr)(s:ks.Sublist (List.range n))(d:k<n)(g:S r=some (.list (cM R (bT k ks))))(g':S op=some (.dict .s [(.str "rounds",.int 12)])):nP S r op (cM R (bT k ks)) (jk pr (bT k ks)) (pr k).1 (pr k).2:=by
 have b:=s.trans<|List.range_sublist.mpr h.n3;have c:(bT k ks).Sublist ks:=List.filter_sublist;have lt:∀a∈bT k ks,a<n:=λa m=>cz.mp<|s.subset<|c.subset m;have mem:∀u∈jk pr (bT k ks),∃a,a<n/\qa pr a=u:=λu m=>(bS.mp m).imp λa z=>⟨lt a z.1,z.2⟩;refine⟨g,h.yF lt,?_,?_,λu m=>?_,λu m=>?_,g',h.pr k⟩
 .show((bT k ks).map _).length<=2;exact Y (aV ..)<|ah (b.filter _).length_le<|yG k<|bt d h.n3
 .have z:=c.trans b;refine JU.sublist ?_;refine Y dT<|.append ?_ ?_
  .show(((bT k ks).map _).map _).Sublist _;exact Y c3<|z.map _
  .show((((bT k ks).map _).map _).map _).Sublist _;exact Y c3<|Y c3<|z.map _
 .refine ak (mem u m) λa q e=>?_;clear m;obtain rfl:=e;exact JV a<|bt q h.n3
 .refine ak (mem u m) λa q f=>?_;clear m;obtain rfl:=f;exact h.pr a
theorem yI:e2 (jk pr ks)=ks.map pr:=c3
open Classical in
noncomputable def bL(pr:Nat->V×V)(ks:List Nat)(k:Nat):List Nat:=if dq ((bT k ks).map pr) (pr k) then bT k ks else ks
noncomputable def kept(pr:Nat->V×V)(n:Nat):List Nat:=(List.range n).reverse.foldl (bL pr)<|List.range n
theorem El.JW(h:Eg S l e (.ref r))(g:S r=some (.list vs))(b:vs.length<=aF):El S l (oE e) vs.reverse:=λT s c d P k=>h T s c d _ λf a=>⟨vs,a _ _<|s _ _ g,b,k _ _ a.cv a.new⟩
inductive yJ(T:TH)(n:Nat)(R:Nat->Nat)(pr:Nat->V×V)(a7:List Nat)(c d:V)(o:aQ)(r:Nat)(e:List V)(l':au)(a:TH):Prop
 |mk (ks js:List Nat) (b:Nat) (f g:Option V):Sub T a->T b=none->a b=some (.list<|cM R ks)->a r=some o->e=cM R js->ks.Sublist (List.range n)->(∀k∈js,k<n)->js.foldl (bL pr) ks=a7->l'=[some c,some d,some<|.ref b,f,g]->yJ T n R pr a7 c d o r e l' a
open Classical in
noncomputable def mA(S:TH)(j:Nat)(v:V):List V:=if nK S "name" v= .str (hy j) then[] else[v]
theorem yK(h:h2 S n R pr)(c:j<n):∀{ks:List Nat},(∀k∈ks,k<n)->(cM R ks).flatMap (mA S j)=cM R (bT j ks):=by
 intro ks;induction ks with
 |nil=>exactλZ=>rfl
 |cons k ks b=>
  intro a;have b:=b λk m=>a k<|.tail _ m;have a:=a k<|.head _;have e:nK S "name" (.ref<|R k)= .str (hy k):=gh.of (u:=qa pr k) ⟨R k,rfl,h.at_ k a⟩ (fK _ _ _).1;show mA S j (.ref<|R k)++List.flatMap (mA S j) (cM R ks)=_;refine Y b ?_;unfold mA;refine Y e ?_;by_cases q:k=j
  .clear c b;subst q;refine Y (az rfl) ?_;unfold bT;refine Y (List.filter_cons_of_neg (by rw[d1];nofun)) ?_;rfl
  .refine Y (ay λz=>q<|JT k (bt a h.n3) j (bt c h.n3)<|V.str.inj z) ?_;unfold bT;refine Y (List.filter_cons_of_pos (by rw[beq_false_of_ne q];rfl)) ?_;rfl
theorem nS(s:ks.Sublist (List.range n))(a:n<=3):(cM R ks).length<=3:=by unfold cM;exact Y (List.length_map ..)<|Nat.le_trans s.length_le<|List.length_range▸a
open Classical in
theorem JX(h:h2 S n R pr)(g:S rl=some (.list (cM R (List.range n))))(g':S op=some (.dict .s [(.str "rounds",.int 12)])):eN (F aU (k+21)) 587 [.ref rl,.ref op] S λws=>ws=cM R (kept pr n):=by
 have D:(cM R<|List.range n).length<=3:=nS (.refl _) h.n3;have A:∀{m},m<=3->m<=aF:=λh=>ah h af;refine pO EU rfl λT s=> .b8<|(El.pn (.vr rfl) (s _ _ g)<|A D).x λf c=>?_;have h:=h.sup s;refine .then (.w6 (yJ T n R pr (kept pr n) (.ref rl) (.ref op)<|.list (cM R<|List.range n).reverse) (.new<|.JW (.vr rfl) (br c<|s _ _ g)<|A D) (λr E=>⟨List.range n,(List.range n).reverse,f,none,none,(Sub.new c).trans<|.new E,c,br E aJ,aJ,List.map_reverse.symm,.refl _,λk m=>cz.mp<|List.mem_reverse.mp m,rfl,rfl⟩) (λr M l' a x=>x.casesOn λZ Z Z Z Z Z Z Z z Z Z Z Z Z=>z) (λr v M l' a x=>?_) λr l' a x=>?_)
 .cases x with|mk ks js f N O d c l gr p t u B C=>
  subst C;cases js with
  |nil=>exact eG p
  |cons j js=>
  refine jA (b5 p) λP Q=>?_;obtain rfl:=P;clear p;obtain rfl:=Q;have w:=u j<|.head _;have y:=h.sup d;have kn:∀k∈ks,k<n:=λk m=>cz.mp<|t.subset m;have G:(bT j ks).Sublist (List.range n):=List.filter_sublist.trans t;have ru:∀{T},Sub a T->∀k,k<n->gh T (.ref<|R k) (qa pr k):=λs k q=>⟨R k,rfl,s _ _<|y.at_ k q⟩;refine .dF<|.b8<|El.x (vs:=cM R<|bT j ks) (yK y w kn▸.comp (.list (.vr rfl) l) (λT s=>s _ _ l) (Y (yK y w kn)<|A<|nS G h.n3) λv m=>?_) λo I=>?_
  .refine ak (bS.mp m) λk U V=>?_;clear m;obtain rfl:=V;have q:=kn k U;have e:nK a "name" (.ref<|R k)= .str (hy k):=(ru (.refl _) k q).of (fK _ _ _).1;refine .if (.ne ((ru (.refl _) k q).fld (.vr rfl) (fK _ _ _).1) ((ru (.refl _) j w).fld (.vr rfl) (fK _ _ _).1) (.str _ _)<|.str _ _) (λz=>?_) λz=>?_
   .unfold mA;refine Y e (Y (if_neg<|of_decide_eq_false<|Bool.not_eq_true' _▸z) ?_);exact .elt<|.vr rfl
   .unfold mA;exact Y e<|Y (if_pos<|of_decide_eq_true<|Bool.not_eq_false' _▸z) rfl
  .have b:=Sub.new (o:= .list<|cM R<|bT j ks) I;have J:=ru b j w;have K:=yE (k:=k)<|(y.sup b).yH t w aJ<|b _ _<|d _ _<|s _ _ g';rw[yI] at K;have a7:∀{L},js.foldl (bL pr) L=(j::js).foldl (bL pr) ks->js.foldl (bL pr) L=kept pr n:=λz=>z.trans B;refine .ma (.call (.cons (.vr rfl)<|.cons (J.fld (.vr rfl) (fK _ _ _).2.1)<|.cons (J.fld (.vr rfl) (fK _ _ _).2.2.1)<|.one<|.vr rfl) K) (λz=> .assoc<|.asg (.vr rfl)<|.no<|.pass ?_) λz=> .no<|.pass ?_
   .exact⟨bT j ks,js,o,_,_,d.trans b,h4.mpr λo' z=>((a4<|I.symm.trans<|d _ _ z)),aJ,b _ _ gr,rfl,G,λk m=>u k<|.tail _ m,a7<|ar (js.foldl<|bL pr) (az<|cf z).symm,rfl⟩
   .exact⟨ks,js,f,_,_,d.trans b,c,b _ _ l,b _ _ gr,rfl,t,λk m=>u k<|.tail _ m,a7<|ar (js.foldl<|bL pr) (ay<|fB z).symm,rfl⟩
 .cases x with|mk ks js f N O d c l gr p t u B C=>
  subst C;clear u;cases js with
  |cons=>exact ik p
  |nil=>exact .dz (.vr rfl) ⟨f,_,rfl,c,ar (cM R) B,λi o z=>by
    unfold upd at z;split at z
    .obtain rfl:=aT z;subst i;exact l
    .exact d _ _ z⟩
end
section
variable{c d L n:Nat}{t u v a b k:V}{ts j:List V}{h f:V->Nat}{ps told o g:List (V×V)}{i:bg->Prop}{P P':Prop}
noncomputable def di(ts:List V)(h:V->Nat):List (V×V):=ts.map λt=>(t,iV<|h t)
noncomputable def dt(h:V->Nat)(c d:Nat):V->Nat:=λt=>if h t=c then d else h t
noncomputable def ey(h:V->Nat)(t:V):Nd:=(strOf<|jh t,(jf t).map h)
structure gj(ts:List V):Prop where
 sd:∀t∈ts,Sd bx t
 sub:∀t∈ts,∀k∈jf t,k∈ts
 nd:ts.Nodup
noncomputable def val(ts:List V)(I:bg)(c:Nat):Nat:=ev I<|ts.getD c .none
structure Hm(i:bg->Prop)(ts:List V)(h:V->Nat):Prop where
 lt:∀t∈ts,h t<ts.length
 snd:∀I,i I->∀t∈ts,val ts I (h t)=ev I t
theorem Hm.dt(a:Hm i ts h)(hd:d<ts.length)(e:∀I,i I->val ts I d=val ts I c):Hm i ts (dt h c d):=⟨λt m=>by
 unfold Mine.dt;split
 .exact hd
 .exact a.lt t m,λI b t m=>by
 unfold Mine.dt;split
 .rename_i q;exact Y (e I b)<|Y q.symm<|a.snd I b t m
 .exact a.snd I b t m⟩
theorem Sd.mk(h:Sd bx t):∃op ks,t= .tup (.str op::ks):=by refine jE h.tm λn h=>?_;cases h with|mk n op ks=>exact⟨op,ks,rfl⟩
theorem Hm.key(T:gj ts)(a:Hm i ts h)(m:t∈ts)(I:bg)(b:i I):val ts I (h t)=I (ey h t).1 ((ey h t).2.map (val ts I)):=by refine Y (a.snd I b t m) ?_;refine cj ((T.sd t m).mk) λop ks c=>?_;obtain rfl:=c;refine Y (fJ ..) ?_;show _=I op ((ks.map h).map _);exact Y c3<|ar (I op)<|dZ λk d=>(a.snd I b k<|T.sub _ m k d).symm
noncomputable def Rw(i:bg->Prop)(ts:List V)(g:List (V×V)):Prop:=∀k v,aW g k=some v->∃L p,(v=iV L/\k=aZ p)/\L<ts.length/\∀I,i I->val ts I L=I p.1 (p.2.map<|val ts I)
theorem Rw.get(T:gj ts)(c:Hm i ts h)(R:Rw i ts g)(m:t∈ts)(e:aW g (aZ (ey h t))=some v):∃L,v=iV L/\L<ts.length/\∀I,i I->val ts I L=val ts I (h t):=by refine b6 (R _ _ e) λL p a l q=>?_;refine jA a λd f=>?_;clear a;obtain rfl:=ka f;exact⟨L,d,l,λI b=>(q I b).trans (c.key T m I b).symm⟩
theorem Rw.set(T:gj ts)(a:Hm i ts h)(R:Rw i ts g)(m:t∈ts):Rw i ts (bD g (aZ (ey h t)) (iV (h t))):=λk v e=>by
 classical
 rw[ke] at e;split at e
 .rename_i q;exact⟨h t,ey h t,⟨(aT e).symm,q⟩,a.lt t m,a.key T m⟩
 .exact R k v e
noncomputable def JY(f h:V->Nat):Prop:=∀t a,f t=f a->h t=h a
inductive Wk(ts:List V)(f h:V->Nat)(P:Prop):Prop
 |same:h=f->P->Wk ts f h P
 |less (a b:V):a∈ts->b∈ts->f a≠f b->h a=h b->JY f h->Wk ts f h P
theorem Wk.mono(W:Wk ts f h P)(k:h=f->P->P'):Wk ts f h P':=match W with
 | .same e p=> .same e<|k e p
 | .less a b c d n e co=> .less a b c d n e co
theorem s7(e:h t=h u):dt h c d t=dt h c d u:=by unfold dt;exact Y e rfl
theorem Wk.dt(W:Wk ts f h P)(k:h=f->P->Wk ts f (dt h c d) P'):Wk ts f (dt h c d) P':=match W with
 | .same e p=>k e p
 | .less a b g i n e co=> .less a b g i n (s7 e) λt j z=>s7<|co t j z
theorem yL(c:a∈ts)(d:b∈ts)(n:h b≠h a):Wk ts h (dt h (h b) (h a)) P':= .less a b c d n.symm (by unfold dt;exact Y (if_neg n.symm)<|Y (if_pos rfl) rfl) λt e z=>s7 z
noncomputable def mB(told j:List (V×V))(f:V->Nat):Prop:=∀p∈told,p∈j\/f p.1=f p.2
theorem Wk.tell(W:Wk ts f h (mB told ((a,b)::o) f))(c:a∈ts)(d:b∈ts):Wk ts f (Mine.dt h (h b) (h a)) (mB told o f):=W.dt λe p=>by
 clear W;subst e;by_cases q:h b=h a
 .refine .same (funext λt=>?_) λz m=>?_
  .unfold Mine.dt;split
   .rename_i w;exact Y w<|Y q rfl
   .rfl
  .refine Or.elim (p z m) (λm=>?_) λm=>?_
   .rcases ba.mp m with rfl|m
    .exact .inr q.symm
    .exact .inl m
   .exact .inr m
 .exact yL c d q
structure jl(ts:List V)(told g:List (V×V))(j:List V)(f:V->Nat):Prop where
 t:mB told [] f
 r:∀k v,aW g k=some v->∃t∈ts,v=iV (f t)
 d:∀t∈ts,t∈j\/aW g (aZ<|ey f t)=some (iV<|f t)
theorem Wk.new(W:Wk ts f h (jl ts told g (t::j) f))(m:t∈ts)(e:aW g (aZ (ey h t))=none):Wk ts f h (jl ts told (bD g (aZ (ey h t)) (iV (h t))) j f):=W.mono λe' p=>by
 classical
 subst e';refine⟨p.t,λk v q=>?_,λu mu=>?_⟩
 .rw[ke] at q;split at q
  .exact⟨t,m,(aT q).symm⟩
  .exact p.r k v q
 .refine Y (ke ..) ?_;by_cases z:u=t
  .clear m e W p;subst z;exact .inr<|az rfl
  .refine Or.elim (p.d u mu) (λw=>?_) λw=>?_
   .exact .inl<|(ba.mp w).resolve_left z
   .exact Y (ay λy=>by rw[y,e] at w;exact a4 w)<|.inr w
theorem Wk.old(W:Wk ts f h (jl ts told g (t::j) f))(e:aW g (aZ (ey h t))=some (iV (h t))):Wk ts f h (jl ts told g j f):=W.mono λe' p=>by subst e';refine⟨p.t,p.r,λu mu=>(p.d u mu).elim (λw=>(ba.mp w).elim (λz=>?_) .inl) .inr⟩;clear W p w;subst z;exact .inr e
theorem Wk.pH(W:Wk ts f h (jl ts told g (t::j) f))(m:t∈ts)(e:aW g (aZ (ey h t))=some (iV L))(n:L≠h t):Wk ts f (Mine.dt h (h t) L) (jl ts told g j f):=W.dt λe' p=>by clear W;subst e';refine ak (p.r _ _ e) λu mu z=>?_;clear e;obtain rfl:=e1 z;exact yL mu m n.symm
structure iI(ts:List V)(told:List (V×V))(h:V->Nat):Prop where
 t:∀p∈told,h p.1=h p.2
 k:∀t∈ts,∀a∈ts,ey h t=ey h a->h t=h a
theorem jl.JZ(p:jl ts told g [] h):iI ts told h:=⟨λq m=>(p.t q m).resolve_left nofun,λt m a b e=>by have z:=(p.d t m).resolve_left nofun;rw[e,(p.d a b).resolve_left nofun] at z;exact(e1 (aT z)).symm⟩
noncomputable def m2(ts:List V)(h:V->Nat):Nat:=(ts.flatMap λt=>ts.map λa=>(t,a)).countP λp=> !(h p.1==h p.2)
theorem Wk.lt(W:Wk ts f h P):(h=f/\P)\/m2 ts h<m2 ts f/\¬∀t∈ts,h t=f t:=match W with
 | .same e p=> .inl ⟨e,p⟩
 | .less a b c d n e co=> .inr ⟨pG (λp m z=>by
   rw[hE,lE] at z⊢
   exactλw=>z (co _ _ w)) ⟨(a,b),fD.mpr ⟨a,c,gm d⟩,by refine Y (beq_false_of_ne n) ?_;rfl,by refine Y e (Y (d1 ..) ?_);rfl⟩,λz=>n (Y (z a c).symm (Y (z b d).symm (Y e rfl)))⟩
open Classical in
noncomputable def kr(ts:List V)(h:V->Nat):bg:=λop cs=>if a:∃t∈ts,ey h t=(op,cs) then h a.choose else ts.length
theorem s8(C:iI ts told h)(m:t∈ts){op:Str}{cs:List Nat}(e:ey h t=(op,cs)):kr ts h op cs=h t:=by have a:∃t∈ts,ey h t=(op,cs):=⟨t,m,e⟩;unfold kr;refine Y (dif_pos a)<|jA a.choose_spec λb e'=>?_;exact C.k _ b _ m<|e'.trans e.symm
theorem qb(T:gj ts)(C:iI ts told h)(m:t∈ts):ev (kr ts h) t=h t:=by
 refine jE ((T.sd t m).tm) λn q=>?_;induction q with
 |mk n op ks _ b=>exact Y (fJ ..)<|Y (dZ λk a=>b k a<|T.sub _ m k a)<|s8 C m rfl
theorem J0{x y:Nat}(T:gj ts)(C:iI ts told h)(hs:∀u v,g2 u v∈ts->g2 v u∈ts/\(g2 u v,g2 v u)∈told):kr ts h "g" [x,y]=kr ts h "g" [y,x]:=by
 have a:∀{x y:Nat},(∃t∈ts,ey h t=(("g":Str),[x,y]))->kr ts h "g" [x,y]=kr ts h "g" [y,x]:=λ⟨t,m,e⟩=>by refine cj ((T.sd t m).mk) λop ks f=>?_;obtain rfl:=f;obtain rfl:op="g":=ar Prod.fst e;refine b6 (List.map_eq_cons_iff.mp (ar Prod.snd e:ks.map h=_)) λu ks g i b=>?_;obtain rfl:=g;obtain rfl:=i;refine b6 (List.map_eq_cons_iff.mp b) λv ks j k l=>?_;obtain rfl:=j;obtain rfl:=k;clear b e;obtain rfl:=List.map_eq_nil_iff.mp l;refine jA (hs u v m) λn q=>?_;exact(s8 C m rfl).trans<|(C.t _ q).trans (s8 C n rfl).symm
 by_cases c:∃t∈ts,ey h t=(("g":Str),[x,y])
 .exact a c
 .by_cases d:∃t∈ts,ey h t=(("g":Str),[y,x])
  .exact(a d).symm
  .unfold kr;exact Y (dif_neg c)<|Y (dif_neg d) rfl
theorem J1(T:gj ts)(c:Hm (cU ps) ts h)(C:iI ts told h)(hp:∀p∈ps,p≠bR->p∈told/\p.1∈ts/\p.2∈ts)(hs:bR∈ps->∀u v,g2 u v∈ts->g2 v u∈ts/\(g2 u v,g2 v u)∈told)(d:a∈ts)(f:b∈ts):h a=h b↔∀I,cU ps I->ev I a=ev I b:=by
 refine⟨λe I g=>Y (c.snd I g a d).symm<|Y (c.snd I g b f).symm<|Y e rfl,λw=>?_⟩;refine Y (qb T C d).symm<|Y (qb T C f).symm<|w _ λp m=>?_;unfold fN;split
 .rename_i e;exactλx y=>J0 T C<|hs<|e▸m
 .rename_i e;refine b1 (hp p m e) λq i j=>?_;exact Y (qb T C i)<|Y (qb T C j)<|C.t p q
end
section
variable{c d L n m k i hm rw r:Nat}{t u v a b:V}{ts G ks:List V}{h D f:V->Nat}{ps told E ai es:List (V×V)}{C:bg->Prop}{P P':Prop}{S j T:TH}{l:au}{e e' o y ae:M}{K:V->TH->Prop}{rest:aE}{Q:Fl->au->TH->Prop}
noncomputable def bp(p:V×V):V:= .tup [p.1,p.2]
theorem Tm.key(h:Tm n t):a8 n t:=by
 induction h with
 |mk n op ks _ a=>exact .tup n _ λv m=>(ba.mp m).elim (λe=>e▸.str n op)<|a v
theorem Tm.cmp:∀{n t u},Tm n t->Tm n u->e6 n t u
 |_,_,_,.mk n op ks h,.mk _ c e d=> .tup n _ _ (λi a b o y=>match i,o,y with
  |0,o,y=>aT o▸aT y▸⟨.str n op,.str n c⟩
  |i+1,o,y=>⟨(h a (bI o)).key,(d b (bI y)).key⟩) λi a b o y=>match i,o,y with
  |0,o,y=>aT o▸aT y▸.str n op c
  |i+1,o,y=>(h a<|bI o).cmp<|d b<|bI y
theorem Tm.up:Tm n t->Tm (n+1) t:=λh=>by
 induction h with
 |mk n op ks _ a=>exact .mk _ op ks a
theorem Tm.ups(h:Tm n t):∀k,Tm (n+k) t
 |0=>h
 |k+1=>(h.ups k).up
theorem Sd.key(h:Sd bx t):bK .t t:=by have z:=h.mx.ups 4;clear h;cases z with|mk Z op ks a=>exact .t _ (Tm.mk _ op ks a).key
theorem Sd.pP(h:∀t∈ts,Sd bx t)(c:ts.length<=63):mm ts/\∃kk,∀v∈ts,bK kk v:=⟨⟨c,.inr ⟨λa d b e=>((h a d).mx.ups 27).cmp ((h b e).mx.ups 27),.s,λv m=>by refine cj ((h v m).mk) λop ks f=>?_;clear m;obtain rfl:=f;exact .mk _ _ (.s op)⟩⟩,.t,λv m=>(h v m).key⟩
theorem J2:∀{es:List (V×V)}{k v:V},k∉es.map Prod.fst->bD es k v=es++[(k,v)]:=by
 intro es;induction es with
 |nil=>exactλZ=>rfl
 |cons p es a=>
  intro k v n
  classical
  show(if p.1=k then _ else _)=_;refine Y (ay λz=>n (by clear n;subst z;exact .head _))<|Y (a λm=>n<|.tail _ m) ?_;rfl
theorem J3(a:∀t∈ts,bK .t t):∀{es:List (V×V)},(es.map Prod.fst++ts).Nodup->hO .t (ts.map λt=> .tup [t,iV (f t)]) es (es++di ts f):=by
 induction ts with
 |nil=>intro es _;exact Y (show di [] f=[] from rfl)<|Y (d2 ..)<|.nil es
 |cons t ts b=>intro es nd;have n:t∉es.map Prod.fst:=λm=>(List.nodup_append.mp nd).2.2 t m t (.head _) rfl;have z:=b (λu m=>a u<|.tail _ m) (es:=es++[(t,iV<|f t)])<|Y dT<|Y (gV ..) nd;rw[gV] at z;exact .cons t _ _ _ _ (a t<|.head _)<|J2 n▸z
theorem Ex.s9(h:El S l e (ts.map λt=> .tup [t,iV (f t)]))(T:gj ts)(b:ts.length<=63)(q:∀d,S d=none->K (.ref d) (upd S d (.dict .t (di ts f)))):Ex S l (aC (aD .dict) (H e aa)) K:=λc i P p=>h S (.refl S) c i _ λr j g a=>
 .inl (.inr ⟨_,a.at,.t,_,J3 (λt m=>(T.sd t m).key) (es:=[]) T.nd,Y (aV ..)<|ah b af,p _ _ _ (q _ (a.weak g).cv) (a.weak g).new⟩)
theorem qc:∀{ts:List V},t∈ts->aW (di ts h) t=some (iV (h t))
 |u::ts,m=>by
  classical
  show(if u=t then some (iV<|h u) else aW (di ts h) t)=_;by_cases e:u=t
  .exact Y (az e)<|Y e rfl
  .exact Y (ay e)<|qc<|(ba.mp m).resolve_left<|cO e
theorem Eg.ku(a:Eg S l e (.ref hm))(b:Eg S l e' t)(g:S hm=some (.dict .t (di ts h)))(T:gj ts)(m:t∈ts):Eg S l (ax e e') (iV (h t)):= .gL a b g (T.sd t m).key<|qc m
theorem Eg.dt(a:Eg S l o (iV (h t)))(b:Eg S l y (iV c))(e:Eg S l ae (iV d)):Eg S l (eI (aH .Eq o y) ae o) (iV (dt h c d t)):=by
 refine .ite (.fu a b) (λz=>?_) λz=>?_
 .unfold Mine.dt;exact Y (if_pos<|Int.ofNat.inj<|of_decide_eq_true z) e
 .unfold Mine.dt;exact Y (if_neg λw=>of_decide_eq_false z<|congrArg Int.ofNat w) a
theorem yM{js:List Nat}{kk i:Nat}(hs:Eg S l e (.ref r))(g:S r=some (.list ts))(T:gj ts)(a:ts.length<=63)(b:∀t∈ts,Eg S ((cH js 1 l).set i (some t)) (vr i) t/\Eg S ((cH js 1 l).set i (some t)) e' (iV (f t)))(q:∀d,S d=none->K (.ref d) (upd S d (.dict .t (di ts f)))):
  Ex S l (aC (aD .dict)<|H (aS (aI e) js 1 (aj i) aK<|aR<|bj<|H (vr i)<|H e' aa) aa) K:=
 .s9 (.map (.list hs g) (λT s=>s _ _ g) (ah a af) λt m=> .tup (.cons (b t m).1<|.one (b t m).2) dA) T a q
noncomputable def hA(J N:V)(F:Nat)(O R U:V)(tm:Nat)(X hm bf A B ab ac ad:Option V):au:=[some J,some N,some<|.ref F,some O,some R,some U,some<|.ref tm,X,hm,bf,A,B,ab,ac,ad]
variable{F tm:Nat}{J N O R U:V}{X bf A B ab ac ad:Option V}
structure Fw(S:TH)(F tm:Nat)(C:bg->Prop)(ts:List V)(told:List (V×V)):Prop where
 T:gj ts
 aL:ts.length<=63
 lz:S tm=some (.list ts)
 gd:S F=some (.list<|told.map bp)
 tl:∀p∈told,(p.1∈ts/\p.2∈ts)/\∀I,C I->ev I p.1=ev I p.2
theorem Fw.sup(W:Fw S F tm C ts told)(s:Sub S T):Fw T F tm C ts told:=⟨W.T,W.aL,s _ _ W.lz,s _ _ W.gd,W.tl⟩
inductive yN(S:TH)(C:bg->Prop)(ts:List V)(told:List (V×V))(D:V->Nat)(sl:Option V->Option V->Option V->au)(G:List V)(l':au)(j:TH):Prop
 |mk (E:List (V×V)) (hm:Nat) (h:V->Nat) (A B:Option V):Sub S j->j hm=some (.dict .t<|di ts h)->Hm C ts h->Wk ts D h (mB told E D)->G=E.map bp->(∀p∈E,p∈told)->l'=sl (some<|.ref hm) A B->yN S C ts told D sl G l' j
theorem J4(W:Fw S F tm C ts told)(b:S hm=some (.dict .t (di ts D)))(a:Hm C ts D)
  (q:∀j hm h A B,Sub S j->j hm=some (.dict .t<|di ts h)->Hm C ts h->Wk ts D h (mB told [] D)->Sw j (hA J N F O R U tm X (some<|.ref hm) bf A B ab ac ad) rest Q):
  Sw S (hA J N F O R U tm X (some<|.ref hm) bf A B ab ac ad) (ag (forM (aI<|vr 2) (cB 2<|bb (aj 10)<|bb (aj 11) cu)<|ag (aB (aj 8)<|aC (aD .dict)<|H (aS (aI<|vr 6) [8,10,11] 1 (aj 3) aK<|aR<|bj<|H (vr 3)<|H (eI (aH .Eq (ax (vr 0)<|vr 3)<|ax (vr 0)<|vr 2) (ax (vr 0)<|vr 1)<|ax (vr 0)<|vr 3) aa) aa) av) rest) Q:=by
 refine .then (.for (yN S C ts told D λhm A B=>hA J N F O R U tm X hm bf A B ab ac ad) (.list (.vr rfl) W.gd) ⟨told,hm,D,A,B,.refl S,b,a,.same rfl λp m=> .inl m,rfl,λZ=>id,rfl⟩ (λG l' j x=>x.casesOn λZ Z Z Z Z s Z Z Z Z Z Z=>s _ _ W.gd) (λv G l' j x=>?_) λl' j x=>?_)
 .cases x with|mk E hm h A B s b a Wk c sub i=>
  subst i;cases E with
  |nil=>exact eG c
  |cons p E=>
  refine jA (b5 c) λo u=>?_;obtain rfl:=o;clear c;obtain rfl:=u;refine jA (W.tl p<|sub p<|.head _) λw tl=>?_;refine jA w λg k=>?_;have at_:∀{l:au}{e e':M}{t:V},Eg j l e (.ref hm)->Eg j l e' t->t∈ts->Eg j l (ax e e') (iV<|h t):=λy z m=> .ku y z b W.T m;refine .me<|.b8<|yM (r:=tm) (f:=dt h (h p.2)<|h p.1) (kk:=0) (.vr rfl) (s _ _ W.lz) W.T W.aL (λt m=>⟨.vr rfl,.dt (at_ (.vr rfl) (.vr rfl) m) (at_ (.vr rfl) (.vr rfl) k)<|at_ (.vr rfl) (.vr rfl) g⟩) λd hd=> .pass ?_;exact⟨E,d,_,_,_,s.trans<|.new hd,aJ,a.dt (a.lt _ g) λI n=>Y (a.snd I n _ g)<|Y (a.snd I n _ k)<|Y (tl I n) rfl,Wk.tell g k,rfl,λq m=>sub q<|.tail _ m,rfl⟩
 .cases x with|mk E hm h A B s b a Wk c sub i=>
  subst i;clear sub;cases E with
  |cons=>exact ik c
  |nil=>exact q j hm h A B s b a Wk
end
section
variable{c d L n m k i hm rw r:Nat}{t u v a b:V}{ts F ks:List V}{h E f:V->Nat}{ps told ae A es:List (V×V)}{G:bg->Prop}{P P':Prop}{S y T:TH}{l:au}{e e' ai ak al:M}{K:V->TH->Prop}{rest:aE}{Q:Fl->au->TH->Prop}
variable{I tm:Nat}{J N O U X:V}{B bf ab ac ad C D:Option V}
theorem Ex.neN(h:Ex S l e λv y=>∃a b:Nat,v=iV a/\Eg y l e' (iV b)/\K (.bool !(a==b)) y):Ex S l (aH .NotEq e e') K:=λc d P p=>h c d _ λv y f q g=>by
 classical
 obtain⟨a,b,rfl,i,q⟩:=q;refine i y (.refl y) f g _ λj k=> .inl<|.inl ⟨.int _ _,.int _ _,?_⟩;exact Y (show decide (iV a=iV b)=(a==b) from(iM.mpr (by rw[h8,gY];exact⟨e1,ar _⟩)))<|p _ _ j q k
theorem J5(b:l[7]? =some (some t))(d:l[8]? =some (some (.ref hm)))(T:gj ts)(m:t∈ts)(g:S hm=some (.dict .t (di ts h))):Eg S l (a9 .Add (bj (H (ax (vr 7) (cst (.int 0))) aa)) (aC (aD .tuple) (H (aS (aI (c4 (vr 7) 1)) [8] 1 (aj 1) aK (aR (ax (vr 0) (vr 1)))) aa))) (aZ (ey h t)):=by
 have sub:=T.sub t m;have pt:=(T.sd t m).pt;generalize 3=n at pt;clear m;cases pt with|mk n op ks Z a Z=>
 have e:aZ (ey h<|.tup<|.str op::ks)= .tup ([.str op]++ks.map λk=>iV<|h k):=ar (λw=>V.tup<|.str op::w) c3;have c:cH [8] 1 l=[some<|.ref hm,none]:=by unfold cH;show[(l[8]?).join,none]=_;refine Y d ?_;rfl
 refine Y e<|.ny (.tup (.one<|.eu (vs:= .str op::ks) (j:=0) (.vr b) .cst rfl<|jd a) dO) (.nz (.map (.tup<|.f9 (.vr b) ⟨aM _,kf _ _,jc a⟩) (λZ Z=>trivial) (ah a af) λk f=>?_)<|bM<|ah a af) ?_
 .exact Y c<|.ku (.vr rfl) (.vr rfl) g T<|sub k f
 .exact Y (aV ..)<|ah (bz a 1) af
inductive yO(S:TH)(G:bg->Prop)(ts:List V)(told:List (V×V))(E:V->Nat)(rw :Nat)(sl:Option V->Option V->Option V->Option V->au)(F:List V)(l':au)(y:TH):Prop
 |mk (A:List (V×V)) (hm:Nat) (h:V->Nat) (B C D:Option V):Sub S y->y rw =some (.dict .t A)->y hm=some (.dict .t<|di ts h)->hm≠rw ->Hm G ts h->Rw G ts A->Wk ts E h (jl ts told A F E)->(∀t∈F,t∈ts)->A.length+F.length<=63->l'=sl B (some<|.ref hm) C D->yO S G ts told E rw sl F l' y
theorem J6(W:Fw S I tm G ts told)(a:S hm=some (.dict .t (di ts h)))(b:Hm G ts h)(ae:Wk ts E h (mB told [] E))
  (q:∀y hm h B ad C D,Sub S y->y hm=some (.dict .t<|di ts h)->Hm G ts h->Wk ts E h (iI ts told E)->Q .next (hA J N I O U X tm B (some<|.ref hm) bf ab ac ad C D) y):
  Sw S (hA J N I O U X tm B (some<|.ref hm) bf ab ac ad C D) (ag (aB (aj 12) gF)<|ag (forM (aI<|vr 6) (aj 7)<|ag (aB (aj 13)<|a9 .Add (bj<|H (ax (vr 7)<|cst<|.int 0) aa)<|aC (aD .tuple)<|H (aS (aI<|c4 (vr 7) 1) [8] 1 (aj 1) aK<|aR<|ax (vr 0)<|vr 1) aa)<|ag (bW (aH .NotEq (bB (bG .eJ) (bH .eJ) (vr 12)<|H (vr 13)<|H (ax (vr 8)<|vr 7) aa)<|ax (vr 8)<|vr 7) (ag (aB (aj 14)<|ax (vr 8)<|vr 7)<|ag (aB (aj 8)<|aC (aD .dict)<|H (aS (aI<|vr 6) [14,8,13,12] 1 (aj 4) aK<|aR<|bj<|H (vr 4)<|H (eI (aH .Eq (ax (vr 1)<|vr 4)<|vr 0) (ax (vr 3)<|vr 2)<|ax (vr 1)<|vr 4) aa) aa) av) av) av) av) Q:=by
 refine .b8<|.pN .t λrw c=> .then (.for (yO S G ts told E rw λB hm C D=>hA J N I O U X tm B hm bf ab ac (some<|.ref rw) C D) (.list (.vr rfl)<|br c W.lz) ⟨[],hm,h,B,C,D,.new c,aJ,br c a,e0 c a,b,(λk v e=>(a4 e)),ae.mono λZ p=>⟨p,λk v e=>((a4 e)),λt m=> .inl m⟩,λZ=>id,ah (bF<|eE _) W.aL,rfl⟩ (λF l' y x=>x.casesOn λZ Z Z Z Z Z s Z Z Z Z Z Z Z Z Z=>s _ _ W.lz) (λt F l' y x=>?_) λl' y x=>?_)
 .cases x with|mk A hm h B C D s gr a ne b R Wk sub aL g=>
  subst g;have m:=sub t<|.head _;have pj:=λu z=>sub u<|.tail _ z;have i:A.length<=63/\A.length+F.length<=63:=⟨ah (cp _ _) aL,ah (fk _) aL⟩;have ai:∀{d},y d=none->d≠rw :=λz w=>(a4<|(w▸z).symm.trans gr);refine .dF<|.asg (J5 rfl rfl W.T m a)<|.then (.r9<|.neN<|.eJ (.vr rfl) gr (.vr rfl) (.ku (.vr rfl) (.vr rfl) a W.T m) (lk _) (ah i.1 af) (λu e=>?_) λe=>?_)
  .refine bE (R.get W.T b m e) λL ak K P=>?_;obtain rfl:=ak;refine⟨L,h t,rfl,.ku (.vr rfl) (.vr rfl) a W.T m,_,rfl,λz=>?_,λz=>?_⟩
   .have n:L≠h t:=λw=>by rw[w,d1] at z;exact b3 z
    have at_:∀{l:au}{e e':M}{t:V},Eg y l e (.ref hm)->Eg y l e' t->t∈ts->Eg y l (ax e e') (iV<|h t):=λal am m=> .ku al am a W.T m;refine .asg (at_ (.vr rfl) (.vr rfl) m)<|.b8<|yM (r:=tm) (f:=dt h (h t) L) (kk:=0) (.vr rfl) (s _ _ W.lz) W.T W.aL (λu mu=>⟨.vr rfl,.dt (at_ (.vr rfl) (.vr rfl) mu) (.vr rfl)<|.gL (.vr rfl) (.vr rfl) gr (lk _) e⟩) λd hd=> .pass<|.pass ?_;exact⟨A,d,_,_,_,_,s.trans<|.new hd,br hd gr,aJ,ai hd,b.dt K P,R,Wk.pH m e n,pj,i.2,rfl⟩
   .have e':L=h t:=by rw[Bool.not_eq_false',gY] at z;exact z
    clear K P z;subst e';exact .pass<|.pass ⟨A,hm,h,_,_,_,s,gr,a,ne,b,R,Wk.old e,pj,i.2,rfl⟩
  .refine⟨h t,h t,rfl,.ku (.vr rfl) (.vr rfl) ((bC ne).trans a) W.T m,_,rfl,λz=>?_,λz=>?_⟩
   .rw[d1] at z;exact b3 z
   .refine .pass (.pass ⟨_,hm,h,_,_,_,λj o z=>(bC λw=>?_).trans<|s j o z,aJ,(bC ne).trans a,ne,b,R.set W.T b m,Wk.new m e,pj,?_,rfl⟩)
    .rw[w,c] at z;exact a4 z
    .exact Y (sD _ _ _ e)<|ah (bF<|d0 _ _ _) aL
 .cases x with|mk A hm h B C D s gr a ne b R Wk sub aL g=>subst g;exact .pass<|q y hm h _ _ _ _ s a b<|Wk.mono λZ p=>p.JZ
end
section
variable{c d L n m k i hm rw r:Nat}{t u v a b:V}{ts U ks:List V}{h I f:V->Nat}{ps told X ab es:List (V×V)}{G:bg->Prop}{P P':Prop}{S j T:TH}{l:au}{e e' ac ad ae:M}{K:V->TH->Prop}{rest:aE}{Q:Fl->au->TH->Prop}{kk:KK}
variable{J tm:Nat}{N O E F R:V}{w bf y A B C D:Option V}
theorem El.items(h:Eg S l e (.ref r))(g:S r=some (.dict kk es))(b:es.length<=aF):El S l (dV lS e) (dx es):=λT s c d P k=>h T s c d _ λf a=>⟨kk,es,a _ _<|s _ _ g,b,k _ _ a.cv a.new⟩
theorem yP:∀e∈di ts h,a8 7 e.2:=λe m=>by refine ak (bS.mp m) λt Z a=>?_;clear m;obtain rfl:=a;exact .int _ _
theorem J7:jK (di ts I) (di ts h)↔∀t∈ts,h t=I t:=by
 refine⟨λs t m=>?_,λq=>⟨(aV _).trans (aV _).symm,λk v m=>?_⟩⟩
 .have z:=s.2 t (iV<|I t) (gm m);rw[qc m] at z;exact e1<|aT z
 .refine ak (bS.mp m) λt mt e=>?_;refine jA (Prod.mk.inj e) λa b=>?_;obtain rfl:=a;clear m e;obtain rfl:=b;exact Y (qc mt)<|Y (q t mt) rfl
theorem Eg.yQ(h:Eg S l e (.ref i))(c:Eg S l e' (.ref r))(g:S i=some (.dict .t (di ts I)))(g':S r=some (.dict .t (di ts f))){b:Bool}(d:b=false↔∀t∈ts,f t=I t):Eg S l (aH .NotEq e e') (.bool b):= .cmp h c λj a P p=> .inr (.inr ⟨_,_,a _ _ g,_,_,a _ _ g',rfl,yP,yP,by
 classical
 refine Y (show(!decide (jK (di ts I)<|di ts f))=b from iM.mpr (by rw[hE,decide_eq_false_iff_not,J7,←d,Bool.not_eq_false])) ?_;exact p⟩)
theorem Eg.J8(h:Eg S l e .none)(a:Eg S l e' (.ref r))(g:S r=some (.dict kk es)):Eg S l (aH .NotEq e e') (.bool true):= .cmp h a λc b P p=> .inr<|.inl ⟨rfl,_,_,b _ _ g,p⟩
inductive yR(S:TH)(G:bg->Prop)(ts:List V)(told:List (V×V))(sl:Option V->Option V->Option V->Option V->Option V->Option V->Option V->Option V->au)(n:Nat)(l':au)(j:TH):Prop
 |mk (h:V->Nat) (hm:Nat) (a:V) (b:Bool) (w y A B C D:Option V):Sub S j->j hm=some (.dict .t<|di ts h)->Hm G ts h->n=2*m2 ts h+(if b then 1 else 0)->(∀{l:au}{e e':M},Eg j l e a->Eg j l e' (.ref hm)->Eg j l (aH .NotEq e e') (.bool b))->(b=false->iI ts told h)->l'=sl w (some<|.ref hm) (some a) y A B C D->yR S G ts told sl n l' j
theorem J9(W:Fw S J tm G ts told)(a:S hm=some (.dict .t (di ts h)))(f:Hm G ts h)(m3:E∈ts)(X:F∈ts)
  (q:∀j l' h,Sub S j->Hm G ts h->iI ts told h->Q (.ret<|.bool<|decide<|h E=h F) l' j):
  Sw S (hA N O J E F R tm w (some<|.ref hm) (some .none) y A B C D) (ag (i3 (aH .NotEq (vr 9)<|vr 8)<|ag (aB (aj 9)<|aC (aD .dict)<|H (dV lS<|vr 8) aa)<|ag (forM (aI<|vr 2) (cB 2<|bb (aj 10)<|bb (aj 11) cu)<|ag (aB (aj 8)<|aC (aD .dict)<|H (aS (aI<|vr 6) [8,10,11] 1 (aj 3) aK<|aR<|bj<|H (vr 3)<|H (eI (aH .Eq (ax (vr 0)<|vr 3)<|ax (vr 0)<|vr 2) (ax (vr 0)<|vr 1)<|ax (vr 0)<|vr 3) aa) aa) av)<|ag (aB (aj 12) gF)<|ag (forM (aI<|vr 6) (aj 7)<|ag (aB (aj 13)<|a9 .Add (bj<|H (ax (vr 7)<|cst<|.int 0) aa)<|aC (aD .tuple)<|H (aS (aI<|c4 (vr 7) 1) [8] 1 (aj 1) aK<|aR<|ax (vr 0)<|vr 1) aa)<|ag (bW (aH .NotEq (bB (bG .eJ) (bH .eJ) (vr 12)<|H (vr 13)<|H (ax (vr 8)<|vr 7) aa)<|ax (vr 8)<|vr 7) (ag (aB (aj 14)<|ax (vr 8)<|vr 7)<|ag (aB (aj 8)<|aC (aD .dict)<|H (aS (aI<|vr 6) [14,8,13,12] 1 (aj 4) aK<|aR<|bj<|H (vr 4)<|H (eI (aH .Eq (ax (vr 1)<|vr 4)<|vr 0) (ax (vr 3)<|vr 2)<|ax (vr 1)<|vr 4) aa) aa) av) av) av) av)<|ag (a5<|aH .Eq (ax (vr 8)<|vr 3)<|ax (vr 8)<|vr 4) av) Q:=by
 refine .then (.while (t:=2*m2 ts h+1) (yR S G ts told λw hm bf y A B C D=>hA N O J E F R tm w hm bf y A B C D) ⟨h,hm,.none,true,_,_,_,_,_,_,.refl S,a,f,rfl,λg k=> .J8 g k a,nofun,rfl⟩ λn l' j x=>?_);cases x with|mk h hm p b w y A B C D s a f en r u ab=>
 subst ab;refine⟨b,r (.vr rfl)<|.vr rfl,λz=>?_,λz=>?_⟩
 .clear r;subst z;have v:(di ts h).length<=aF:=by unfold di;exact Y (List.length_map ..)<|Nat.le_trans W.aL af
  have it:=El.items (S:=j) (l:=hA N O J E F R tm w (some<|.ref hm) (some p) y A B C D) (e:=vr 8) (.vr rfl) a v;rw[show dx (di ts h)=ts.map λt=> .tup [t,iV<|h t] from c3] at it;refine .b8<|.s9 it W.T W.aL λd hd=>?_;refine J4 (bf:=some<|.ref d) ((W.sup s).sup<|.new hd) (br hd a) f λae ah ai y A s1 ac H1 I=>J6 ((W.sup s).sup<|(Sub.new hd).trans s1) ac H1 I λak K L w B C D s2 m M P=>?_;have U:=s.trans<|(Sub.new (o:= .dict .t<|di ts h) hd).trans<|s1.trans s2;have gd:=s2 _ _<|s1 _ _<|aJ (S:=j) (i:=d) (o:= .dict .t<|di ts h);refine Or.elim P.lt (λV=>jA V λe c=>?_) λad=>jA ad λlt ne=>?_
  .clear a f u v it s1 I P V;subst e;exact⟨_,en▸eg _,L,K,.ref d,false,_,_,_,_,_,_,U,m,M,rfl,λg k=> .yQ g k gd m ⟨λZ Z Z=>rfl,λZ=>rfl⟩,λZ=>c,rfl⟩
  .exact⟨_,en▸Nat.succ_lt_succ (Nat.mul_lt_mul_of_pos_left lt<|jv 1),L,K,.ref d,true,_,_,_,_,_,_,U,m,M,rfl,λg k=> .yQ g k gd m ⟨nofun,λz=>absurd z ne⟩,nofun,rfl⟩
 .have z:=Eg.fu (Eg.ku (S:=j) (l:=hA N O J E F R tm w (some<|.ref hm) (some p) y A B C D) (e:=vr 8) (e':=vr 3) (.vr rfl) (.vr rfl) a W.T m3) (.ku (e:=vr 8) (e':=vr 4) (.vr rfl) (.vr rfl) a W.T X);rw[show decide ((h E:Int)=(h F:Int))=decide (h E=h F) from gq.mpr Int.ofNat_inj] at z;exact .dz z<|q j _ h s f<|u ‹_›
end
section
variable{c d L n m k i hm rw r:Nat}{s t u v w a b:V}{ts us B ks vs ws:List V}{h C:V->Nat}{f:V->List V}{ps told D E es:List (V×V)}{G:bg->Prop}{S I T:TH}{l:au}{e e' j A J:M}{K:V->TH->Prop}{rest:aE}{Q:Fl->au->TH->Prop}{p q:V×V}{op:Str}
theorem Ka(l:List V):l.flatMap (λv=>[v])=l:=(j6 id l).symm.trans<|List.map_id l
theorem Gb.all{l':au}{src:cK}{o:aQ}{i:Nat}(hs:hV S l' src vs o)(h:∀v,Eg S (l'.set i (some v)) (vr i) v):Gb S (e9 src (aj i) aK (aR (vr i)) l') vs:=by have z:=Gb.w5 (t:=aj i) (c':=aK) (b:=aR<|vr i) (g:=λv=>[v]) hs λv m=> .name<|.elt<|h v;rw[Ka] at z;exact z
theorem qd(b:ks.length<=2)(a:∀u∈ks,Fn (F aU k) 634 [u] S (f u)/\(f u).length<=3):Fn (F aU (k+1)) 634 [.tup (.str op::ks)] S (.tup (.str op::ks)::ks.flatMap f):=by
 have fl:(ks.flatMap f).length<=6:=by
  match ks,b,a with
  |[],_,_=>exact a6 _
  |[u],_,a=>exact Y fh<|Y a0<|c7 (a u<|.head _).2<|a6 3
  |[u,v],_,a=>exact Y fh<|Y fh<|Y a0<|Y a0<|c7 (a u<|.head _).2<|c7 (a v<|.tail _<|.head _).2<|a6 0
 exact sg E6 rfl<|.add (.lst (.one<|.vr rfl) dO) (.comp (.tup<|.f9 (.vr rfl) ⟨aM _,kf _ _,jc b⟩) (λZ Z=>trivial) (ah fl af) λu m=> .name<|.all (.new<|.call (.one<|.vr rfl) (a u m).1) λv=> .vr rfl)<|ah (bz fl 1) af
theorem kv{P:V->Prop}(h:P u):∀v∈[u],P v:=λv m=>a3.mp m▸h
theorem Sd.ins(h:Sd bx t):Fn (F aU (k+3)) 634 [t] S (c9 t):=by
 have a:∀{k}(x:Str),Fn (F aU<|k+1) 634 [lf x] S (c9<|lf x)/\(c9<|lf x).length<=3:=λx=>⟨qd (f:=c9) (a6 _) λZ=>bw,(by decide:1<=3)⟩;have b:∀{k}(x:Str),Fn (F aU<|k+2) 634 [f1<|lf x] S (c9<|f1<|lf x)/\(c9<|f1<|lf x).length<=3:=λx=>⟨qd (f:=c9) (ks:=[lf x]) (by decide:1<=2)<|kv<|a x,(by decide:2<=3)⟩;cases h with
 |l x h=>exact(a x).1
 |f x h=>exact(b x).1
 |ff x h=>exact qd (f:=c9) (ks:=[f1<|lf x]) (by decide:1<=2)<|kv<|b x
 |g x y h c=>exact qd (f:=c9) (ks:=[lf x,lf y]) (aM 2) λu m=>(ba.mp m).elim (λe=>e▸a x) λm=>a3.mp m▸a y
theorem Sd.qe(h:Sd bx s)(m:t∈c9 s):Sd bx t/\∀k∈jf t,k∈c9 s:=by
 have z:∀x:Str,x∈bx->t=lf x->Sd bx t/\∀k∈jf t,k∈c9 s:=λx h e=>e▸⟨.l x h,(λZ=>bw)⟩;cases h with
 |l x h=>exact z x h<|a3.mp m
 |f x h=>
  rcases ba.mp m with rfl|m
  .exact⟨.f x h,kv<|.tail _<|.head _⟩
  .exact z x h<|a3.mp m
 |ff x h=>
  rcases ba.mp m with rfl|m
  .exact⟨.ff x h,kv<|.tail _<|.head _⟩
  rcases ba.mp m with rfl|m
  .exact⟨.f x h,kv<|.tail _<|.tail _<|.head _⟩
  .exact z x h<|a3.mp m
 |g x y h a=>
  rcases ba.mp m with rfl|m
  .exact⟨.g x y h a,λk m=> .tail _ m⟩
  refine Or.elim (ba.mp m) (λe=>?_) λm=>?_
  .exact z x h e
  .exact z y a<|a3.mp m
theorem ta(h:bp p=bp q):p=q:=by refine jA (b5<|V.tup.inj h) λj A=>?_;exact Prod.ext j (b5 A).1
theorem c8.key(h:c8 p):a8 40 (bp p):=by have pt:∀u u':Str,Tm 3 (cx u u'):=λu u'=> .mk 2 "g" _ λk m=>(ba.mp m).elim (λe=>e▸.mk 1 u [] (λZ=>bw))<|kv (.mk 1 u' [] λZ=>bw) k;have z:Tm 3 p.1/\Tm 3 p.2:=h.elim (λe=>e▸⟨pt _ _,pt _ _⟩) λh=>⟨h.1.gi.mx,h.2.gi.mx⟩;exact .tup 39 _ λv m=>(ba.mp m).elim (λe=>e▸z.1.key.mono af)<|kv (z.2.key.mono af) v
open Classical in
theorem Eg.yS(h:Eg S l e (bp p))(hp:c8 p):Eg S l (aH .NotEq e (Mine.cst j0)) (.bool !decide (p=bR)):=by have z:=Eg.ne (w:=j0) h .cst hp.key<|c8.key (p:=bR)<|.inl rfl;rw[show decide (bp p=j0)=decide (p=bR) from gq.mpr ⟨ta (q:=bR),ar bp⟩] at z;exact z
open Classical in
noncomputable def eP(p:V×V):V×V:=if p=bR then(g2 (lf "own1")<|lf "own2",g2 (lf "own2")<|lf "own1") else p
theorem Kb(hp:c8 p):Fg (F aU (k+1)) 629 [bp p] S (bp (eP p)):=by
 classical
 have a:∀{T:TH}{l:au}(x:Str),Eg T l (bj<|H (cst<|.str x) aa) (lf x):=λx=> .tup (.one .cst) dO;have b:∀{T:TH}{l:au}(x y:Str),Eg T l (bj<|H (cst<|.str "g")<|H (bj<|H (cst<|.str x) aa)<|H (bj<|H (cst<|.str y) aa) aa) (g2 (lf x)<|lf y):=λx y=> .tup (.cons .cst<|.cons (a x)<|.one<|a y) (by decide:3<=aF);refine mf E4 rfl λT s=> .guard (.yS (.vr rfl) hp) (λz=> .G9 (.vr rfl) ⟨?_,.refl T⟩) λz=> .dz (.tup (.cons (b _ _)<|.one<|b _ _) dA) ⟨?_,.refl T⟩
 .have z:=fB (hE _▸z);unfold eP;refine Y (if_neg z) ?_;rfl
 .have z:=cf (Bool.not_eq_false' _▸z);unfold eP;refine Y (if_pos z) ?_;rfl
open Classical in
theorem yT:∀ps:List (V×V),(ps.map bp).flatMap (λv=>if v=bp bR then[] else[v])=(cV ps).map bp:=by
 intro ps;induction ps with
 |nil=>rfl
 |cons p ps a=>
  refine Y jC<|Y fh<|Y a ?_;by_cases e:p=bR
  .refine Y (az<|ar bp e)<|Y (show cV (p::ps)=cV ps from List.filter_cons_of_neg (by rw[h8];exactλw=>w e)) ?_;rfl
  .refine Y (ay λw=>e<|ta w)<|Y (show cV (p::ps)=p::cV ps from List.filter_cons_of_pos<|bJ e) ?_;rfl
theorem Kc(hp:∀p∈ps,c8 p)(a:ps.length<=2)(h:Eg S l e (.ref r))(g:S r=some (.list (ps.map bp))):El S l (aS (aI e) [] 1 (aj 0) (c1 (aH .NotEq (vr 0) (cst j0)) aK) (aR (vr 0))) ((cV ps).map bp):=by
 classical
 refine Y (yT ..).symm<|.comp (.list h g) (λT s=>s _ _ g) ?_ λv m=>?_
 .exact Y (yT ..)<|Y (aV ..)<|ah (lD _ _)<|ah a af
 .refine ak (bS.mp m) λp b c=>?_;clear m;obtain rfl:=c;refine .if (.yS (.vr rfl)<|hp p b) (λz=>?_) λz=>?_
  .exact Y (ay λw=>fB (hE _▸z)<|ta w)<|.elt<|.vr rfl
  .exact Y (az<|ar bp<|cf<|Bool.not_eq_false' _▸z) rfl
end
section
variable{c d L n m k i j hm rw r:Nat}{s t u v w a b:V}{ts us U ks vs ws:List V}{h X:V->Nat}{f:V->List V}{ps told ab ac es:List (V×V)}{D:bg->Prop}{S A T:TH}{l:au}{e e' G J ad:M}{K:V->TH->Prop}{rest:aE}{Q:Fl->au->TH->Prop}{p q:V×V}{op:Str}
variable{E tm:Nat}{N O B C R:V}{ae bf ai al am an ao:Option V}
noncomputable def ix(ts:List V)(t:V):Nat:=open Classical in if a:∃i:Nat,ts[i]? =some t then a.choose else 0
theorem tc(m:t∈ts):ts[ix ts t]? =some t:=by have a:=fy.mp m;unfold ix;exact Y (dif_pos a) a.choose_spec
theorem Ke(nd:ts.Nodup):Hm D ts (ix ts):=⟨λt m=>gQ (tc m),λI a t m=>by unfold val;refine Y List.getD_eq_getElem?_getD (Y (tc m) ?_);rfl⟩
noncomputable def qf(v:V):List V:=[.tup [(h1 v).getD 1 .none,(h1 v).headD .none]]
theorem Kf:∀{L:List V}{i:Nat},(∀j t,L[j]? =some t->h t=i+j)->(fa i L).flatMap qf=L.map λt=> .tup [t,iV (h t)]:=by
 intro L;induction L with
 |nil=>exactλZ=>rfl
 |cons t L a=>intro i q;have z:= @a (i+1) λj t e=>(q (j+1) t e).trans<|d0 i j 1;show _::List.flatMap qf (fa (i+1) L)=_;refine Y z<|Y jC<|Y (q 0 t rfl) ?_;rfl
theorem yU:∀{L:List V}{i:Nat},v∈fa i L->∃x y,v= .tup [x,y]
 |t::L,i,m=>(ba.mp m).elim (λe=>⟨_,_,e⟩) yU
theorem yV:∀{L:List V}{i:Nat},(fa i L).length=L.length
 |[],_=>rfl
 |t::L,i=>ar Nat.succ<|yV (L:=L)
theorem yW(W:Fw S E tm D ts told)(m3:B∈ts)(a:C∈ts)(q:∀A l' h,Sub S A->Hm D ts h->iI ts told h->Q (.ret (.bool (decide (h B=h C)))) l' A):
  Sw S (hA N O E B C R tm none none none none none none none none) (ag (aB (aj 8)<|aC (aD .dict)<|H (aS (enumSrc<|vr 6) [] 2 (cB 2<|bb (aj 0)<|bb (aj 1) cu) aK<|aR<|bj<|H (vr 1)<|H (vr 0) aa) aa)<|ag (aB (aj 9)<|cst .none)<|ag (i3 (aH .NotEq (vr 9)<|vr 8)<|ag (aB (aj 9)<|aC (aD .dict)<|H (dV lS<|vr 8) aa)<|ag (forM (aI<|vr 2) (cB 2<|bb (aj 10)<|bb (aj 11) cu)<|ag (aB (aj 8)<|aC (aD .dict)<|H (aS (aI<|vr 6) [8,10,11] 1 (aj 3) aK<|aR<|bj<|H (vr 3)<|H (eI (aH .Eq (ax (vr 0)<|vr 3)<|ax (vr 0)<|vr 2) (ax (vr 0)<|vr 1)<|ax (vr 0)<|vr 3) aa) aa) av)<|ag (aB (aj 12) gF)<|ag (forM (aI<|vr 6) (aj 7)<|ag (aB (aj 13)<|a9 .Add (bj<|H (ax (vr 7)<|cst<|.int 0) aa)<|aC (aD .tuple)<|H (aS (aI<|c4 (vr 7) 1) [8] 1 (aj 1) aK<|aR<|ax (vr 0)<|vr 1) aa)<|ag (bW (aH .NotEq (bB (bG .eJ) (bH .eJ) (vr 12)<|H (vr 13)<|H (ax (vr 8)<|vr 7) aa)<|ax (vr 8)<|vr 7) (ag (aB (aj 14)<|ax (vr 8)<|vr 7)<|ag (aB (aj 8)<|aC (aD .dict)<|H (aS (aI<|vr 6) [14,8,13,12] 1 (aj 4) aK<|aR<|bj<|H (vr 4)<|H (eI (aH .Eq (ax (vr 1)<|vr 4)<|vr 0) (ax (vr 3)<|vr 2)<|ax (vr 1)<|vr 4) aa) aa) av) av) av) av)<|ag (a5<|aH .Eq (ax (vr 8)<|vr 3)<|ax (vr 8)<|vr 4) av) Q:=by
 have it:El S (hA N O E B C R tm none none none none none none none none) (aS (enumSrc<|vr 6) [] 2 (cB 2<|bb (aj 0)<|bb (aj 1) cu) aK<|aR<|bj<|H (vr 1)<|H (vr 0) aa) ((fa 0 ts).flatMap qf):= .comp (.w4 (.vr rfl) W.lz) (λT s=>s _ _ W.lz) (by unfold qf;exact Y (l9 ..)<|Y yV<|Nat.le_trans W.aL af) λv m=>by refine cj (yU m) λx y b=>?_;clear m;obtain rfl:=b;exact .yd<|.elt<|.tup (.cons (.vr rfl)<|.one<|.vr rfl) dA
 rw[Kf (h:=ix ts) λj t e=>(nH W.T.nd e<|tc<|bI e).symm.trans (eE j).symm] at it;exact .b8<|.s9 it W.T W.aL λd hd=> .asg .cst<|J9 (W.sup<|.new hd) aJ (Ke W.T.nd) m3 a λA l' h s=>q A l' h<|(Sub.new hd).trans s
theorem Sw.Kg{i j m:Nat}(h:Ex S l e λx A=>∃v a b,x= .tup [v,.tup [a,b]]/\Sw A (((l.set i (some v)).set j (some a)).set m (some b)) rest Q):Sw S l (ag (aB (cB 2 (bb (aj i) (bb (cB 2 (bb (aj j) (bb (aj m) cu))) cu))) e) rest) Q:=
 λc d P p=>h c d _ λx A f q g=>by obtain⟨v,a,b,rfl,q⟩:=q;exact .inl ⟨rfl,v,[.tup [a,b]],rfl,.tup [a,b],[],rfl,.inl ⟨rfl,a,[b],rfl,b,[],rfl,rfl,rfl,q f g P p⟩⟩
theorem El.td(h:Eg S l e (.ref r))(g:S r=some (.list vs))(b:El S l e' ws)(c:vs.length+ws.length<=aF):El S l (a9 .Add e e') (vs++ws):=λT s d f P k=>h T s d f _ λi j=>b _ s i j _ λm n g' a=>
 .inr (.inr<|.inr ⟨vs,(a.weak g') _ _<|s _ _ g,ws,a.at,c,k _ _ (a.weak g').cv (a.weak g').new⟩)
theorem yX{a b:Type}(f:a->List b)(m:Nat):∀l:List a,(∀x∈l,(f x).length<=m)->(l.flatMap f).length<=l.length*m:=by
 intro l;induction l with
 |nil=>exactλZ=>a6 _
 |cons x l c=>exactλh=>Y fh<|Y a0<|Y fS<|Y (Nat.succ_mul ..)<|Y (d3 ..)<|c7 (c λy d=>h y<|.tail _ d)<|h x<|.head _
theorem qg:told.map bp++[bp p]=(told++[p]).map bp:=(dT (f:=bp) (l₂:=[p])).symm
noncomputable def mC(told:List (V×V))(p:V×V):List V:=(told.map bp++[bp p]).flatMap λv=>(h1 v).flatMap c9
theorem mD:t∈mC told p↔∃q∈told++[p],t∈c9 q.1\/t∈c9 q.2:=by unfold mC;refine Y qg<|Y (List.flatMap_map ..)<|Y (propext fD)<|exists_congr λq=>and_congr_right λZ=>?_;show t∈[q.1,q.2].flatMap c9↔_;exact Y fh<|Y fh<|Y (propext cD)<|Y (propext cD)<|or_congr_right ⟨λz=>z.resolve_right nofun,.inl⟩
theorem yY(h:∀q∈told++[p],Sd bx q.1/\Sd bx q.2)(b:told.length<=2):(mC told p).length<=18:=by
 refine ah (yX _ 6 _ λv m=>?_) ?_
 .rw[qg] at m;refine ak (bS.mp m) λq a c=>?_;clear m;obtain rfl:=c;exact ah (yX c9 3 [q.1,q.2] λt d=>(ba.mp d).elim (λe=>e▸(h q a).1.sV)<|kv (P:=λt=>(c9 t).length<=3) (h q a).2.sV t)<|aM 6
 .exact Y a0<|Y (aV ..)<|Nat.mul_le_mul_right 6<|cR b
theorem Kh(h:∀q∈told++[p],Sd bx q.1/\Sd bx q.2)(b:told.length<=2)(d:Eg S l e (.ref r))(g:S r=some (.list (told.map bp)))(f:Eg S l G p.1)(i:Eg S l J p.2):El S l (aS (aI (a9 .Add e (cg (H (bj (H G (H J aa))) aa)))) [] 3 (aj 0) aK (e9 (aI (vr 0)) (aj 1) aK (e9 (aI (b2 (F aU (k+3)) 634 (H (vr 1) aa))) (aj 2) aK (aR (vr 2))))) (mC told p):=by
 refine .r8 (.new<|.td d g (.lst (.one<|.tup (.cons f<|.one i) dA) dO) ?_) (ah (yY h b) af) λv m=>?_
 .exact Y (aV ..)<|ah (ef b 1) af
 .rw[qg] at m;refine ak (bS.mp m) λq c j=>?_;clear m;obtain rfl:=j;exact .name<|.gen (.tup (vs:=[q.1,q.2])<|.vr rfl) (λZ Z=>trivial) λt a=> .name<|.all (.new<|.call (.one<|.vr rfl)<|(ba.mp a).elim (λe=>e▸(h q c).1.ins) λa=>a3.mp a▸(h q c).2.ins) λv=> .vr rfl
theorem Ki(h:∀q∈told++[p],Sd bx q.1/\Sd bx q.2)(o:gN (mC told p) ts):gj ts:=by
 have z:∀t∈ts,Sd bx t/\∀k∈jf t,k∈ts:=λt m=>by
  refine ak (mD.mp<|(o.2 t).mp m) λq a m=>?_;refine Or.elim m (λm=>?_) λm=>?_
  .have y:=(h q a).1.qe m;exact⟨y.1,λk b=>(o.2 k).mpr<|mD.mpr ⟨q,a,.inl<|y.2 k b⟩⟩
  .have y:=(h q a).2.qe m;exact⟨y.1,λk b=>(o.2 k).mpr<|mD.mpr ⟨q,a,.inr<|y.2 k b⟩⟩
 exact⟨λt m=>(z t m).1,λt m=>(z t m).2,o.1⟩
theorem yZ(h:Sd bx t):t∈c9 t:=by cases h<;>exact .head _
end
section
variable{c d L n m k i j hm rw r:Nat}{s t u v w a b:V}{ts us o ks vs ws:List V}{h A:V->Nat}{f:V->V}{ps told B C es:List (V×V)}{D:bg->Prop}{S E T:TH}{l:au}{e e' F G J:M}{K:V->TH->Prop}{rest:aE}{Q:Fl->au->TH->Prop}{p q:V×V}{op:Str}
variable{N tm:Nat}{O P R U W:V}{X bf aa ab ac ad ae:Option V}
open Classical in
noncomputable def jm(t:V):Bool:=decide (∃u v,t=g2 u v)
open Classical in
theorem qh:jm (g2 u v)=true:=bJ ⟨u,v,rfl⟩
open Classical in
theorem Sd.jm(h:Sd bx t):∃op ks,t= .tup (.str op::ks)/\ks.length<=2/\decide (op="g")=jm t:=by
 have no:∀{op:Str}{ks:List V},op≠"g"->decide (op="g")=Mine.jm (.tup<|.str op::ks):=λn=>(dd n).trans (dd λ⟨u,v,e⟩=>n<|V.str.inj (b5<|V.tup.inj e).1).symm;cases h with
 |l x h=>exact⟨x,[],rfl,a6 _,no<|(by decide+kernel:∀x∈bx,x≠"g") x h⟩
 |f x h=>exact⟨"f",_,rfl,(by decide:1<=2),no (by decide+kernel)⟩
 |ff x h=>exact⟨"f",_,rfl,(by decide:1<=2),no (by decide+kernel)⟩
 |g x y h a=>exact⟨"g",_,rfl,aM 2,(bJ rfl).trans qh.symm⟩
noncomputable def gs(f:V->V)(t:V):List V:=if jm t then[f t] else[]
open Classical in
theorem Kj:w∈ts.flatMap (gs f)↔∃u v,g2 u v∈ts/\w=f (g2 u v):=by
 refine fD.trans ⟨λ⟨t,m,z⟩=>?_,λ⟨u,v,m,e⟩=>⟨_,m,?_⟩⟩
 .unfold gs at z;split at z
  .rename_i y;refine cj (cf y) λu v a=>?_;clear y;obtain rfl:=a;exact⟨u,v,m,a3.mp z⟩
  .exact(bw z)
 .unfold gs;exact Y (if_pos qh)<|Y e<|.head _
theorem te:(ts.flatMap (gs f)).length<=ts.length:=mr _ (λt=>by unfold gs;split;exact Nat.le_refl 1;exact Nat.zero_le 1) _
open Classical in
theorem y0(a:Eg S l e (.ref r))(g:S r=some (.list ts))(sd:∀t∈ts,Sd bx t)(aL:ts.length<=63)(h:∀u v,Eg S [some (g2 u v)] e' (f (g2 u v))):El S l (aS (aI e) [] 1 (aj 0) (c1 (aH .Eq (ax (vr 0) (cst (.int 0))) (cst (.str "g"))) aK) (aR e')) (ts.flatMap (gs f)):=
 .comp (.list a g) (λT s=>s _ _ g) (ah te<|ah aL af) λt m=>by
  refine b6 ((sd t m).jm) λop ks e b q=>?_;clear m;subst e;have z:=Eg.j5 (S:=S) (l:=(cH [] 1 l).set 0<|some<|.tup<|.str op::ks) (.eu (vs:= .str op::ks) (j:=0) (.vr (i:=0) rfl) .cst rfl<|jd b)<|.cst (v:= .str "g");rw[q] at z;refine .if z (λy=>?_) λy=>?_
  .refine cj (cf y) λu v e=>?_;exact Y e<|Y (show gs f (g2 u v)=[f<|g2 u v] from az qh)<|.elt<|h u v
  .unfold gs;refine Y y ?_;rfl
open Classical in
theorem Kk(h:bR∉ps):cV ps=ps:=List.filter_eq_self.mpr λp m=>bJ λe=>h<|e▸m
theorem Kl(hp:c8 p):Sd bx (eP p).1/\Sd bx (eP p).2:=by
 unfold eP;split
 .exact⟨.g _ _ (by decide+kernel) (by decide+kernel),.g _ _ (by decide+kernel) (by decide+kernel)⟩
 .rename_i n;exact(hp.resolve_left n).imp (·.gi) (·.gi)
theorem Km(hp:∀p∈ps,c8 p):(∀I,cU ps I->ev I (eP p).1=ev I (eP p).2)↔dq ps p:=by
 unfold eP;split
 .rename_i e;subst e;exact yB (by unfold kq;decide+kernel) hp
 .rename_i n;exact yC n
open Classical in
theorem mE:p∈cV ps↔p∈ps/\p≠bR:=by unfold cV;rw[List.mem_filter,decide_eq_true_iff]
end
section
variable{c d L n m k i j hm rw r:Nat}{t u v w:V}{ts:List V}{ps told:List (V×V)}{S A T:TH}{p q:V×V}
open Classical in
theorem Kn(hp:∀q∈ps,c8 q)(U:ps.length<=2)(ag:c8 p)(g:S r=some (.list (ps.map bp))):Fg (F aU (k+4)) 639 [.ref r,bp p] S (.bool (decide (dq ps p))):=by
 refine mf E8 rfl λT s=> .Kg<|.tup<|.cons (λv ai=>∃d,(v= .ref d/\T d=none)/\ai=upd T d (.list<|(cV ps).map bp)) (El.x (Kc hp U (.vr rfl)<|s _ _ g) λd W=>⟨d,⟨rfl,W⟩,rfl⟩) λv ai z=>?_;obtain⟨d,⟨rfl,W⟩,rfl⟩:=z;have s1:=Sub.new (o:= .list<|(cV ps).map bp) W;refine .one<|Eg.x (.call (.one<|.vr rfl)<|Kb (k:=k+2) ag) ⟨dA,_,_,_,rfl,?_⟩;have M:(cV ps).length<=2:=ah (lD _ _) U;have L:∀{ps:List (V×V)},ps.length<=2->(ps.map bp).length<=aF:=λh=>bM<|ah h af;have cl:=Eg.lt (S:=upd T d<|.list<|(cV ps).map bp) (.ec (.vr (l:=[some<|.ref r,some<|bp p,some<|.ref d,some (eP p).1,some (eP p).2,none,none,none,none,none,none,none,none,none,none]) (i:=2) rfl) aJ<|L M)<|.ec (.vr (i:=0) rfl) (s1 _ _<|s _ _ g)<|L U
 rw[show decide ((((cV ps).map bp).length:Int)<((ps.map bp).length:Int))=decide (bR∈ps) from gq.mpr (by
  refine Y (aV ..)<|Y (aV ..)<|Y (propext ij) ⟨λz=>?_,yx⟩;by_cases y:bR∈ps
  .exact y
  .rw[Kk y] at z;exact absurd z (eh _))] at cl
 refine .asg cl ?_
 have sd:∀q∈cV ps++[eP p],Sd bx q.1/\Sd bx q.2:=λq m=>by
  refine Or.elim (cD.mp m) (λm=>?_) λm=>?_
  .obtain⟨m,n⟩:=mE.mp m;exact((hp q m).resolve_left n).imp (·.gi) (·.gi)
  .exact Y (a3.mp m)<|Kl ag
 have rl:=yY sd M
 have av:∀t∈mC (cV ps) (eP p),Sd bx t:=λt m=>by obtain⟨q,aj,m⟩:=mD.mp m;exact m.elim (λm=>((sd q aj).1.qe m).1) λm=>((sd q aj).2.qe m).1
 refine .b8<|(bN.pD (Kh (k:=k) sd M (.vr rfl) aJ (.vr rfl)<|.vr rfl).p λvs e=>e▸Sd.pP av (ah rl af)).x λts tm z ak=>?_;obtain⟨_,rfl,o⟩:=z;have TT:=Ki sd o;have N:=ah o.len rl;have ins:∀q∈cV ps++[eP p],q.1∈ts/\q.2∈ts:=λq m=>⟨(o.2 _).mpr<|mD.mpr ⟨q,m,.inl<|yZ (sd q m).1⟩,(o.2 _).mpr<|mD.mpr ⟨q,m,.inr<|yZ (sd q m).2⟩⟩;have E:=ins (eP p)<|dS _<|.head _;have al:∀q∈cV ps,∀I,cU ps I->ev I q.1=ev I q.2:=λq m I X=>(X q (mE.mp m).1).gr (mE.mp m).2;have s2:=s1.trans<|Sub.new (o:= .list ts) ak;have am:upd (upd T d<|.list<|(cV ps).map bp) tm (.list ts) d=some (.list<|(cV ps).map bp):=br ak aJ;have ab:upd (upd T d<|.list<|(cV ps).map bp) tm (.list ts) tm=some (.list ts):=aJ;generalize upd (upd T d<|.list<|(cV ps).map bp) tm (.list ts)=aD at*;have say:∀{ts told h},gj ts->Hm (cU ps) ts h->iI ts told h->(∀q∈ps,q≠bR->q∈told/\q.1∈ts/\q.2∈ts)->(bR∈ps->∀u v,Mine.g2 u v∈ts->Mine.g2 v u∈ts/\(Mine.g2 u v,Mine.g2 v u)∈told)->(eP p).1∈ts->(eP p).2∈ts->decide (h (eP p).1=h (eP p).2)=decide (dq ps p):=λT K C a b aw ay=>gq.mpr<|(J1 T K C a b aw ay).trans<|Km hp;refine .ma (.vr rfl) (λz=>?_) λz=> .no<|yW ⟨TT,ah N af,ab,am,λq m=>⟨ins q<|dJ _ m,al q m⟩⟩ E.1 E.2 λA l' h ac K C=>⟨ar V.bool<|say TT K C (λq m n=>⟨mE.mpr ⟨m,n⟩,ins q<|dJ _<|mE.mpr ⟨m,n⟩⟩) (λw=>absurd w<|fB z) E.1 E.2,s2.trans ac⟩;have sw:=cf z;have gl:∀{f:V->V},ts.length+(ts.flatMap<|gs f).length<=36:=c7 N<|ah te N;have an:∀{T l}{vs:List V}(j:Nat){v},Eg T l (vr 0) (.tup vs)->vs[j]? =some v->vs.length<=3->Eg T l (ax (vr 0)<|cst<|.int j) v:=λj v h e az=> .eu h .cst e<|ah az af;have ao:∀{T:TH} u v,Eg T [some<|Mine.g2 u v] (bj<|H (cst<|.str "g")<|H (ax (vr 0)<|cst<|.int 2)<|H (ax (vr 0)<|cst<|.int 1) aa) (iG<|Mine.g2 u v).2:=λu v=> .tup (.cons .cst<|.cons (an 2 (vs:=[.str "g",u,v]) (.vr rfl) rfl<|aM 3)<|.one<|an 1 (vs:=[.str "g",u,v]) (.vr rfl) rfl<|aM 3) (by decide:3<=aF);have G:∀{t},t∈ts++ts.flatMap (gs λt=>(iG t).2)↔t∈ts\/∃u v,Mine.g2 u v∈ts/\t=Mine.g2 v u:=cD.trans<|or_congr_right Kj
 have ap:∀t∈ts++ts.flatMap (gs λt=>(iG t).2),Sd bx t:=λt m=>by
  rcases G.mp m with m|⟨u,v,J,rfl⟩
  .exact TT.sd t m
  .exact(TT.sd _ J).sw
 refine .assoc<|.b8<|(bN.pD (El.td (.vr rfl) ab (y0 (.vr rfl) ab TT.sd (ah N af) ao)<|ah gl af).p λvs e=>e▸Sd.pP ap (Y a0<|ah gl af)).x λc aE z aq=>?_;obtain⟨_,rfl,B⟩:=z;have O:c.length<=36:=ah B.len<|Y a0 gl
 have P:gj c:=⟨λt m=>ap t ((B.2 t).mp m),λt m x Q=>by
  rcases G.mp ((B.2 t).mp m) with m|⟨u,v,J,rfl⟩
  .exact(B.2 x).mpr<|G.mpr<|.inl<|TT.sub t m x Q
  .refine(B.2 x).mpr (G.mpr<|.inl<|TT.sub _ J x ?_);clear J m;rcases ba.mp Q with rfl|Q
   .exact .tail _<|.head _
   .exact Y (a3.mp Q) (.head _),B.1⟩
 have D:∀{t},t∈ts->t∈c:=λm=>(B.2 _).mpr<|G.mpr<|.inl m
 have ad:∀{u v},Mine.g2 u v∈c->Mine.g2 v u∈c:=λm=>by
  refine Or.elim (G.mp<|(B.2 _).mp m) (λm=>?_) λaA=>cq aA λu' v' m e=>?_
  .exact(B.2 _).mpr<|G.mpr<|.inr ⟨_,_,m,rfl⟩
  .obtain⟨rfl,rfl⟩:=nN e;exact D m
 have ae:=Sub.new (o:= .list c) aq;refine .assoc<|.b8<|(El.td (.vr rfl) (ae _ _ am) (y0 (f:=λt=>bp<|iG t) (.vr rfl) aJ P.sd (ah O af) λu v=> .tup (.cons (.vr rfl)<|.one<|ao u v) dA) ?_).x λaG as=> .no<|.no ?_
 .exact Y (aV ..)<|ah (c7 M<|ah te O) af
 have R:=Sub.new (o:= .list<|(cV ps).map bp++c.flatMap (gs λt=>bp<|iG t)) as
 have aB:(cV ps).map bp++c.flatMap (gs λt=>bp<|iG t)=(cV ps++(c.filter jm).map iG).map bp:=by
  refine Y dT<|ar _ ?_;clear R as ae aq B P D ad O;induction c with
  |nil=>rfl
  |cons t l aC=>
   refine Y fh<|Y aC ?_;unfold gs;split
   .rename_i y;refine Y (List.filter_cons_of_pos y) ?_;rfl
   .rename_i y;refine Y (List.filter_cons_of_neg y) ?_;rfl
 rw[aB] at R⊢
 have au:∀{q},q∈(c.filter jm).map iG↔∃u v,Mine.g2 u v∈c/\q=(Mine.g2 u v,Mine.g2 v u):=bS.trans ⟨λ⟨t,m,e⟩=>by obtain⟨m,y⟩:=ig.mp m;obtain⟨u,v,rfl⟩:=cf y;exact⟨u,v,m,e.symm⟩,λ⟨u,v,m,e⟩=>⟨_,ig.mpr ⟨m,qh⟩,e.symm⟩⟩
 refine yW (ts:=c) (told:=cV ps++(c.filter jm).map iG) ⟨P,ah O af,R _ _ aJ,aJ,λq m=>?_⟩ (D E.1) (D E.2) λA l' h ac K C=>⟨ar V.bool<|say P K C (λq m n=>?_) (λZ u v m=>⟨ad m,dS _<|au.mpr ⟨u,v,m,rfl⟩⟩) (D E.1)<|D E.2,s2.trans<|ae.trans<|R.trans ac⟩
 .refine Or.elim (cD.mp m) (λm=>?_) λm=>?_
  .have z:=ins q (dJ _ m);exact⟨⟨D z.1,D z.2⟩,al q m⟩
  .obtain⟨u,v,J,rfl⟩:=au.mp m
   exact⟨⟨J,ad J⟩,λI X=>by show ev I (Mine.g2 u v)=ev I (Mine.g2 v u);exact Y (km ..) (Y (km ..) ((X bR sw).sw _ _))⟩
 .have y:=mE.mpr ⟨m,n⟩;have z:=ins q<|dJ _ y;exact⟨dJ _ y,D z.1,D z.2⟩
end
section
variable{n m k i r cl a f:Nat}{v w:V}{B S d T:TH}{l:au}{e e':M}{es:Ms}{K:V->TH->Prop}{rest:aE}{Q:Fl->au->TH->Prop}{cs:List Int}
noncomputable def gR(cl a:Nat):List (V×V):=[(.str "cells",.ref cl),(.str "at",iV a)]
theorem tf:V.str "cells"≠V.str "at":=λe=>absurd (V.str.inj e) (by decide+kernel)
theorem Ko:aW (gR cl a) (.str "at")=some (iV a):=by
 classical
 exact(ay tf).trans<|az rfl
theorem Kp:aW (gR cl a) (.str "cells")=some (.ref cl):=by
 classical
 exact az rfl
theorem Kq:bD (gR cl a) (.str "at") (iV m)=gR cl m:=by
 classical
 exact(ay tf).trans (ar (_:: ·)<|az rfl)
structure dH(B:TH)(r cl n:Nat)(S:TH):Prop where
 base:Sub B S
 jn:∃a,a<=n/\S r=some (.dict .s<|gR cl a)
structure jo(B:TH)(r cl:Nat):Prop where
 no:B r=none
 cs:∃cs:List Int,B cl=some (.list<|cs.map V.int)/\cs.length<=63/\∀c∈cs,0<=c
theorem Eg.tg{a b:Int}(h:Eg S l e (.int a))(c:Eg S l e' (.int b))(d: -(10:Int)^15<=a/\a<=(10:Int)^15):Eg S l (a9 .Mult e e') (.int (a*b)):= .bin h c λf P p=> .inl ⟨d,p⟩
theorem Eg.y1{a b:Int}(h:Eg S l e (.int a))(c:Eg S l e' (.int b))(d:0<b):Eg S l (a9 .Mod e e') (.int (a%b)):= .bin h c λf P p=>⟨d,p⟩
theorem nT(C:jo B r cl)(R:dH B r cl n S)(hn:n<=1000)(hm:0<m)(h:∀(x:Nat) d,x<m->dH B r cl (n+1) d->K (iV x) d):Fx (F aU (k+1)) 601 [.ref r,iV m] S K:=by
 refine ak R.jn λa i gr=>?_;refine bE C.cs λcs A lc D=>?_;refine cT EW rfl<|.asg (.gL (.vr rfl) .cst gr (ew _) Ko)<|.gL<|(Eg.l7 (.vr rfl) .cst).x ⟨r,.s,_,_,.vr rfl,.cst,gr,⟨ew _,dA⟩,?_⟩;have E:bD (gR cl a) (.str "at") (.int<|(a:Int)+1)=gR cl (a+1):=Kq;refine Y E ?_;have p:dH B r cl (n+1) (upd S r<|.dict .s<|gR cl<|a+1):=⟨λj o z=>(bC λw=>by rw[w,C.no] at z;exact a4 z).trans<|R.base _ _ z,a+1,cR i,aJ⟩;have t:=p.base _ _ A;have G:upd S r (.dict .s<|gR cl<|a+1) r=_:=aJ;generalize upd S r (.dict .s<|gR cl<|a+1)=b at*;have cell:∀{l:au}{e:M},Eg b l e (.ref r)->Eg b l (ax e<|Mine.cst<|.str "cells") (.ref cl):=λh=> .gL h .cst G (ew _) Kp;have u:(cs.map V.int).length<=63:=aV (as:=cs) V.int▸lc
 have a7:∀{f g:M}{x:Int},0<=x->Eg b [some<|.ref r,some<|iV m,some<|iV a] (eI f (ax (ax (vr 0)<|Mine.cst<|.str "cells")<|vr 2) g) (.int x)->Sw b [some<|.ref r,some<|iV m,some<|iV a] (ag (a5<|a9 .Mod (eI f (ax (ax (vr 0)<|Mine.cst<|.str "cells")<|vr 2) g)<|vr 1) av) λfl Z d=>K (eX fl) d:=λ{f g x} v z=>by refine .dz (.y1 z (.vr rfl)<|ij.mpr hm) ?_;refine jE (Int.eq_ofNat_of_zero_le v) λy I=>?_;clear v z;obtain rfl:=I;exact h (y%m) b (Nat.mod_lt y hm) p
 have lt:=Eg.lt (S:=b) (l:=[some<|.ref r,some<|iV m,some<|iV a]) (e:=vr 2) (.vr rfl)<|.ec (cell (e:=vr 0)<|.vr rfl) t<|ah u af;rw[show decide ((a:Int)<((cs.map V.int).length:Int))=decide (a<cs.length) from gq.mpr (by rw[ij,aV])] at lt;by_cases q:a<cs.length
 .exact a7 (D cs[a]<|gW q)<|.ite lt (λZ=> .eY (cell<|.vr rfl) (.vr rfl) t (by refine Y b9<|Y (cc q) ?_;rfl)<|ah u af) λz=>absurd q<|fB z
 .have c:(0:Int)<=a:=eR a;refine a7 (x:=6*a*a+5*a+2) ?_<|.ite lt (λz=>absurd (cf z) q) λZ=> .l7 (.l7 (.tg (.tg .cst (.vr rfl) af) (.vr rfl) ⟨?_,?_⟩)<|.tg .cst (.vr rfl) af) .cst
  .exact Int.add_nonneg (Int.add_nonneg (Int.mul_nonneg (Int.mul_nonneg af c) c)<|Int.mul_nonneg af c) af
  .exact eF (by decide: -(10:Int)^15<=0)<|Int.mul_nonneg af c
  .exact eF (Int.mul_le_mul_of_nonneg_left (fT.mpr<|ah i hn) af) af
theorem Ex.so{x:Str}(h:Ex S l e λw d=>∃(j:Nat)(c:Nat),w=iV j/\x.cps[j]? =some c/\K (.str ⟨#[c]⟩) d)(a:x.cps.size<=1000000):Ex S l (ax (Mine.cst (.str x)) e) K:=λb f P p=>h b f _ λw d g q i=>by obtain⟨j,c,rfl,e,q⟩:=q;exact .inr<|.inl ⟨eR j,(gT.mp e).1,a,c,e,p _ _ g q i⟩
theorem Kr:∀x,x<3->∃c,("abc":Str).cps[x]? =some c/\(⟨#[c]⟩:Str)∈fM
 |0,_=>⟨_,rfl,by decide+kernel⟩
 |1,_=>⟨_,rfl,by decide+kernel⟩
 |2,_=>⟨_,rfl,by decide+kernel⟩
theorem y2(C:jo B r cl)(R:dH B r cl n S)(hn:n<=1000)(h:∀x d,x∈fM->dH B r cl (n+1) d->K (lf x) d):Fx (F aU (k+2)) 608 [.ref r] S K:=cT EY rfl (.iw<|.tup<|.one<|.so (.call<|Es.x (.cons (.vr rfl)<|.one .cst)<|nT (k:=k) C R hn (m:=3) af λx d a b=>(Kr x a).elim λc z=>⟨x,c,rfl,z.1,dO,h _ d z.2 b⟩) af)
theorem Ex.Ks{b:Bool}{d f:M}(h:Eg S l e (.bool b))(a:b=true->Ex S l d K)(c:b=false->Ex S l f K):Ex S l (eI e d f) K:=λj m P k=>h S (.refl S) j m _ λg i=>match b,a,c with
 |true,a,_=>a rfl g i P k
 |false,_,c=>c rfl g i P k
theorem dH.up(R:dH B r cl n S):dH B r cl (n+1) S:=⟨R.base,R.jn.imp λa z=>⟨gp z.1,z.2⟩⟩
theorem y3(C:jo B r cl)(R:dH B r cl n S)(hn:n<=997)(h:∀t d,Sd fM t->dH B r cl (n+3) d->K t d):Fx (F aU (k+3)) 615 [.ref r] S K:=by
 have i:n+1<=1000:=ah (ef hn 1) af;have j:n+1+1<=1000:=ah (ef hn 2) af;refine cT E0 rfl<|.b8<|.call<|Es.x (.cons (.vr rfl)<|.one .cst)<|nT (k:=k+1) C R (ah hn af) (m:=5) af λx c A o=>?_;have b:∀{l:au}{K:V->TH->Prop},Eg c l (vr 0) (.ref r)->(∀x d,x∈fM->dH B r cl (n+1+1) d->K (lf x) d)->Ex c l (b2 (F aU<|k+2) 608<|H (vr 0) aa) K:=λp q=> .call<|Es.x (.one p)<|y2 C o i q;refine .guard (.lt (.vr rfl) .cst) (λZ=> .ret<|b (.vr rfl) λx d m a=>h _ _ (.l x m) a.up) λZ=>?_;refine .guard (.fu (.vr rfl) .cst) (λZ=> .ret<|.tup<|.jb .cst<|.one<|b (.vr rfl) λx d m a=>⟨dA,h _ _ (.f x m) a.up⟩) λZ=>?_;refine .iw<|.Ks (.fu (.vr rfl) .cst) (λZ=>?_) λZ=>?_
 .refine .tup (.jb .cst<|.cons (λv d=>(∃x∈fM,v=lf x)/\dH B r cl (n+1+1) d) (b (.vr rfl) λx d m a=>⟨⟨x,m,rfl⟩,a⟩) λv d z=>?_);refine jA z λe s=>?_;refine ak e λx m u=>?_;clear z e;obtain rfl:=u;exact .one<|.call<|Es.x (.one<|.vr rfl)<|y2 C s j λy d w a=>⟨(by decide:3<=aF),h _ _ (.g x y m w) a⟩
 .exact .tup<|.jb .cst<|.one<|.tup<|.jb .cst<|.one<|b (.vr rfl) λx d m a=>⟨dA,dA,h _ _ (.ff x m) a.up⟩
end
section
variable{n m k i r cl a f N:Nat}{v w:V}{B S c T:TH}{l:au}{e e':M}{es:Ms}{K:V->TH->Prop}{rest:aE}{Q:Fl->au->TH->Prop}{cs:List Int}{o o':aQ}{vs:List V}{p:V×V}
theorem dH.with(R:dH B r cl n S)(g:S f=some o):dH (upd B f o) r cl n S:=⟨λj p z=>by
 unfold upd at z;split at z
 .rename_i e;exact Y e<|Y g z
 .exact R.base _ _ z,R.jn⟩
theorem jo.with(C:jo B r cl)(ne:r≠f)(hf:B f=none):jo (upd B f o) r cl:=⟨(bC ne).trans C.no,C.cs.imp λcs z=>⟨br hf z.1,z.2⟩⟩
theorem dH.put(R:dH (upd B f o) r cl n S)(ne:r≠f)(hf:B f=none):dH B r cl n (upd S f o'):=⟨λj p z=>(bC λe=>by rw[e,hf] at z;exact a4 z).trans<|R.base _ _<|br hf z,R.jn.imp λa z=>⟨z.1,(bC ne).trans z.2⟩⟩
theorem Ex.Kt(h:Eg S l e (.ref r))(b:Ex S l e' λw c=>∃(j:Nat)(v:V),w=iV j/\c r=some (.list vs)/\vs[j]? =some v/\vs.length<=1000000/\K v c):Ex S l (ax e e') K:=λd f P p=>h S (.refl S) d f _ λi k=>b i k _ λw c m q a=>by obtain⟨j,v,rfl,g,e,n,q⟩:=q;exact .inr<|.inr<|.inl ⟨vs,a _ _ g,eR j,(cN.mp e).1,n,v,e,p _ _ m q a⟩
theorem Ex.cP(h:Ex S l e λv c=>∃n:Nat,v=iV n/\K (.cP 0 n 1) c):Ex S l (aC (aD .range) (H e aa)) K:=λa b P p=>h a b _ λv c d q f=>by obtain⟨n,rfl,q⟩:=q;exact p _ _ d q f
theorem Ex.Ku{a:Int}(h:Eg S l e (.int a))(d:Ex S l e' λw c=>∃b,w= .int b/\K (.int (a+b)) c):Ex S l (a9 .Add e e') K:=λf g P p=>h S (.refl S) f g _ λi j=>d i j _ λw c k q m=>by obtain⟨b,rfl,q⟩:=q;exact .inl<|p _ _ k q m
theorem Sw.forR{t:Mt}{q:aE}(I:List V->au->TH->Prop)(h:Ex S l e λv c=>∃n:Nat,v= .cP 0 n 1/\n<=1000/\I ((List.range n).map iV) l c)
  (step:∀v a l S,I (v::a) l S->Sw S l (Mine.dF t q v) λf l' c=>match f with| .next=>I a l' c| .ret v=>Q (.ret v) l' c) (a7:∀l S,I [] l S->Q .next l S):Sw S l (forM (aI e) t q) Q:=
 λb d P k=>h b d _ λv c g z j=>by refine bE z λn m hn i=>?_;clear z;obtain rfl:=m;rw[←lx] at i;exact .inr<|.inr ⟨ly<|ah hn af,mc I (λZ Z Z Z Z Z=>trivial) step a7 _ l _ i g j P k⟩
inductive th(B:TH)(r cl f N:Nat)(a:List V)(l':au)(c:TH):Prop
 |mk (ps:List (V×V)) (n:Nat) (b d:Option V):dH B r cl n c->c f=some (.list<|ps.map bp)->(∀p∈ps,c8 p)->ps.length+a.length=N->n+10*a.length<=40->l'=[some<|.ref r,some<|.ref f,b,d]->th B r cl f N a l' c
theorem Kv(C:jo B r cl)(R:dH B r cl 0 S)(h:∀(f:Nat)(ps:List (V×V)) c,B f=none->Sub (upd B f (.list (ps.map bp))) c->(∀p∈ps,c8 p)->2<=ps.length->ps.length<=3->K (.ref f) c):Fx (F aU (k+4)) 622 [.ref r] S K:=by
 refine cT E2 rfl<|.b8<|(El.lst .nil<|a6 _).x λf hf=>?_;have y:B f=none:=h4.mpr λo z=>(a4<|hf.symm.trans<|R.base _ _ z);have ne:r≠f:=R.jn.elim λa z=>e0 hf z.2;have g:∀{o},jo (upd B f o) r cl:=C.with ne y
 have W:dH (upd B f (.list [])) r cl 0 (upd S f (.list [])):=⟨λj p z=>by
  unfold upd at z⊢;split at z
  .rename_i e;exact Y (az e) z
  .rename_i e;exact Y (ay e) (R.base _ _ z),R.jn.imp λa z=>⟨z.1,(bC ne).trans z.2⟩⟩
 refine .then (.forR (λG l' c=>∃N,(2<=N/\N<=3)/\th B r cl f N G l' c) (.cP<|.Ku .cst<|.call<|Es.x (.cons (.vr rfl)<|.one .cst)<|nT (k:=k+2) g W (a6 _) (m:=2) af λx Q A b=>⟨_,rfl,2+x,rfl,2+x,rfl,ah (bz (c2 A) 2) af,2+x,⟨cp 2 x,bz (c6 A) 2⟩,[],1,none,none,⟨λj p z=>b.base _ _<|br y z,b.jn⟩,b.base _ _ aJ,(λZ=>bw),?_,?_,rfl⟩) (λv G l' c x=>?_) λl' c x=>?_)
 .exact Y (aV ..)<|Y cF<|eE _
 .exact Y (aV ..)<|Y cF<|ah (bz (eA 10<|bz (c6 A) 2) 1) af
 .refine ak x λN i x=>?_;cases x with|mk ps n l s R D hp u hn I=>
  clear x;subst I;have T:n<=30:=Nat.le_of_add_le_add_right<|ah (bz (Nat.le_add_left 10 _) n) hn;have J:ps.length<3:=bt (bt (kx<|jv _)<|bF u) i.2;have w:(ps.map bp).length<=aF:=bM<|ah (c2 J) af
  have a7:∀{p E c l s},c8 p->E<=n+7->dH (upd B f<|.list<|ps.map bp) r cl E c->∃N,(2<=N/\N<=3)/\th B r cl f N G [some<|.ref r,some<|.ref f,l,s] (upd c f<|.list<|ps.map bp++[bp p]):=λ{p E c l s} X aa L=>by
   refine⟨N,i,ps++[p],E,l,s,L.put ne y,aJ.trans<|Y qg rfl,λq m=>?_,?_,?_,rfl⟩
   .refine Or.elim (cD.mp m) (λm=>?_) λm=>?_
    .exact hp q m
    .exact Y (a3.mp m) X
   .exact Y a0<|Y u.symm<|d0 _ _ _
   .exact ah (ef aa _)<|ah (by exact Y fS<|Y (Nat.mul_succ ..)<|Y (d0 ..)<|Y (dD ..).symm<|bz (by decide:7<=10) _) hn
  refine .dF<|.b8<|.call<|Es.x (.cons (.vr rfl)<|.one .cst)<|nT (k:=k+2) g (R.with D) (ah T af) (m:=6) af λx Q A b=>?_;have d:Q f=some (.list<|ps.map bp):=b.base _ _ aJ;have M:n+1<=31:=cR T;refine .ma (.fu (.vr rfl) .cst) (λZ=> .assoc<|.dp<|.append (.vr rfl) d .cst w<|.no<|.pass<|a7 (p:=bR) (.inl rfl) (bz (by decide:1<=7) n) b) λZ=> .assoc ?_;refine .ma (.and (.fu (.vr rfl) .cst) λZ=> .yh (.vr rfl) d (.lst .nil<|a6 _) (λv m=>?_) λZ=>bw) (λz=> .assoc<|.dp<|.nE (.vr rfl) d (.Kt (vs:=ps.map bp) (.vr rfl)<|.call<|Es.x (.cons (.vr rfl)<|.one<|.ec (.vr rfl) d w)<|nT (k:=k+2) g b (ah M af) ?_ λj ab ac O=>?_) w) λZ=> .assoc<|.dp<|.nE (.vr rfl) d (.tup<|.cons (λv c=>Sd fM v/\dH (upd B f<|.list<|ps.map bp) r cl (n+1+3) c) (.call<|Es.x (.one<|.vr rfl)<|y3 (k:=k) g b (ah M af) λt c h L=>⟨h,L⟩) λv ab z=> .one<|.call<|Es.x (.one<|.vr rfl)<|y3 (k:=k) g z.2 (ah (ef M 3) af) λt ae h U=>⟨dA,U.base _ _ aJ,.no<|.no<|.pass<|a7 (p:=(v,t)) (.inr ⟨z.1,h⟩) (aM _) U⟩) w
  .refine ak (bS.mp m) λp P ad=>?_;clear m;obtain rfl:=ad;exact(hp p P).key
  .refine Y (aV ..) (Nat.pos_of_ne_zero λe=>?_);clear D hp u J w a7 b d;obtain rfl:=List.eq_nil_of_length_eq_zero e;exact fB ((hE _).mp (fe.mp z).2) rfl
  .have e:=cc ac;refine⟨j,_,rfl,O.base _ _ aJ,e,bM<|ah (c2 J) af,O.base _ _ aJ,?_⟩;refine ak (bS.mp<|bI e) λp P e'=>?_;exact Y e'.symm<|.no<|.no<|.pass<|a7 (hp p P) (bz (by decide:2<=7) n) O
 .refine ak x λN i x=>?_;cases x with|mk ps n l s R D hp u hn I=>clear x;subst I;have e:ps.length=N:=u;exact .dz (.vr rfl)<|h f ps c y (R.with D).base hp (e▸i.1)<|e▸i.2
end
section
variable{n m k i j r cl a f N:Nat}{v w:V}{B S t T:TH}{l:au}{e e' u A:M}{es:Ms}{K:V->TH->Prop}{q rest:aE}{Q:Fl->au->TH->Prop}{cs is:List Int}{o o':aQ}{vs ws:List V}{p:V×V}{pr:Nat->V×V}{js ks:List Nat}{D:List V->Prop}
open Classical in
theorem Kw:∀j∈bL pr ks k,j∈ks:=λj m=>by
 unfold bL at m;split at m
 .exact(ig.mp m).1
 .exact m
theorem qi:j∈bT k ks↔j∈ks/\j≠k:=by unfold bT;rw[List.mem_filter,Bool.not_eq_true',beq_eq_false_iff_ne]
theorem y4:∀{js ks:List Nat},∀j∈js.foldl (bL pr) ks,j∈ks
 |[],ks,j,m=>m
 |k::js,ks,j,m=>Kw j<|y4 (js:=js) j m
open Classical in
theorem Kx:∀{js ks:List Nat},(∀j∈ks,dq ((js.foldl (bL pr) ks).map pr) (pr j))/\∀k∈js,k∈js.foldl (bL pr) ks->¬dq ((bT k (js.foldl (bL pr) ks)).map pr) (pr k):=by
 intro js;induction js with
 |nil=>exactλ{ks}=>⟨λj m=> .self<|gm m,(λZ=>bw)⟩
 |cons k js a=>
  intro ks;have a:=a (ks:=bL pr ks k);have sb:∀j∈js.foldl (bL pr) (bL pr ks k),j∈bL pr ks k:=y4;show(∀j∈ks,dq ((js.foldl (bL pr)<|bL pr ks k).map pr)<|pr j)/\∀i∈k::js,i∈js.foldl (bL pr) (bL pr ks k)->¬dq ((bT i<|js.foldl (bL pr)<|bL pr ks k).map pr) (pr i);generalize js.foldl (bL pr) (bL pr ks k)=K at a sb⊢;by_cases q:dq ((bT k ks).map pr) (pr k)
  .have e:bL pr ks k=bT k ks:=az q;rw[e] at a sb;refine⟨λj m=>?_,λi m c=>(ba.mp m).elim (λz=>absurd z (qi.mp<|sb i c).2) λm=>a.2 i m c⟩;by_cases z:j=k
   .clear sb e;subst z;refine .cut (λp b=>?_) q;refine ak (bS.mp b) λx d f=>?_;clear b;obtain rfl:=f;exact a.1 x d
   .exact a.1 j<|qi.mpr ⟨m,z⟩
  .have e:bL pr ks k=ks:=ay q;rw[e] at a sb;refine⟨a.1,λi m c=>(ba.mp m).elim (λz=>?_) λm=>a.2 i m c⟩;clear e m;subst z
   exactλw=>q (w.mono λp b=>by refine ak (bS.mp b) λx d g=>?_;clear b;obtain rfl:=g;refine jA (qi.mp d) λh l=>?_;exact gm (qi.mpr ⟨sb x h,l⟩))
theorem Ky(h:k<n):dq ((bT k (kept pr n)).map pr) (pr k)↔k∉kept pr n:=by have z:=Kx (pr:=pr) (js:=(List.range n).reverse) (ks:=List.range n);refine⟨λw m=>z.2 k (List.mem_reverse.mpr<|cz.mpr h) m w,λw=>?_⟩;exact Y (show bT k (kept pr n)=kept pr n from List.filter_eq_self.mpr λj m=>by rw[hE,lE];exactλe=>w<|e▸m)<|z.1 k<|cz.mpr h
theorem y5:(kept pr n).Sublist (List.range n):=by
 unfold kept;generalize(List.range n).reverse=js
 suffices h:∀{ks:List Nat},ks.Sublist (List.range n)->(js.foldl (bL pr) ks).Sublist (List.range n) from h<|.refl _
 induction js with
 |nil=>exact id
 |cons k js a=>
  intro ks h;refine a ?_;unfold bL;split
  .exact List.filter_sublist.trans h
  .exact h
theorem El.pK(h:Eg S l e (.ref i)){xs:Array Value}(g:S i=some (.const xs m))(b:∀μ h,aA μ h (is.map V.int) xs.toList)(c:is.length<=aF):El S l (kR e k) ((is.take k).map V.int):=λT s d f P q=>h T s d f _ λj a=> .inr ⟨xs,m,is,a _ _<|s _ _ g,b,c,q _ _ a.cv a.new⟩
theorem Eg.abs{x:Int}(h:Eg S l e (.int x)):Eg S l (aC (aD .abs) (H e aa)) (.int x.natAbs):=λT s a b P q=>h T s a b _ λc d=>q c d
theorem Eg.lM(h:Eg S l e (iV k))(a:k<10):Eg S l (aC (aD .str) (H e aa)) (.str (kN k)):=λT s b c P q=>h T s b c _ λd f=>⟨⟨eR k,a⟩,q d f⟩
theorem El.Kz(h:Eg S l e (.cP 0 n 1))(hn:n<=1000):El S l (aC (aD .list) (H e aa)) ((List.range n).map iV):=λT s b c P q=>h T s b c _ λd a=> .inr ⟨ly (ah hn af),by
 exact Y (lx ..) ⟨by rw[aV,cF];exact ah hn af,q _ _ a.cv a.new⟩⟩
theorem Eg.cP(h:Eg S l e (iV n)):Eg S l (aC (aD .range) (H e aa)) (.cP 0 n 1):=λT s a b P q=>h T s a b _ λc d=>q c d
theorem Ex.jn(h:El S l e vs)(q:∀r cl t,S r=none->S cl=none->r≠cl->Sub S t->t r=some (.dict .s (gR cl 0))->t cl=some (.list vs)->K (.ref r) t):Ex S l (oG (Mine.cst (.str "cells")) e (Mine.cst (.str "at")) (Mine.cst (.int 0))) K:=λc d P p=>by
 have a:=d.cv;refine⟨.s,h _ (.new a) _ (d.new (o:= .dict .s [])) _ λcl u b f=>?_⟩;have ne:cl≠c.length:=λe=>by rw[e,aJ] at b;exact iP b
 have k:=(f.weak b).at;have g:=Hd.put f (i:=c.length) (o:= .dict .s [(.str "cells",.ref cl)])<|(bC<|cO ne).trans aJ;refine⟨k,ew _,a6 _,g.at,ew _,dO,?_⟩;have m:=g.put (i:=c.length) (o:= .dict .s<|gR cl 0) aJ
 have n:bD (bD [] (.str "cells")<|.ref cl) (.str "at") (.int 0)=gR cl 0:=by
  classical
  exact ay tf
 refine Y n<|p _ _ _ (q c.length cl _ a ((bC ne).symm.trans b) (cO ne) (λj o z=>?_) aJ ?_) m
 .exact Y (bC<|e0 a z)<|Y (bC<|e0 a z)<|br b<|br a z
 .exact Y (bC ne)<|Y (bC ne) aJ
theorem Ex.y6(q:∀d,S d=none->K (.ref d) (upd S d (.dict .s [(.str "rounds",.int 12)]))):Ex S l (lU (Mine.cst (.str "rounds")) (Mine.cst (.int 12))) K:=λb a P p=>by
 have z:=a.new (o:= .dict .s []);refine⟨.s,z.at,ew _,a6 _,?_⟩;refine p _ _ _ (q _ a.cv) ?_;have w:=z.put (i:=b.length) (o:= .dict .s [(.str "rounds",.int 12)]) aJ
 exactλj o e=>w j o (by unfold upd at e⊢;split at e<;>rename_i y<;>simp only[y,if_true,if_false]<;>exact e)
theorem eN.x{fn:aG}{f:Addr}(h:eN fn f vs S D)(q:∀ws r,D ws->S r=none->K (.ref r) (upd S r (.list ws))):Fx fn f vs S K:=λa b P p=>h S (.refl S) a b P λws r c d g e=>p _ _ c (q ws r d g) e
theorem Fg.x{fn:aG}{f:Addr}(h:Fg fn f vs S v)(q:K v S):Fx fn f vs S K:=λa b P p=>h S (.refl S) a b P λc d=>p _ _ c q d
theorem Eg.KA{c:Addr}{fs:List (Str×V)}(h:Eg S l e (.ref a))(b:Eg S l e' (.ref a))(g:S a=some (.inst c fs)):Eg S l (aH .IsNot e e') (.bool false):= .cmp h b λf d P p=> .inr ⟨c,fs,d _ _ g,by
 show P (!decide (a=a));exact Y (bJ rfl) p⟩
theorem Eg.ti{a b:Bool}(h:Eg S l e (.bool a))(c:Eg S l e' (.bool b)):Eg S l (aH .NotEq e e') (.bool !(a==b)):= .cmp h c λd f P p=> .inl<|.inr<|.inl p
theorem Ex.ti{b:Bool}(h:Ex S l e λv t=>∃a,v= .bool a/\Eg t l e' (.bool b)/\K (.bool !(a==b)) t):Ex S l (aH .NotEq e e') K:=λc d P p=>h c d _ λv t f z g=>by refine bE z λa i j q=>?_;clear z;obtain rfl:=i;exact j t (.refl t) f g _ λk m=> .inl<|.inr<|.inl<|p _ _ k q m
theorem Ex.KC{b:Bool}(h:Eg S l u (.bool b))(a:b=true->Ex S l A λv t=>v= .bool false/\K (.bool false) t)(e:K (.bool false) S):Ex S l (andM u A) K:=λf g P k=>h S (.refl S) f g _ λc d=>match b,a with
 |true,a=>a rfl c d _ λv t i z j=>z.1▸k _ _ i z.2 j
 |false,_=>k _ _ c e d
theorem Sw.KD(h:Ex S l e λv t=>v= .bool false/\Sw t l rest Q):Sw S l (ag (bW e q av) rest) Q:=λa b P k=>h a b _ λv t c z d=>z.1▸z.2 c d P k
theorem Ex.KG{G:TH->Prop}{src:cK}{items:List V}{js:List Nat}(I:List V->List V->TH->Prop)(hs:dg S l src items G)(f:I items [] S)(g:∀d acc S,I d acc S->G S)(step:∀v d acc S,I (v::d) acc S->∃a b,v= .tup [a,b]/\Ex S (((cH js 2 l).set i (some a)).set j (some b)) e λw t=>acc.length<aF/\I d (acc++[w]) t)
  (a7:∀acc S,I [] acc S->∀r,S r=none->K (.ref r) (upd S r<|.list acc)):Ex S l (aS src js 2 (cB 2<|bb (aj i)<|bb (aj j) cu) aK<|aR e) K:=λk m P q=>hs S (.refl S) k m _ λok n o p=>
 nA (ok:=ok) (λr acc c=>∃S,I r acc S/\Hd S c) (λr acc c h=>h.elim λS h=>p S c h.2 (g r acc S h.1)) (λv r acc c h P s=>h.elim λS h=>by refine cq (step v r acc S h.1) λa b u st=>?_;obtain rfl:=u;exact .inl ⟨rfl,a,[b],rfl,b,[],rfl,rfl,st c h.2 _ λw t x z y=>⟨z.1,s _ x ⟨t,z.2,y⟩⟩⟩) items [] n _ ⟨S,f,o⟩ λacc c h=>h.elim λS h=>q _ _ _ (a7 acc S h.1 _ h.2.cv) h.2.new
noncomputable def lA:V->Nat
 | .int i=>i.toNat
 |_=>0
theorem El.tj{F:Nat->V}{js:List Nat}(h:Eg S l e (.ref r))(g:S r=some (.list (ks.map iV)))(b:∀j∈ks,Eg S ((cH js 1 l).set i (some (iV j))) (vr i) (iV j)/\Eg S ((cH js 1 l).set i (some (iV j))) (vr 0) (iV k)/\Eg S ((cH js 1 l).set i (some (iV j))) e' (F j))(c:ks.length<=aF):El S l (aS (aI e) js 1 (aj i) (c1 (aH .NotEq (vr i) (vr 0)) aK) (aR e')) ((bT k ks).map F):=by
 have a:∀ks:List Nat,(ks.map iV).flatMap (λv=>if lA v=k then[] else[F<|lA v])=(bT k ks).map F:=λks=>by
  induction ks with
  |nil=>rfl
  |cons j ks d=>
   refine Y jC<|Y fh<|Y d ?_;show(if j=k then[] else[F j])++_=_;unfold Mine.bT;by_cases q:j=k
   .refine Y (az q)<|Y (List.filter_cons_of_neg (by rw[q,d1];nofun)) ?_;rfl
   .refine Y (ay q)<|Y (List.filter_cons_of_pos (by rw[beq_false_of_ne q];rfl)) ?_;rfl
 refine Y (a ..).symm<|.comp (.list h g) (λT s=>s _ _ g) ?_ λv m=>?_
 .exact Y (a ..)<|Y (aV ..)<|ah (lD _ _) c
 .refine ak (bS.mp m) λj f n=>?_;clear m;obtain rfl:=n;refine b1 (b j f) λo p t=>?_;refine .if (.pk o p) (λz=>?_) λz=>?_
  .exact Y (ay (show¬lA (iV j)=k fromλe=>fB ((hE _).mp z)<|ar Int.ofNat (e:j=k)))<|.elt t
  .exact Y (az (show lA (iV j)=k from ih<|cf<|(Bool.not_eq_false' _).mp z)) rfl
theorem c8.KH(h:c8 p):nO p.1 p.2:=by
 rcases h with rfl|h
 .exact yq (by decide+kernel) (by decide+kernel)
 .exact h.1.gi.p6 h.2.gi
end
section
variable{n m k i j r f rl b y:Nat}{v w:V}{B S c T u:TH}{l:au}{e e' A C:M}{es:Ms}{K:V->TH->Prop}{q rest:aE}{Q:Fl->au->TH->Prop}{is:List Int}{vs ws:List V}{ps:List (V×V)}{p:V×V}{pr:Nat->V×V}{js ks:List Nat}{D:List V->Prop}{R:Nat->Nat}{d t:V}
theorem eM.qj{Q:List V->TH->Prop}(h:El S l e vs)(b:∀r,S r=none->eM (upd S r (.list vs)) l es λws d=>Q (.ref r::ws) d):eM S l (H e es) Q:=
 .cons (λv c=>∃r,(v= .ref r/\S r=none)/\c=upd S r (.list vs)) (h.x λr g=>⟨r,⟨rfl,g⟩,rfl⟩) λv c z=>by refine ak z λr a f=>?_;obtain rfl:=f;refine jA a λi g=>?_;clear a z;obtain rfl:=i;exact b r g
theorem Eg.KI{a:Int}(h:Eg S l e (.int a))(b:iW a):Eg S l (aC (aD .range) (H e (H (Mine.cst (.int (-1))) (H (Mine.cst (.int (-1))) aa)))) (.cP a (-1) (-1)):=λT s c d P q=>h T s c d _ λf g=>⟨⟨b,by unfold iW;decide,rfl⟩,q f g⟩
structure gS(S:TH)(f n:Nat)(pr:Nat->V×V):Prop where
 two:2<=n
 n3:n<=3
 ok:∀k,c8<|pr k
 g:S f=some (.list<|(List.range n).map λk=>bp<|pr k)
theorem gS.sup(h:gS S f n pr)(s:Sub S T):gS T f n pr:=⟨h.two,h.n3,h.ok,s _ _ h.g⟩
theorem gS.len(h:gS S f n pr)(a:Eg S l e (.ref f)):Eg S l (aC (aD .len) (H e aa)) (iV n):=by have z:=Eg.ec a h.g<|Y (aV ..)<|Y cF<|ah h.n3 af;rw[aV,cF] at z;exact z
theorem gS.at(h:gS S f n pr)(a:Eg S l e (.ref f))(hi:Eg S l e' (iV j))(b:j<n):Eg S l (ax e e') (bp (pr j)):= .eY a hi h.g (by refine Y b9<|Y (h7 b) ?_;rfl)<|Y (aV ..)<|Y cF<|ah h.n3 af
theorem KJ(s:ks.Sublist (List.range n))(a:n<=3)(b:j<n):(bT j ks).length<=2:=ah ((s.trans<|List.range_sublist.mpr a).filter _).length_le<|yG j<|bt b a
open Classical in
theorem gS.y7(h:gS S f n pr)(s:ks.Sublist (List.range n))(a:j<n)(g:S r=some (.list ((bT j ks).map λk=>bp (pr k)))):Fg (F aU (k+4)) 639 [.ref r,bp (pr j)] S (.bool (decide (dq ((bT j ks).map pr) (pr j)))):=
 Kn (ps:=(bT j ks).map pr) (λp m=>by refine ak (bS.mp m) λk Z b=>?_;clear m;obtain rfl:=b;exact h.ok k) (Y (aV ..) (KJ s h.n3 a)) (h.ok j) (Y c3 g)
theorem tq(s:ks.Sublist (List.range n))(m:j∈ks):j<n:=cz.mp<|s.subset m
theorem lB(s:ks.Sublist (List.range n))(a:n<=3):ks.length<=3:=ah s.length_le<|cF▸a
noncomputable def h3(d t:V)(f:Nat)(a:Option V)(rl b:Nat)(c e g:Option V):au:=[some d,some t,some<|.ref f,a,some<|.ref rl,some<|.ref b,c,e,g]
inductive y8(u:TH)(n:Nat)(pr:Nat->V×V)(sl:Option V->Nat->au)(a:List V)(l':au)(c:TH):Prop
 |mk (ks js:List Nat) (b:Nat) (d:Option V):Sub u c->c b=some (.list<|ks.map iV)->a=js.map iV->ks.Sublist (List.range n)->(∀k∈js,k<n)->js.foldl (bL pr) ks=kept pr n->l'=sl d b->y8 u n pr sl a l' c
theorem KL(a:2<=n)(b:n<=3):gD ((n:Int)-1) (-1) (-1)=(List.range n).reverse.map iV:=by
 refine Or.elim (gw n 3) (λh=>?_) λh=>?_
 .clear b;obtain rfl:=fi (c6 h) a;rfl
 .clear a;obtain rfl:=fi b h;rfl
open Classical in
theorem KN(P:gS S f n pr)(a:S b=some (.list ((List.range n).map iV)))(h:∀c b g,Sub S c->c b=some (.list ((kept pr n).map iV))->Sw c (h3 d t f g rl b none none none) rest Q):
  Sw S (h3 d t f none rl b none none none) (ag (forM (aI<|aC (aD .range)<|H (a9 .Sub (aC (aD .len)<|H (vr 2) aa)<|cst<|.int 1)<|H (cst<|.int<|-1)<|H (cst<|.int<|-1) aa) (aj 3)<|ag (bW (b2 (F aU<|k+4) 639<|H (aS (aI<|vr 5) [3,2] 1 (aj 2) (c1 (aH .NotEq (vr 2)<|vr 0) aK)<|aR<|ax (vr 1)<|vr 2)<|H (ax (vr 2)<|vr 3) aa) (ag (aB (aj 5)<|aS (aI<|vr 5) [3] 1 (aj 1) (c1 (aH .NotEq (vr 1)<|vr 0) aK)<|aR<|vr 1) av) av) av) rest) Q:=by
 have z:=Eg.KI (Eg.nv (P.len (l:=h3 d t f none rl b none none none) (e:=vr 2)<|.vr rfl)<|.cst (v:= .int 1)) (show iW ((n:Int)-1) from⟨eF (by decide: -(10:Int)^15<=0)<|Int.sub_nonneg_of_le<|fT.mpr<|ah af P.two,eF (Int.sub_le_self _ af)<|eF (fT.mpr P.n3) af⟩);have A:=dg.cP z ⟨⟨eF (by decide: -(10:Int)^15<=0)<|Int.sub_nonneg_of_le<|fT.mpr<|ah af P.two,eF (Int.sub_le_self _ af)<|eF (fT.mpr P.n3) af⟩,by unfold iW;decide,.inr rfl⟩;rw[KL P.two P.n3] at A;refine .then (.for (y8 S n pr λg b=>h3 d t f g rl b none none none) A ⟨List.range n,(List.range n).reverse,b,none,.refl S,a,rfl,.refl _,λk m=>cz.mp<|List.mem_reverse.mp m,rfl,rfl⟩ (λZ Z Z Z=>trivial) (λv J l' c x=>?_) λl' c x=>?_)
 .cases x with|mk ks js b g s a p i q u y=>
  subst y;cases js with
  |nil=>exact eG p
  |cons j js=>
  refine jA (b5 p) λD E=>?_;obtain rfl:=D;clear p;obtain rfl:=E;have B:=q j<|.head _;have P':=P.sup s;have C:=ah (lB i P.n3) (by decide:3<=aF);refine .dF<|.then (.r9<|.call<|.qj (.tj (k:=j) (F:=λk=>bp<|pr k) (.vr rfl) a (λx m=>⟨.vr rfl,.vr rfl,P'.at (.vr rfl) (.vr rfl)<|tq i m⟩) C) λo w=>Es.x (.one<|(P'.sup<|.new w).at (.vr rfl) (.vr rfl) B)<|((P'.sup<|.new w).y7 (k:=k) i B aJ).x ⟨_,rfl,λz=>?_,λz=>?_⟩)
  .have r:=Sub.new (o:= .list<|(bT j ks).map λk=>bp<|pr k) w;refine .b8<|(El.tj (k:=j) (F:=iV) (.vr rfl) (r _ _ a) (λx m=>⟨.vr rfl,.vr rfl,.vr rfl⟩) C).x λG I=> .pass<|.pass ?_;exact⟨bT j ks,js,G,_,s.trans<|r.trans<|.new I,aJ,rfl,List.filter_sublist.trans i,λx m=>q x<|.tail _ m,(ar (js.foldl<|bL pr) (az<|cf z).symm).trans u,rfl⟩
  .have r:=Sub.new (o:= .list<|(bT j ks).map λk=>bp<|pr k) w;exact .pass<|.pass ⟨ks,js,b,_,s.trans r,r _ _ a,rfl,i,λx m=>q x<|.tail _ m,(ar (js.foldl<|bL pr) (ay<|fB z).symm).trans u,rfl⟩
 .cases x with|mk ks js b g s a p i q u y=>
  subst y;clear q;cases js with
  |cons=>exact ik p
  |nil=>exact h c b g s<|u▸a
end
section
variable{n m k i j r f rl c t:Nat}{v w:V}{B S a T C:TH}{l:au}{e e' E G:M}{es:Ms}{K:V->TH->Prop}{q rest:aE}{Q:Fl->au->TH->Prop}{is:List Int}{vs ws:List V}{ps:List (V×V)}{p:V×V}{pr:Nat->V×V}{js ks:List Nat}{D:List V->Prop}{R:Nat->Nat}{u A:V}
theorem y9(h:Eg S l e (iV j))(a:j<3):Eg S l (a9 .Add (cst (.str "r")) (aC (aD .str) (H e aa))) (.str (hy j)):= .r6 .cst (.lM h<|ei a af) (by decide:2<=aF)
inductive za(b:TH)(n:Nat)(pr:Nat->V×V)(c acc:List V)(a:TH):Prop
 |mk (R:Nat->Nat) (j:Nat):Sub b a->j<=n->c=fa j (((List.range n).map λk=>bp<|pr k).drop j)->acc=cM R (List.range j)->(∀k,k<j->a (R k)=some (.inst 480<|gg (hy k) (pr k).1 (pr k).2))->za b n pr c acc a
theorem KO(P:gS S f n pr)(B:l[2]? =some (some (.ref f)))(h:∀a rl R,Sub S a->a rl=some (.list (cM R (List.range n)))->h2 a n R pr->K (.ref rl) a):Ex S l (aS (enumSrc (vr 2)) [] 2 (cB 2 (bb (aj 0) (bb (aj 1) cu))) aK (aR (gG (F aU (k+6)) 480 470 (H (a9 .Add (cst (.str "r")) (aC (aD .str) (H (vr 0) aa))) (H (ax (vr 1) (cst (.int 0))) (H (ax (vr 1) (cst (.int 1))) (H (bj aa) aa))))))) K:=by
 have ln:((List.range n).map λk=>bp<|pr k).length=n:=Y (aV ..)<|Y cF rfl;refine .KG (za S n pr) (.w4 (.vr B) P.g) ⟨λZ=>0,0,.refl S,a6 _,rfl,rfl,nofun⟩ (λZ Z Z x=>x.casesOn λZ Z s Z Z Z Z=>s _ _ P.g) (λv O acc C x=>?_) λacc C x rl D=>?_
 .cases x with|mk R j s c b d i=>
  have lt:j<n:=kC c λe=>by rw[List.drop_eq_nil_of_le<|ln.trans e.symm▸aM _] at b;exact eG b
  have ed:((List.range n).map λk=>bp<|pr k).drop j=bp (pr j)::((List.range n).map λk=>bp<|pr k).drop (j+1):=by exact Y (List.drop_eq_getElem_cons<|ln.symm▸lt)<|Y (List.getElem_map ..)<|Y (List.getElem_range ..) rfl
  rw[ed] at b;refine jA (b5 b) λE G=>?_;obtain rfl:=E;obtain rfl:=G;have p:=bt lt P.n3;refine b6 ((P.ok j).KH) λN Q u I w=>?_;refine b1 u λp1 p2 z=>?_;refine jA I λJ L=>?_;refine⟨_,_,rfl,.new<|Es.x (.cons (y9 (.vr rfl) p)<|.cons (.eu (vs:=[(pr j).1,(pr j).2]) (j:=0) (.vr rfl) .cst rfl (by decide:2<=1000000))<|.cons (.eu (vs:=[(pr j).1,(pr j).2]) (j:=1) (.vr rfl) .cst rfl (by decide:2<=1000000))<|.one<|.tup .nil<|a6 _) λr q=>ym (k:=k) p1 p2 z J L w q λT s2=>⟨rfl,?_,λx=>if x=j then r else R x,j+1,s.trans<|(Sub.new q).trans s2,lt,rfl,?_,λx t=>?_⟩⟩
  .refine Y d ?_;unfold cM;exact Y (List.length_map ..)<|Y List.length_range<|Nat.lt_trans p af
  .refine Y d ?_;unfold cM;refine Y List.range_succ<|Y dT<|congr (ar _<|dZ λx m=>?_) ?_
   .show V.ref (R x)=V.ref (if x=j then r else R x);exact Y (ay<|bk<|cz.mp m) rfl
   .show _=[V.ref (if j=j then r else R j)];exact Y (az rfl) rfl
  .refine Or.elim (gw x j) (λy=>?_) λy=>?_
   .exact Y (ay<|bk y)<|s2 _ _<|br q<|i x y
   .clear c d i lt ed b p u w p1 p2 z;obtain rfl:=fi (c6 t) y;exact Y (az rfl)<|s2 _ _ aJ
 .cases x with|mk R j s c b d i=>
  have M:j=n:=fi c (eS λlt=>by rw[List.drop_eq_getElem_cons (ln.symm▸lt)] at b;exact ik b)
  clear ln c b;subst M;have A:=Sub.new (o:= .list acc) D;exact h _ rl R (s.trans A) (d▸aJ) ⟨P.n3,λx t=>A _ _<|i x t,P.ok⟩
inductive ldI(C:TH)(n:Nat)(sl:Option V->Option V->Option V->au)(b:List V)(l':au)(a:TH):Prop
 |mk (js:List Nat) (c d e:Option V):Sub C a->b=js.map iV->(∀k∈js,k<n)->l'=sl c d e->ldI C n sl b l' a
open Classical in
theorem KP(P:gS S f n pr)(O:S c=some (.list ((kept pr n).map iV)))(gr:S rl=some (.list (cM R (List.range n))))(al:h2 S n R pr){p:Option V}(h:∀a l',Sub S a->Sw a l' rest Q):
  Sw S (h3 u A f p rl c (some<|.ref t) none none) (ag (forM (aI<|aC (aD .range)<|H (aC (aD .len)<|H (vr 2) aa) aa) (aj 3)<|ag (aB (aj 7)<|aS (aI<|vr 5) [3] 1 (aj 1) (c1 (aH .NotEq (vr 1)<|vr 0) aK)<|aR<|vr 1)<|ag (aB (aj 8)<|b2 (F aU<|k+20) 639<|H (aS (aI<|vr 7) [2] 1 (aj 1) aK<|aR<|ax (vr 0)<|vr 1)<|H (ax (vr 2)<|vr 3) aa)<|ag (bW (aH .NotEq (vr 8)<|aH .NotIn (vr 3)<|vr 5) (ag (a5<|cst<|.bool false) av) av)<|ag (bW (andM (aH .Eq (vr 3)<|a9 .Sub (aC (aD .len)<|H (vr 2) aa)<|cst<|.int 1)<|aH .NotEq (b2 (F aU<|k+20) 582<|H (aS (aI<|vr 7) [4] 1 (aj 1) aK<|aR<|ax (vr 0)<|vr 1)<|H (aw (ax (vr 4)<|vr 3) "left")<|H (aw (ax (vr 4)<|vr 3) "right")<|H (lU (cst<|.str "rounds")<|cst<|.int 12) aa)<|vr 8) (ag (a5<|cst<|.bool false) av) av) av) rest) Q:=by
 have C:(kept pr n).Sublist (List.range n):=y5;have am:=ah (lB C P.n3) (by decide:3<=aF);have U:=dg.cP (Eg.cP<|P.len (l:=h3 u A f p rl c (some<|.ref t) none none) (e:=vr 2)<|.vr rfl)<|ly<|ah P.n3 af;rw[lx] at U;refine .then (.for (ldI S n λp D E=>h3 u A f p rl c (some<|.ref t) D E) U ⟨List.range n,_,_,_,.refl S,rfl,λZ=>cz.mp,rfl⟩ (λZ Z Z Z=>trivial) (λv aO l' a x=>?_) λl' a x=>x.casesOn λZ Z Z Z s Z Z Z=>h a l' s);cases x with|mk js p D E s G W an=>
 subst an;cases js with
 |nil=>exact eG G
 |cons j js=>
 refine jA (b5 G) λao ap=>?_;obtain rfl:=ao;clear G;obtain rfl:=ap;have q:=W j<|.head _;refine .dF<|.b8<|(El.tj (k:=j) (F:=iV) (.vr rfl) (s _ _ O) (λx m=>⟨.vr rfl,.vr rfl,.vr rfl⟩) am).x λr aq=>?_;have s1:=s.trans<|Sub.new (o:= .list<|(bT j<|kept pr n).map iV) aq;have go:upd a r (.list<|(bT j<|kept pr n).map iV) r=some (.list<|(bT j<|kept pr n).map iV):=aJ;generalize upd a r (.list<|(bT j<|kept pr n).map iV)=as at*;have I:=P.sup s1;have X:(bT j<|kept pr n).Sublist (List.range n):=List.filter_sublist.trans C;have lo:=ah (lB X P.n3) (by decide:3<=aF)
 have ab:∀{T:TH}{l:au}{js:List Nat}{e e':M}{F:Nat->V},Eg T l e (.ref r)->T r=some (.list<|(bT j<|kept pr n).map iV)->(∀x,x<n->Eg T ((cH js 1 l).set 1<|some<|iV x) e' (F x))->El T l (aS (aI e) js 1 (aj 1) aK<|aR e') ((bT j<|kept pr n).map F):=λ{T l js e e' F} h g ay=>by
  have z:=El.map (i:=1) (e:=e') (js:=js) (g:=λv=>F<|lA v) (dg.list h g) (λT s=>s _ _ g) (Y (aV ..) lo) λv m=>by refine ak (bS.mp m) λx J az=>?_;clear m;obtain rfl:=az;exact ay x<|tq X J
  rw[c3] at z;exact z
 refine .b8<|.call<|.qj (ab (F:=λx=>bp<|pr x) (.vr rfl) go λx w=>I.at (.vr rfl) (.vr rfl) w) λo K=>Es.x (.one<|(I.sup<|.new K).at (.vr rfl) (.vr rfl) q)<|((I.sup<|.new K).y7 (k:=k+16) C q aJ).x ?_;have s2:=Sub.new (o:= .list<|(bT j<|kept pr n).map λx=>bp<|pr x) K;have aA:=s2 _ _ go;have y:=s1.trans s2;generalize upd as o (.list<|(bT j<|kept pr n).map λx=>bp<|pr x)=ac at*
 have eq:decide (dq ((bT j<|kept pr n).map pr)<|pr j)= !decide (iV j∈(kept pr n).map iV):=by
  rw[gq.mpr (Ky q),decide_not,gq.mpr (⟨gm,λm=>by refine ak (bS.mp m) λx J e=>?_;exact e1 e▸J⟩:j∈kept pr n↔iV j∈(kept pr n).map iV)]
 have aE:∀{v},v∈(kept pr n).map iV->a8 30 v:=λm=>by refine ak (bS.mp m) λx Z aG=>?_;clear m;obtain rfl:=aG;exact .int _ _
 refine .guard (.ti (.vr rfl)<|.yi (.vr rfl) (.vr rfl) (y _ _ O) (.int _ _) (λv=>aE) h8) (λz=>?_) λZ=> .KD ?_
 .rw[eq,d1] at z;exact b3 z
 have aL:=P.sup y;have ad:=al.sup y;have L:∀{T:TH}{l:au}{e e':M}{x:Nat},Sub ac T->Eg T l e (.ref rl)->Eg T l e' (iV x)->x<n->Eg T l (ax e e') (.ref<|R x):=λst h aM w=> .eY h aM (st _ _<|y _ _ gr) (by unfold cM;refine Y List.getElem?_map<|Y (List.getElem?_range w) ?_;rfl)<|Nat.le_trans (nS (.refl _) P.n3) af;have a7:∀{ae:TH}{l'},Sub ac ae->l'=h3 u A f (some<|iV j) rl c (some<|.ref t) (some<|.ref r) (some<|.bool<|decide<|dq ((bT j<|kept pr n).map pr)<|pr j)->Sw ae l' av λf l' a=>match f with| .next=>ldI S n (λp D E=>h3 u A _ p rl c (some<|.ref t) D E) (js.map iV) l' a| .ret v=>Q (.ret v) l' a:=λst e=> .pass ⟨js,_,_,_,y.trans st,rfl,λx m=>W x<|.tail _ m,e⟩
 refine .KC (.fu (.vr rfl)<|.nv (aL.len<|.vr rfl) .cst) (λZ=> .ti (b:=decide<|dq ((bT j<|kept pr n).map pr)<|pr j)<|.call<|.qj (ab (F:=λx=>V.ref<|R x) (.vr rfl) aA λx w=>L (.refl _) (.vr rfl) (.vr rfl) w) λo' aN=>?_) ⟨rfl,a7 (.refl _) rfl⟩;have B:=Sub.new (o:= .list<|(bT j<|kept pr n).map λx=>V.ref<|R x) aN;have ru:=(ad.sup B).at_ j q;refine .jb (.attr (L B (.vr rfl) (.vr rfl) q) ru (fK _ _ _).2.1)<|.jb (.attr (L B (.vr rfl) (.vr rfl) q) ru (fK _ _ _).2.2.1)<|.one<|.y6 λd hd=>?_;have N:=Sub.new (o:= .dict .s [(.str "rounds",.int 12)]) hd;have ai:=yE (k:=k)<|((ad.sup B).sup N).yH C q (N _ _ aJ) aJ;rw[yI] at ai;exact ai.x ⟨_,rfl,.vr rfl,ar V.bool (by refine Y (d1 ..) ?_;rfl),rfl,a7 (B.trans N) rfl⟩
end
section
variable{n m k i j r f rl A y:Nat}{v w:V}{B S E T G:TH}{l:au}{e e' I J:M}{es:Ms}{K:V->TH->Prop}{q rest:aE}{Q:Fl->au->TH->Prop}{is:List Int}{vs ws:List V}{ps:List (V×V)}{p:V×V}{pr:Nat->V×V}{js ks:List Nat}{D:List V->Prop}{R:Nat->Nat}{L N:V}
noncomputable def KQ:V->V
 | .int i=> .int<|(i.natAbs:Int)%1000003
 |v=>v
theorem KR{xs:Array Value}(h:Eg S l e (.ref i))(g:S i=some (.const xs m))(a:∀μ h,aA μ h (is.map V.int) xs.toList)(b:is.length<=aF):∃cs:List Int,(cs.length<=63/\∀c∈cs,0<=c)/\El S l (aS (aI (kR e 63)) [] 1 (aj 0) aK (aR (a9 .Mod (aC (aD .abs) (H (vr 0) aa)) (cst (.int 1000003))))) (cs.map V.int):=by
 have z:=El.G7 (i:=0) (js:=[]) (g:=KQ) (e:=a9 .Mod (aC (aD .abs)<|H (vr 0) aa)<|cst<|.int 1000003) (.new<|.pK (k:=63) h g a b) (Y (aV ..)<|ah (List.length_take_le _ _) af) λv m=>by refine ak (bS.mp m) λx Z d=>?_;clear m;obtain rfl:=d;exact .y1 (.abs<|.vr rfl) .cst af
 rw[c3] at z;refine⟨(is.take 63).map λx=>(x.natAbs:Int)%1000003,⟨Y (aV ..)<|List.length_take_le _ _,λc m=>?_⟩,Y c3 z⟩;refine ak (bS.mp m) λx Z f=>?_;clear m;obtain rfl:=f;exact Int.emod_nonneg _ af
theorem KS(ks:List Nat):(jk pr ks).map (λu=>V.str u.nm)=(ks.map iV).map λv=>V.str ("r"++kN (lA v)):=by unfold jk;refine Y c3<|Y c3 ?_;rfl
open Classical in
theorem KU{xs:Array Value}(g:S i=some (.const xs m))(au:∀μ h,aA μ h (is.map V.int) xs.toList)(av:is.length<=aF):Fx (F aU (k+22)) 644 [.ref i] S λv E=>v= .bool true/\E i=some (.const xs m):=by
 refine ak (KR (S:=S) (l:=dw [.ref i] 8) (e:=vr 0) (.vr rfl) g au av) λcs aw U=>?_;refine jA aw λay az=>?_;refine cT Fb rfl<|.b8<|.jn U λr cl aB aE aG ne s gr W=>?_;have C:jo (upd S cl<|.list<|cs.map V.int) r cl:=⟨(bC ne).trans aE,cs,aJ,ay,az⟩
 have X:dH (upd S cl (.list (cs.map V.int))) r cl 0 aB:=⟨λj o z=>by
  unfold upd at z;split at z
  .rename_i e;exact Y e<|Y W z
  .exact s _ _ z,0,aM 0,gr⟩
 refine .b8<|.call<|Es.x (.one<|.vr rfl)<|Kv (k:=k+17) C X λf ps aI hf s2 hp ab ac=>?_;have g:=s2 _ _<|br hf<|br aG g;have L:=s2 _ _<|aJ (S:=upd S cl<|.list<|cs.map V.int)
 obtain⟨n,pr,rfl,aL,hn⟩:∃n pr,ps=(List.range n).map pr/\(∀k,c8<|pr k)/\n=ps.length:=by
  refine⟨ps.length,λk=>ps.getD k bR,ic λk=>?_,λk=>?_,rfl⟩
  .refine Or.elim (gw k ps.length) (λq=>?_) λq=>?_
   .refine Y b9 (Y (h7 q)<|Y (cc q) ?_);show _=some (ps.getD k bR);refine Y eQ<|Y (cc q) ?_;rfl
   .exact Y (ez q)<|Y (ez (by rw[aV,cF];exact q)) rfl
  .show c8 (ps.getD k bR);refine Y eQ ?_;cases e:ps[k]? with
   |none=>exact .inl rfl
   |some p=>exact hp p<|bI e
 rw[←hn] at ab ac;rw[c3] at L;have P:gS aI f n pr:=⟨ab,ac,aL,L⟩;clear hp s2 hn L X C W gr s U;refine .b8<|KO (k:=k+15) P rfl λG rl R ad w c=>?_;have g:=ad _ _ g;have P:=P.sup ad;have aN:n<=1000:=ah P.n3 af;refine .b8<|(El.Kz (.cP<|P.len<|.vr rfl) aN).x λA aO=>?_;have I:=Sub.new (o:= .list<|(List.range n).map iV) aO;refine KN (k:=k+17) (P.sup I) aJ λae A ag K B=>?_;have P:=P.sup<|I.trans K;have c:=c.sup<|I.trans K;have g:=(I.trans K) _ _ g;have w:=K _ _<|I _ _ w;have ai:∀{ks},ks.Sublist (List.range n)->(cM R ks).length<=aF:=λh=>ah (nS h P.n3) af;have D:(kept pr n).Sublist (List.range n):=y5;refine .b8<|.call<|.qj (.pn (.vr rfl) w<|ai<|.refl _) λo al=> .one<|.y6 λd hd=>(JX (k:=k) ((c.sup<|.new al).sup<|.new hd) (br hd aJ) aJ).x λws y e aP=>?_;subst e;have J:=(Sub.new al).trans<|(Sub.new hd).trans<|Sub.new (o:= .list<|cM R<|kept pr n) aP;have M:upd (upd (upd ae o<|.list<|cM R<|List.range n) d<|.dict .s [(.str "rounds",.int 12)]) y (.list<|cM R<|kept pr n) y=_:=aJ;generalize upd (upd (upd ae o<|.list<|cM R<|List.range n) d<|.dict .s [(.str "rounds",.int 12)]) y (.list<|cM R<|kept pr n)=N at*;have P:=P.sup J;have c:=c.sup J;have w:=J _ _ w;have B:=J _ _ B;have g:=J _ _ g;have lt:∀x∈kept pr n,x<n:=λx m=>tq D m;have aQ:(jk pr<|kept pr n).length<=63:=by unfold jk;exact Y (List.length_map ..)<|Nat.le_trans (lB D P.n3) af
 have am:∀v∈(jk pr<|kept pr n).map (λu=>V.str u.nm),a8 40 v:=λv m=>by refine ak (bS.mp m) λu Z aS=>?_;clear m;obtain rfl:=aS;exact .str _ _
 have an:=El.map (S:=N) (l:=h3 (.ref i) (.ref r) f ag rl A (some<|.ref y) none none) (i:=0) (js:=[]) (g:=λv=>V.str<|"r"++kN (lA v)) (e:=a9 .Add (Mine.cst<|.str "r")<|aC (aD .str)<|H (vr 0) aa) (.list (e:=vr 5) (.vr rfl) B) (λT s=>s _ _ B) (Y (aV ..)<|ah (lB D P.n3) af) λv m=>by refine ak (bS.mp m) λx O aT=>?_;clear m;obtain rfl:=aT;exact y9 (j:=x) (.vr rfl)<|bt (lt x O) P.n3
 rw[←KS (pr:=pr)] at an;refine .guard (.sN ((c.yF lt).yc (.vr rfl) M aQ<|jv _) an am am) (λz=>absurd rfl<|fB<|(hE _).mp z) λZ=>?_;have ao:(cM R<|kept pr n).length=(kept pr n).length:=aV _;have ap:=dg.cP (Eg.cP (show Eg N (h3 (.ref i) (.ref r) f ag rl A (some<|.ref y) none none) (aC (aD .len)<|H (vr 6) aa) (iV (kept pr n).length) from ao▸.ec (.vr rfl) M (ai D)))<|ly<|ah (lB D P.n3) af;rw[lx] at ap;have nil:((List.range (kept pr n).length).map iV).flatMap (λZ=>([]:List V))=[]:=List.flatMap_eq_nil_iff.mpr λZ Z=>rfl
 have aq:=El.comp (S:=N) (k:=1) (js:=[5,4,6]) (t:=aj 3) (c':=c1 (aH .IsNot (ax (vr 2)<|vr 3)<|ax (vr 1)<|ax (vr 0)<|vr 3) aK) (b:=aR<|Mine.cst<|.int 1) (g:=λZ=>[]) ap (λZ Z=>trivial) (Y nil<|a6 _) λv m=>by
  refine ak (bS.mp m) λx O aW=>?_;clear m;obtain rfl:=aW;have Q:=cz.mp O;have ar:=ah (lB D P.n3) (by decide:3<=1000000);have as:=lt _<|gW Q;refine .if (e:=aH .IsNot (ax (vr 2)<|vr 3)<|ax (vr 1)<|ax (vr 0)<|vr 3) (.KA (a:=R (kept pr n)[x]) (.eY (.vr rfl) (.vr rfl) M ?_<|ao▸ar) (.eY (.vr rfl) (.eY (v:=iV (kept pr n)[x]) (.vr rfl) (.vr rfl) B ?_ ?_) w ?_ ?_)<|c.at_ _ as) b3 λZ=>rfl
  .unfold cM;refine Y List.getElem?_map<|Y (List.getElem?_eq_getElem Q) ?_;rfl
  .refine Y b9<|Y (cc Q) ?_;rfl
  .exact Y (aV ..) ar
  .unfold cM;refine Y List.getElem?_map<|Y (List.getElem?_range as) ?_;rfl
  .exact ah (nS (.refl _) P.n3) af
 rw[nil] at aq;exact .guard (.sN aq (.lst .nil<|a6 _) (λZ=>bw) λZ=>bw) (λz=>absurd rfl<|fB<|(hE _).mp z) λZ=>KP P B w c λE l' s=> .dz .cst ⟨rfl,s _ _ g⟩
end
theorem KV(P:Params):(Hd.ft P).all (λo=>o.cls != .type "list")=true:=by kernel_rfl
theorem zb{P:Params}{a:Addr}(h:a<645):∃o,(Hd.H1 P).get? a=some o/\o.cls≠.type "list":=by have z:=ar (λl=>l[a]?)<|wQ P;rw[b9,b9,h7 h] at z;exact(dY.mp z.symm).elim λo q=>⟨o,wR q.1,hG.mp<|e3.mp (KV P) o<|bI q.1⟩
theorem KW{h c:Heap}{a:Addr}{m:Str->Option Value}{o:Obj}(k:∀b o,h.get? b=some o->c.get? b=some o)(g:h.get? a=some o)(n:c.Ns a m):h.Ns a m:=by obtain⟨o',es,ep,e,r⟩:=n;obtain rfl:=aT<|(k _ _ g).symm.trans e;exact⟨o,es,ep,g,r⟩
theorem KX{p:Program}{lo:List Str}{mg mb:Str->Option Value}{P:Params}{h:Heap}(k:∀b o,(Hd.H1 P).get? b=some o->h.get? b=some o)(T:TopRead p lo mg mb h):TopRead p lo mg mb (Hd.H1 P):=by have b:∀{a m},a<645->h.Ns a m->(Hd.H1 P).Ns a m:=λl n=>(zb l).elim λo e=>KW k e.1 n;exact⟨b af T.g,b af T.b,T.nolimit.imp λc x=>⟨b af x.1,x.2⟩,T.builtins,T.free⟩
theorem KY{R:WRecords}{P:Params}{h:Heap}{xs:List WData}:∀{vs:List Value},(∀d∈xs,WShape.has R d .int=true)->WellAll P h vs xs->∃is:List Int,is.length=xs.length/\∀μ a,aA μ a (is.map V.int) vs:=by
 induction xs with
 |nil=>exactλe ws=>by cases ws;exact⟨[],rfl,λZ Z=> .nil⟩
 |cons d xs b=>
  intro vs e ws;refine jE (hasW_int<|e d<|.head _) λi hi=>?_;cases ws with|cons w ws=>
  refine ak (b (λd m=>e d<|.tail _ m) ws) λis c f=>?_;clear b ws e;subst hi;cases w;exact⟨i::is,ar Nat.succ c,λμ a=> .cons _ _ _ _ (.int _ _)<|f μ a⟩
theorem KZ{xs:List WData}(h:Hd.lw.row.toRowW.pre.holds Hd.lw.row.toRowW.records {args:=[.list xs]}=true):xs.length<=63:=by
 refine Decidable.byContradiction λc=>?_;have d:decide ((63:Int)<xs.length)=true:=bJ<|ij.mpr<|Nat.lt_of_not_le c;have e:Hd.lw.row.toRowW.pre.value Hd.lw.row.toRowW.records {args:=[.list xs]}=WTm.value [] (.and (.not<|.lit<|.bool<|decide<|(63:Int)<xs.length)<|.lit<|.bool true) {args:=[]}:=by kernel_rfl
 unfold WTm.holds at h;rw[e,d] at h;exact b3 h
theorem K0(P:Params):nsIn (hK P) mainGlobals "law"=some (some (.ref 644)):=by kernel_rfl
noncomputable abbrev cl:=Hd.lw.row.toRowW.claim
theorem K1{P:Params}{h:Heap}{args:List WData}{vals:List Value}(hp:cl.pre args=true)(g:WellAll P h vals args):
  ∃b vs,vals=[.ref b]/\h.get? b=some (dM vs 0)/\(∃is:List Int,is.length<=aF/\∀μ i,aA μ i (is.map V.int) vs.toList)/\cl.post args (.bool true) args=true:=by
 refine jA (pre_splitW hp) λa j=>?_;clear hp;refine b6 (hasAllW_cons a) λd r e c f=>?_;have k:=hasAllW_nil f;refine ak (hasW_list c) λxs l m=>?_;clear a c f;subst k l e;cases g with|cons n o=>
 cases o
 cases n with|list p ws=>
 exact⟨_,_,rfl,p,(KY (hasItemsW_at m) ws).imp λis q=>⟨by exact Y q.1<|ah (KZ j) af,q.2⟩,by kernel_rfl⟩
theorem base{w:World}{p:Program}{lo:List Str}{mg mb:Str->Option Value}{T:TopRead p lo mg mb (Hd.H1 w.params)}{h:Heap}{b:Addr}{vs:Array Value}(g:Hd.YP w h)(d:h.get? b=some (dM vs 0)):St (gK w p lo mg mb T) [(b,b)] [.const vs 0] h:=by
 have f:645<=b:=eS λc=>ak (zb (P:=w.params) c) λo' e z=>z<|Y (aT<|(g _ _ e).symm.trans d) rfl;have sz:(gK w p lo mg mb T).B.objs.size=645:=absHeap_size _ _ _;refine⟨rfl,g,sz▸ah f (c2<|bA d),λp m=>Y (a3.mp m)<|Y sz ⟨f,f⟩,λi j p q e e' ne=>?_,λi o a c e e'=>?_⟩
 .exact absurd ((Nat.lt_one_iff.mp (cN.mp e).1).trans (Nat.lt_one_iff.mp (cN.mp e').1).symm) ne
 .obtain rfl:=Nat.lt_one_iff.mp (cN.mp e).1;cases e;cases e';exact .const _ _ d rfl
theorem K2{S:aN}{a:Lay}{c:ai}{b:Addr}{vs:Array Value}{h:Heap}(st:St S a c h)(e:a[0]? =some (b,b))(p:c[0]? =some (.const vs 0)):h.get? b=some (dM vs 0):=by have r:=st.obj 0 _ _ _ p e;cases r with|const Z Z g Z=>exact g
theorem walk:WalkO Hd.q Hd.loose (λZ Z=>True) Hd.YP Hd.lw.row.toRowW Hd.dr [] λf vs=>PySem.call f vs:=by
 intro w s₀ s₁ mg mb G d a o I cd J L M N hd O P hm s args vals as u Q R y U;refine dE (K1 u y) λb vs ev h hi A=>?_;refine ak hi λis B C=>?_;have T:=KX d<|topRead_of G.T;have D:a=644:=Value.ref.inj<|aT<|(show mg Hd.dr.name=some (.ref a) from hm).symm.trans<|mg_of (j3 _) T.g<|K0 w.params;have K:=G3 (T:=T) λn=>HJ n;refine Y D<|Y ev ?_
 refine wpAny_call (Known.spec K 22 644 callerA ⟨rfl,by decide,by decide⟩ [(b,b)] [.const vs 0] s₁ [.ref 0] [.ref b] (λv j=>v= .bool true/\j[0]? =some (.const vs 0)) _ (base d h) (.cons _ _ _ _ (.ref 0 b b rfl) .nil)
  (KU (k:=0) (S:=upd (λZ=>none) 0 (.const vs 0)) (i:=0) (m:=0) aJ (is:=is) C B _ (λi o e=>?_) _ λv V W q g=>⟨q.1,g _ _ q.2⟩) λx X r=>?_)
 .unfold upd at e;split at e
  .rename_i z;exact Y z e
  .exact a4 e
 .cases r with|mk aa v j E t r p=>
  rw[p.1] at r;have F:x= .bool true:=by cases r;rfl
  refine Y F ⟨.inl ⟨_,_,_,rfl,λZ=>rfl,.bool true,A,λZ=>⟨.nil,nofun⟩⟩,.of_keep λc o e=>?_,t.os,.of_eq<|t.gens.trans s⟩;by_cases f:c=b
  .rw[f] at e⊢;exact Y (K2 E (t.lay 0 _ rfl) p.2)<|Y h.symm e
  .refine t.keep c o e (λz=>?_) id;cases z with
   |l p m q=>exact f<|q.trans<|ar Prod.fst<|a3.mp m
   |r p m q=>exact f<|q.trans<|ar Prod.snd<|a3.mp m
theorem holds:Hd.lw.Holds:=Hd.holds_of walk
end Mine
theorem PySem.Challenge.cw_pq0092_01_holds : PySem.Challenge.rw_pq0092_01.Holds :=
  Mine.holds
