import PyProof.Rows.All
import Wide.All
import OpenK.AllK
import Wide.FinOn
import PySem.Challenge.RW_pq0592_01
set_option Elab.async false
set_option autoImplicit false
set_option linter.all false
set_option maxRecDepth 100000
set_option bootstrap.genMatcherCode false
set_option genSizeOf false
set_option genInjectivity false
set_option genCtorIdx false
set_option tactic.hygienic false
namespace Mine
def xC:type_of%@List.findIdx?_eq_some_iff_getElem:=@List.findIdx?_eq_some_iff_getElem
def xw:type_of%@List.eq_nil_of_length_eq_zero:=@List.eq_nil_of_length_eq_zero
def h6{α:Type _}{l:List α}{i:Nat}{a:α}:l[i]? =some a->∃h,l[i]'h=a:=List.getElem?_eq_some_iff.mp
def w4:type_of%@List.countP_eq_length_filter:=@List.countP_eq_length_filter
def hT{α:Type _}{x:Option α}:x.isSome=true->∃a,x=some a:=Option.isSome_iff_exists.mp
def wn:type_of%@List.getElem?_append_right:=@List.getElem?_append_right
def nr:type_of%@List.getElem?_append_left:=@List.getElem?_append_left
def ve:type_of%@List.exists_mem_of_ne_nil:=@List.exists_mem_of_ne_nil
def ji:type_of%@List.getElem?_eq_getElem:=@List.getElem?_eq_getElem
def vI:type_of%@Nat.succ_add_eq_add_succ:=@Nat.succ_add_eq_add_succ
def vA:type_of%@List.filter_cons_of_neg:=@List.filter_cons_of_neg
def xD:type_of%@List.filter_cons_of_pos:=@List.filter_cons_of_pos
def tN:type_of%@List.pairwise_singleton:=@List.pairwise_singleton
def xI:type_of%@Int.eq_ofNat_of_zero_le:=@Int.eq_ofNat_of_zero_le
def nz:type_of%@Nat.lt_add_of_pos_right:=@Nat.lt_add_of_pos_right
def pL:type_of%@List.mem_singleton_self:=@List.mem_singleton_self
def yL:type_of%@List.length_eq_zero_iff:=@List.length_eq_zero_iff
def vK:type_of%@List.find?_cons_of_pos:=@List.find?_cons_of_pos
def k3:type_of%@Nat.le_of_add_right_le:=@Nat.le_of_add_right_le
def vb:type_of%@List.append_eq_nil_iff:=@List.append_eq_nil_iff
def i1:type_of%@List.mem_append_right:=@List.mem_append_right
def bT{α:Type _}{a b:α}:a∈[b]->a=b:=List.mem_singleton.mp
def p0:type_of%@Nat.le_of_ble_eq_true:=@Nat.le_of_ble_eq_true
def rb:type_of%@List.mem_iff_getElem?:=@List.mem_iff_getElem?
def dL:type_of%@List.mem_of_getElem?:=@List.mem_of_getElem?
def jh:type_of%@List.mem_append_left:=@List.mem_append_left
def bQ:type_of%@List.mem_cons_of_mem:=@List.mem_cons_of_mem
def mL:type_of%@List.forall_mem_cons:=@List.forall_mem_cons
def vz:type_of%@Nat.not_succ_le_zero:=@Nat.not_succ_le_zero
def vE:type_of%@List.length_take_le':=@List.length_take_le'
def fm:type_of%@Nat.add_le_add_right:=@Nat.add_le_add_right
def vv:type_of%@Option.some_ne_none:=@Option.some_ne_none
def hh{α:Type _}{p:α->Bool}{l:List α}:l.all p=true->∀x,x∈l->p x=true:=List.all_eq_true.mp
def tM:type_of%@List.map_congr_left:=@List.map_congr_left
def hB:type_of%@Nat.add_le_add_left:=@Nat.add_le_add_left
def p8{α:Type _}{a:α}{l:List α}:a∉l/\l.Nodup->(a::l).Nodup:=List.nodup_cons.mpr
def m4:type_of%@Nat.mul_le_mul_left:=@Nat.mul_le_mul_left
def nS:type_of%@List.mem_map_of_mem:=@List.mem_map_of_mem
def va:type_of%@List.Sublist.subset:=@List.Sublist.subset
def bp:type_of%@List.mem_cons_self:=@List.mem_cons_self
def c7:type_of%@Nat.lt_of_lt_of_le:=@Nat.lt_of_lt_of_le
def c1:type_of%@Nat.lt_of_le_of_lt:=@Nat.lt_of_le_of_lt
def rT:type_of%@Nat.add_right_comm:=@Nat.add_right_comm
def hI{α:Type _}{a:α}{l:List α}:(a::l).Nodup->a∉l/\l.Nodup:=List.nodup_cons.mp
def er:type_of%@List.length_append:=@List.length_append
def tQ:type_of%@List.mem_singleton:=@List.mem_singleton
def pP{α:Type _}{p:α->Bool}{a:α}{l:List α}:a∈l.filter p->a∈l/\p a=true:=List.mem_filter.mp
def gc{α:Type _}{a:α}{s t:List α}:a∈s++t->a∈s\/a∈t:=List.mem_append.mp
def qb:type_of%@Int.natCast_nonneg:=@Int.natCast_nonneg
def kU:type_of%@List.nodup_append:=@List.nodup_append
def iG:type_of%@List.append_assoc:=@List.append_assoc
def pC:type_of%@Nat.le_of_lt_succ:=@Nat.le_of_lt_succ
def mJ:type_of%@Bool.eq_false_iff:=@Bool.eq_false_iff
def nw:type_of%@List.getElem?_map:=@List.getElem?_map
def oy:type_of%@Nat.lt_succ_of_lt:=@Nat.lt_succ_of_lt
def oC:type_of%@Bool.not_eq_true':=@Bool.not_eq_true'
def rZ:type_of%@Nat.le_succ_of_le:=@Nat.le_succ_of_le
def pJ:type_of%@Nat.lt_succ_of_le:=@Nat.lt_succ_of_le
def tY:type_of%@List.length_range:=@List.length_range
def ui:type_of%@List.cons_eq_cons:=@List.cons_eq_cons
def lN:type_of%@Nat.zero_lt_of_lt:=@Nat.zero_lt_of_lt
def dw:type_of%@of_decide_eq_true:=@of_decide_eq_true
def nv:type_of%@List.all_eq_true:=@List.all_eq_true
def kX:type_of%@Nat.succ_le_succ:=@Nat.succ_le_succ
def qB:type_of%@Nat.succ_ne_zero:=@Nat.succ_ne_zero
def hx{n m:Nat}:n<m->(n:Int)<m:=Int.ofNat_lt.mpr
def b4:type_of%@List.not_mem_nil:=@List.not_mem_nil
def cR{α:Type _}{a b:α}{l:List α}:a∈b::l->a=b\/a∈l:=List.mem_cons.mp
def i2{α β:Type _}{b:β}{f:α->β}{l:List α}:(∃a,a∈l/\f a=b)->b∈l.map f:=List.mem_map.mpr
def cT:type_of%@Nat.le_add_right:=@Nat.le_add_right
def tX:type_of%@Nat.succ_lt_succ:=@Nat.succ_lt_succ
def tZ:type_of%@Option.bind_some:=@Option.bind_some
def uc:type_of%@List.isEmpty_iff:=@List.isEmpty_iff
def p2:type_of%@List.any_eq_true:=@List.any_eq_true
def oY:type_of%@Nat.lt_succ_self:=@Nat.lt_succ_self
def vf:type_of%@List.filter_cons:=@List.filter_cons
def br:type_of%@Option.some.inj:=@Option.some.inj
def ew:type_of%@List.append_nil:=@List.append_nil
def qz:type_of%@List.mem_append:=@List.mem_append
def c2:type_of%@List.length_map:=@List.length_map
def iI:type_of%@List.map_append:=@List.map_append
def e3{α β:Type _}{b:β}{f:α->β}{l:List α}:b∈l.map f->∃a,a∈l/\f a=b:=List.mem_map.mp
def qR:type_of%@Bool.or_eq_true:=@Bool.or_eq_true
def r8:type_of%@List.mem_filter:=@List.mem_filter
def ua:type_of%@Nat.not_lt_zero:=@Nat.not_lt_zero
def co:type_of%@decide_eq_false:=@decide_eq_false
def lv{n m:Nat}:m<=n->¬n<m:=Nat.not_lt.mpr
def pK:type_of%@List.mem_range:=@List.mem_range
def lg:type_of%@Nat.add_le_add:=@Nat.add_le_add
def cj:type_of%@decide_eq_true:=@decide_eq_true
def pE:type_of%@List.mem_cons:=@List.mem_cons
def i0:type_of%@Nat.add_assoc:=@Nat.add_assoc
def k0:type_of%@Int.ofNat.inj:=@Int.ofNat.inj
def nq:type_of%@Nat.succ.inj:=@Nat.succ.inj
def cP:type_of%@Nat.le_of_eq:=@Nat.le_of_eq
def a3:type_of%@Nat.le_trans:=@Nat.le_trans
def ow:type_of%@Nat.zero_add:=@Nat.zero_add
def dV:type_of%@Nat.ne_of_lt:=@Nat.ne_of_lt
def ec:type_of%@Nat.lt_trans:=@Nat.lt_trans
def jC:type_of%@List.map_map:=@List.map_map
def hj:type_of%@Nat.le_of_lt:=@Nat.le_of_lt
def qJ:type_of%@Int.ofNat_lt:=@Int.ofNat_lt
def pI:type_of%@Nat.succ_pos:=@Nat.succ_pos
def dd:type_of%@Nat.ne_of_gt:=@Nat.ne_of_gt
def m9:type_of%@Nat.add_comm:=@Nat.add_comm
def kQ:type_of%@Prod.mk.inj:=@Prod.mk.inj
def jB:type_of%@Nat.zero_le:=@Nat.zero_le
def gF:type_of%@Nat.le_refl:=@Nat.le_refl
def j1:type_of%@Nat.le_succ:=@Nat.le_succ
def pG:type_of%@Int.not_le:=@Int.not_le
def gu:type_of%@Eq.trans:=@Eq.trans
def ai:type_of%@congrArg:=@congrArg
def iY:type_of%@Eq.symm:=@Eq.symm
def bg:type_of%@if_pos:=@if_pos
def bI:type_of%@if_neg:=@if_neg
theorem bu{α:Sort _}{a b c:α}(h:a=b)(k:a=c):b=c:=h.symm.trans k
noncomputable abbrev aa:=PySem.Str.ofString
section
set_option backward.match.sparseCases false
open PySem (Str)
@[elab_as_elim] def V{α:Sort _}{a b:α}{P:α->Prop}(h:a=b)(k:P b):P a:=h▸k
@[elab_as_elim] def eF{α:Sort _}{a b:α}{P:α->Prop}(h:a=b)(k:P a):P b:=h▸k
def bj{α:Type}{a:α}{R:Prop}(h:none=some a):R:=nomatch h
def b8{R:Prop}(h:false):R:=Bool.noConfusion h
def dC{α β:Type}{a c:α}{b d:β}(h:some (a,b)=some (c,d)):a=c/\b=d:=kQ<|br h
def kk{α β kR:Type}{a d:α}{b e:β}{c f:kR}(h:some (a,b,c)=some (d,e,f)):a=d/\b=e/\c=f:=⟨(dC h).1,kQ (dC h).2⟩
def dJ{a b:Bool}(h:a)(k:b):(a&&b)=true:=by subst h;exact k
def bP{a b:Bool}(h:(a&&b)=true):a:=((Bool.and_eq_true _ _).mp h).1
def cN{a b:Bool}(h:(a&&b)=true):b:=((Bool.and_eq_true _ _).mp h).2
def jx{α β:Type}{a c:α}{b d:β}{R:Prop}(h:(a,b)=(c,d))(k:a=c->b=d->R):R:=k (kQ h).1 (kQ h).2
def h2{α:Type}{a b:α}{l m:List α}{R:Prop}(h:a::l=b::m)(k:a=b->l=m->R):R:=k (List.cons.inj h).1 (List.cons.inj h).2
def xj{α:Type}{p:α->Bool}{a:α}{l:List α}{r:Option α}(h:p a=false)(k:l.find? p=r):(a::l).find? p=r:=(List.find?_cons_of_neg λq=>b8<|bu h q).trans k
def mE{a b:Nat}{R:Prop}(h:a=b)(e:Nat.beq a b=false):R:=b8<|bu e<|h▸Nat.beq_refl a
set_option genInjectivity true in
inductive I where
 |none
 |bool (b:Bool)
 |int (i:Int)
 |str (s:Str)
 |ak (l:List I)
 |L (a:Nat)
noncomputable def I.ctorIdx(x:I):Nat:=I.casesOn x 0 (λB=>1) (λB=>2) (λB=>3) (λB=>4)<|λB=>5
mutual
noncomputable def I.beq:I->I->Bool
 |.none,.none=>true
 |.bool a,.bool b=>a==b
 |.int a,.int b=>a==b
 |.str a,.str b=>a==b
 |.ak a,.ak b=>I.rJ a b
 |.L a,.L b=>a==b
 |B,cq=>false
noncomputable def I.rJ:List I->List I->Bool
 |[],[]=>true
 |a::as,b::bs=>I.beq a b&&I.rJ as bs
 |B,cq=>false
end
mutual
theorem I.HJ:∀a b:I,I.beq a b->a=b
 |.none,b,h=>by
  cases b with
  |none=>rfl
  |_=>exact b8 h
 |.bool a,b,h=>by
  cases b with
  |bool b=>exact ai I.bool<|eq_of_beq h
  |_=>exact b8 h
 |.int a,b,h=>by
  cases b with
  |int b=>exact ai I.int<|eq_of_beq h
  |_=>exact b8 h
 |.str a,b,h=>by
  cases b with
  |str b=>exact ai I.str<|eq_of_beq h
  |_=>exact b8 h
 |.ak a,b,h=>by
  cases b with
  |ak b=>exact ai I.ak<|I.CZ a b h
  |_=>exact b8 h
 |.L a,b,h=>by
  cases b with
  |L b=>exact ai I.L<|eq_of_beq h
  |_=>exact b8 h
theorem I.CZ:∀a b:List I,I.rJ a b->a=b
 |[],b,h=>by
  cases b with
  |nil=>rfl
  |cons=>exact b8 h
 |a::as,b,h=>by
  cases b with
  |nil=>exact b8 h
  |cons b bs=>exact congr (ai List.cons<|I.HJ a b<|bP h)<|I.CZ as bs<|cN h
end
mutual
theorem I.HK:∀a:I,I.beq a a=true
 |.none=>rfl
 |.bool a=>beq_self_eq_true a
 |.int a=>beq_self_eq_true a
 |.str a=>beq_self_eq_true a
 |.ak l=>I.C0 l
 |.L a=>beq_self_eq_true a
theorem I.C0:∀l:List I,I.rJ l l=true
 |[]=>rfl
 |a::as=>dJ (I.HK a)<|I.C0 as
end
def I.C1(a b:I):I.beq a b=true↔a=b:=⟨I.HJ a b,λh=>h▸I.HK a⟩
def I.HL(a b:List I):I.rJ a b=true↔a=b:=⟨I.CZ a b,λh=>h▸I.C0 a⟩
noncomputable instance:DecidableEq I:=λa b=>decidable_of_iff _<|I.C1 a b
set_option genInjectivity true in
inductive b5 where
 |list (l:List I)
 |dict (l:List (I×I))
 |cO (c:Nat) (F:Nat->Option I)
noncomputable def b5.ctorIdx(x:b5):Nat:=b5.casesOn x (λB=>0) (λB=>1)<|λB B=>2
abbrev St:=List b5
abbrev bS:=Nat->Option I
noncomputable def ar(F:Nat->Option I)(i:Nat)(v:I):Nat->Option I:=λj=>if j=i then some v else F j
mutual
inductive od|add|sub|mul|fdiv|mF|dj|io|oe
inductive tv|eq|bw|lt|le|gt|ge|is|xk|dU|je
inductive vl|len|tuple|sorted|all|range
end
inductive of|aS (i:Nat)|iV (l:List Nat)
set_option genInjectivity true in
inductive b2 where
 |bc (v:I)
 |E (i:Nat)
 |ak (ax:List b2)
 |fi (ax:List b2)
 |l2
 |neg (e:b2)
 |tw (e:b2)
 |not (e:b2)
 |b6 (op:od) (a b:b2)
 |aK (op:tv) (a b:b2)
 |vm (og ng:tv) (a b c:b2)
 |and (a b:b2)
 |or (a b:b2)
 |ite (c a b:b2)
 |aZ (e:b2) (f:Nat)
 |av (e i:b2)
 |jf (e:b2) (ce ah:Option b2)
 |a5 (f:Nat) (args:List b2)
 |l3 (c:Nat) (args:List b2)
 |b1 (e:b2) (m:Nat) (args:List b2)
 |cw (b:vl) (e:b2)
 |comp (elt:b2) (cL:of) (cf:b2) (ifs:List b2)
 |jX (elt:b2) (cL:Nat) (cf:b2) (ifs:List b2)
inductive dA where
 |assign (cL:of) (e:b2)
 |setAttr (o:b2) (f:Nat) (e:b2)
 |setItem (o i:b2) (e:b2)
 |tx (i:Nat) (op:od) (e:b2)
 |rK (o:b2) (f:Nat) (op:od) (e:b2)
 |delItem (o i:b2)
 |xl (o ce:b2)
 |ite (c:b2) (a b:List dA)
 |gQ (cL:of) (cf:b2) (body:List dA)
 |ip (cL:Nat) (cf:b2) (body:List dA)
 |pw (c:b2) (body:List dA)
 |ret (e:b2)
 |xm
 |expr (e:b2)
 |fA
inductive eG|next|ret (v:I)
structure fq where
 np:Nat
 hH:List I
 body:List dA
structure jy where
 px:List fq
 b1:Nat->Nat->Option Nat
 init:Nat->Option Nat
noncomputable def py:Nat:=0
noncomputable def rL:Nat:=1
noncomputable def xn:Nat:=2
noncomputable def zA:Nat:=3
noncomputable def e9(s:Str):Bool:=decide (s.cps.size<=1000)&&s.cps.toList.all λc=>decide<|c<128
mutual
noncomputable def I.hs:Nat->I->Bool
 |B,.int cq=>true
 |B,.str s=>e9 s
 |n+1,.ak l=>I.gR n l
 |B,cq=>false
noncomputable def I.gR:Nat->List I->Bool
 |B,[]=>true
 |n,a::as=>I.hs n a&&I.gR n as
end
noncomputable def I.key(v:I):Bool:=I.hs 6 v
noncomputable def I.iW(l:List I):Bool:=I.gR 6 l
noncomputable def lim:Int:=4611686018427387904
noncomputable def g4(C:St):I->Option Bool
 |.bool b=>some b
 |.int i=>some<|decide<|i≠0
 |.ak l=>some<|!l.isEmpty
 |.L a=>match C[a]?with
  |some (.list l)=>some<|!l.isEmpty
  |_=>none
 |_=>none
noncomputable def ty(C:St):I->I->Option Bool
 |.bool a,.bool b=>some<|a==b
 |.L a,.L b=>match C[a]?,C[b]?with
  |some (.list l),some (.list m)=>if I.iW l&&I.iW m then some (decide<|l=m)else none
  |B,cq=>none
 |a,b=>if I.key a&&I.key b then some (decide<|a=b)else none
noncomputable def nh:I->Nat
 |.int B=>0
 |.str B=>1
 |.ak B=>2
 |_=>3
noncomputable def e2(l:List (I×I))(k:I):Bool:=I.key k&&l.all λp=>nh p.1==nh k
noncomputable def cD(l:List (I×I))(k:I):Option I:=(l.find? λp=>decide<|p.1=k).map (·.2)
noncomputable def fB(l:List (I×I))(k v:I):List (I×I):=if(cD l k).isSome then l.map (λp=>if p.1=k then(p.1,v)else p)else l++[(k,v)]
noncomputable def mG(l:List (I×I))(k:I):List (I×I):=l.filter λp=>decide<|p.1≠k
noncomputable def l4(C:St)(x:I):I->Option Bool
 |.ak l=>if I.key x&&I.iW l then some (decide<|x∈l)else none
 |.L a=>match C[a]?with
  |some (.list l)=>if I.key x&&I.iW l then some (decide<|x∈l)else none
  |some (.dict l)=>if e2 l x then some (cD l x).isSome else none
  |_=>none
 |_=>none
noncomputable def d0(C:St)(op:tv)(x y:I):Option Bool:=
 match op with
 |.eq=>ty C x y
 |.bw=>(ty C x y).map (!·)
 |.lt=>match x,y with|.int a,.int b=>some (decide<|a<b)|_,_=>none
 |.le=>match x,y with|.int a,.int b=>some (decide<|a<=b)|_,_=>none
 |.gt=>match x,y with|.int a,.int b=>some (decide<|b<a)|_,_=>none
 |.ge=>match x,y with|.int a,.int b=>some (decide<|b<=a)|_,_=>none
 |.is=>match y with|.none=>some (decide<|x=.none)|_=>none
 |.xk=>match y with|.none=>some (decide<|x≠.none)|_=>none
 |.dU=>l4 C x y
 |.je=>(l4 C x y).map (!·)
noncomputable def HM(op:od)(a b:Int)(C:St):Option (I×St):=
 match op with
 |.add=>some (.int<|a+b,C)
 |.sub=>some (.int<|a-b,C)
 |.mul=>if-lim<a/\a<lim/\-lim<b/\b<lim then some (.int<|a*b,C)else none
 |.fdiv=>if 0<b/\b<lim then some (.int<|a.fdiv b,C)else none
 |.mF=>if 0<b then some (.int<|a.fmod b,C)else none
 |.dj=>some (.int<|PySem.Builtin.bitAnd a b,C)
 |.io=>some (.int<|PySem.Builtin.bitOr a b,C)
 |.oe=>if 0<=b then some (.int<|a.fdiv<|2^b.toNat,C)else none
noncomputable def C2(op:od)(r:Option (I×St)):Option (I×St):=match op with|.add=>r|_=>none
noncomputable def vn(C:St)(a:Nat):Option (List I):=match C[a]?with|some (.list l)=>some l|_=>none
noncomputable def iF(op:od)(x y:I)(C:St):Option (I×St):=
 match x with
 |.int a=>(match y with|.int b=>HM op a b C|_=>none)
 |.ak a=>(match y with|.ak b=>C2 op (if a.length+b.length<=16000000 then some (.ak<|a++b,C)else none)|_=>none)
 |.L a=>(match y with
  |.L b=>C2 op<|(vn C a).bind λl=>(vn C b).bind λm=>if l.length+m.length<=16000000 then some (.L C.length,C++[.list<|l++m])else none
  |_=>none)
 |_=>none
noncomputable def jY(i:Int)(n:Nat):Option Nat:=if 0<=i/\i<n then some i.toNat else if i<0/\0<=i+n then some (i+n).toNat else none
noncomputable def fj(C:St):I->I->Option I
 |.ak l,.int i=>(jY i l.length).bind (l[·]?)
 |.str s,.int i=>if 0<=i/\i<s.cps.size/\i<16000000 then(s.cps[i.toNat]?).map λc=>.str ⟨#[c]⟩else none
 |.L a,k=>match C[a]?with
  |some (.list l)=>match k with|.int i=>(jY i l.length).bind (l[·]?)|_=>none
  |some (.dict l)=>if e2 l k then cD l k else none
  |_=>none
 |B,cq=>none
noncomputable def ni(i:Int)(n:Nat):Nat:=if i<0 then(i+n).toNat else min i.toNat n
noncomputable def pz(l:List I)(ce ah:Option Int):List I:=
 let a:=match ce with|none=>0|some i=>ni i l.length
 let b:=match ah with|none=>l.length|some i=>ni i l.length
 (l.take b).drop a
noncomputable def l5:Option I->Option (Option Int)
 |none=>some none
 |some (.int i)=>if-lim<i/\i<lim then some (some i)else none
 |_=>none
noncomputable def nj(x:I)(ce ah:Option I)(C:St):Option (I×St):=
 match l5 ce,l5 ah with
 |some a,some b=>match x with
  |.ak l=>some (.ak<|pz l a b,C)
  |.L o=>match C[o]?with
   |some (.list l)=>some (.L C.length,C++[.list<|pz l a b])
   |_=>none
  |_=>none
 |B,cq=>none
noncomputable def hd(b1:Nat->Nat->Option Nat)(C:St)(f:Nat):I->Option I
 |.L a=>match C[a]?with
  |some (.cO c F)=>if b1 c f=none then F f else none
  |_=>none
 |_=>none
noncomputable def xo:List I->Option (List Int)
 |[]=>some []
 |.int i::r=>(xo r).map (i::·)
 |_=>none
noncomputable def C3:List I->Option (List Str)
 |[]=>some []
 |.str i::r=>(C3 r).map (i::·)
 |_=>none
noncomputable def qu(x:Int):List Int->List Int
 |[]=>[x]
 |y::r=>if x<=y then x::y::r else y::qu x r
noncomputable def vo:List Int->List Int
 |[]=>[]
 |x::r=>qu x<|vo r
noncomputable def zB:List Str->Bool
 |[]=>true
 |[B]=>true
 |a::b::r=>decide (a.cps.toList<b.cps.toList)&&zB (b::r)
noncomputable def tz(l:List I):Option (List I):=
 if l.length<64 then(match xo l with
  |some is=>some<|(vo is).map .int
  |none=>(C3 l).bind λss=>if zB ss then some l else none)else none
noncomputable def kS(b:vl)(x:I)(C:St):Option (I×St):=
 match b with
 |.range=>none
 |.len=>match x with
  |.ak l=>some (.int l.length,C)
  |.L a=>match C[a]?with
   |some (.list l)=>some (.int l.length,C)
   |_=>none
  |_=>none
 |.tuple=>match x with
  |.ak l=>some (.ak l,C)
  |.L a=>match C[a]?with
   |some (.list l)=>some (.ak l,C)
   |_=>none
  |_=>none
 |.sorted=>match x with
  |.L a=>match C[a]?with
   |some (.dict l)=>(tz (l.map (·.1))).map λr=>(.L C.length,C++[.list r])
   |_=>none
  |_=>none
 |.all=>match x with
  |.L a=>match C[a]?with
   |some (.list l)=>if l.all (λv=>match v with|.bool _=>true|_=>false)then some (.bool<|l.all λv=>v==.bool true,C)else none
   |_=>none
  |_=>none
abbrev xp:=Nat->List I->St->Option (I×St)
noncomputable def mH(a:Nat)(m:Nat)(args:List I)(C:St):Option (I×St):=
 match C[a]?with
 |some (.list l)=>
  if a=0 then none
  else if m=py then(match args with
   |[v]=>if l.length<16000000 then some (.none,C.set a<|.list<|l++[v])else none
   |_=>none)
  else if m=rL then(match args,l.getLast? with
   |[],some v=>some (v,C.set a<|.list l.dropLast)
   |B,cq=>none)
  else if m=xn then(match args with
   |[.L b]=>if a=b then none else(match C[b]?with
    |some (.list r)=>if l.length+r.length<16000000 then some (.none,C.set a<|.list<|l++r)else none
    |_=>none)
   |_=>none)
  else none
 |_=>none
noncomputable def qv(a:Nat)(m:Nat)(args:List I)(C:St):Option (I×St):=
 match C[a]?with
 |some (.dict l)=>
  if m=zA then(match args with
   |[k]=>if e2 l k then some ((cD l k).getD .none,C)else none
   |[k,d]=>if e2 l k then some ((cD l k).getD d,C)else none
   |_=>none)
  else none
 |_=>none
noncomputable def gq(cL:of)(v:I)(H:bS):Option bS:=
 match cL,v with
 |.aS i,v=>some<|ar H i v
 |.iV is,.ak vs=>if is.length=vs.length then some ((is.zip vs).foldl (λr p=>ar r p.1 p.2) H)else none
 |.iV B,cq=>none
noncomputable def nk(C:St):I->Option (List I×Option Nat)
 |.ak l=>some (l,none)
 |.L a=>match C[a]?with
  |some (.list l)=>some (l,some a)
  |_=>none
 |_=>none
noncomputable def hg(C:St)(cf:Option Nat)(l:List I):Bool:=
 match cf with
 |none=>true
 |some a=>match C[a]?with
  |some (.list m)=>decide<|m=l
  |_=>false
noncomputable def qw(n:Int):List I:=(List.range n.toNat).map λk:Nat=>I.int (k:Int)
noncomputable def iq(en:St->Bool)(de:I->St->Option (Option I×St)):List I->St->Option (List I×St)
 |[],C=>if en C then some ([],C)else none
 |x::xs,C=>if en C then(match de x C with
   |none=>none
   |some (y,aw)=>match iq en de xs aw with
    |none=>none
    |some (ys,bn)=>some (y.toList++ys,bn))else none
noncomputable def fX(en:St->Bool)(de:I->bS->St->Option (eG×bS×St)):List I->bS->St->Option (eG×bS×St)
 |[],H,C=>if en C then some (.next,H,C)else none
 |x::xs,H,C=>if en C then(match de x H C with
   |none=>none
   |some (.ret v,cg,aw)=>some (.ret v,cg,aw)
   |some (.next,cg,aw)=>fX en de xs cg aw)else none
noncomputable def kT(test:bS->St->Option (Bool×St))(body:bS->St->Option (eG×bS×St)):Nat->bS->St->Option (eG×bS×St)
 |0,B,cq=>none
 |n+1,H,C=>match test H C with
  |none=>none
  |some (false,aw)=>some (.next,H,aw)
  |some (true,aw)=>match body H aw with
   |none=>none
   |some (.ret v,dr,bn)=>some (.ret v,dr,bn)
   |some (.next,dr,bn)=>kT test body n dr bn
noncomputable def zC:Nat:=16000000
structure ht where
 fn:xp
 make:xp
 b1:Nat->Nat->Option Nat
mutual
noncomputable def bq(O:ht):b2->bS->St->Option (I×St)
 |.bc v,B,C=>some (v,C)
 |.E i,H,C=>(H i).map λv=>(v,C)
 |.ak ax,H,C=>(iX O ax H C).bind λr=>some (.ak r.1,r.2)
 |.fi ax,H,C=>(iX O ax H C).bind λr=>some (.L r.2.length,r.2++[.list r.1])
 |.l2,B,C=>some (.L C.length,C++[.dict []])
 |.neg e,H,C=>(bq O e H C).bind λr=>match r.1 with|.int i=>some (.int<|-i,r.2)|_=>none
 |.tw e,H,C=>(bq O e H C).bind λr=>match r.1 with|.int i=>some (.int<|PySem.Builtin.bitNot i,r.2)|_=>none
 |.not e,H,C=>(bq O e H C).bind λr=>(g4 r.2 r.1).bind λb=>some (.bool<|!b,r.2)
 |.b6 op a b,H,C=>(bq O a H C).bind λr=>(bq O b H r.2).bind λq=>iF op r.1 q.1 q.2
 |.aK op a b,H,C=>(bq O a H C).bind λr=>(bq O b H r.2).bind λq=>(d0 q.2 op r.1 q.1).bind λt=>some (.bool t,q.2)
 |.vm og ng a b c,H,C=>(bq O a H C).bind λr=>(bq O b H r.2).bind λq=>(d0 q.2 og r.1 q.1).bind λt=>if t then(bq O c H q.2).bind λu=>(d0 u.2 ng q.1 u.1).bind λt=>some (.bool t,u.2)else some (.bool false,q.2)
 |.and a b,H,C=>(bq O a H C).bind λr=>(g4 r.2 r.1).bind λt=>if t then bq O b H r.2 else some r
 |.or a b,H,C=>(bq O a H C).bind λr=>(g4 r.2 r.1).bind λt=>if t then some r else bq O b H r.2
 |.ite c a b,H,C=>(bq O c H C).bind λr=>(g4 r.2 r.1).bind λt=>if t then bq O a H r.2 else bq O b H r.2
 |.aZ e f,H,C=>(bq O e H C).bind λr=>(hd O.b1 r.2 f r.1).map λv=>(v,r.2)
 |.av e i,H,C=>(bq O e H C).bind λr=>(bq O i H r.2).bind λq=>(fj q.2 r.1 q.1).map λv=>(v,q.2)
 |.jf e ce ah,H,C=>(bq O e H C).bind λr=>(vp O ce H r.2).bind λq=>(vp O ah H q.2).bind λu=>nj r.1 q.1 u.1 u.2
 |.a5 f args,H,C=>(iX O args H C).bind λr=>O.fn f r.1 r.2
 |.l3 c args,H,C=>(iX O args H C).bind λr=>O.make c r.1 r.2
 |.b1 e m args,H,C=>(bq O e H C).bind λr=>match r.1 with
  |.L a=>match r.2[a]?with
   |some (.cO c F)=>match F m,O.b1 c m with
    |none,some f=>(iX O args H r.2).bind λq=>O.fn f (.L a::q.1) q.2
    |B,cq=>none
   |some (.list B)=>(iX O args H r.2).bind λq=>mH a m q.1 q.2
   |some (.dict B)=>(iX O args H r.2).bind λq=>qv a m q.1 q.2
   |none=>none
  |_=>none
 |.cw b e,H,C=>(bq O e H C).bind λr=>kS b r.1 r.2
 |.comp elt cL cf ifs,H,C=>(bq O cf H C).bind λr=>(nk r.2 r.1).bind λit=>(iq (λs=>hg s it.2 it.1) (λx s=>(gq cL x H).bind λcg=>(gr O ifs cg s).bind λq=>if q.1 then(bq O elt cg q.2).bind λu=>some (some u.1,u.2)else some (none,q.2)) it.1 r.2).bind λu=>some (.L u.2.length,u.2++[.list u.1])
 |.jX elt i cf ifs,H,C=>(bq O cf H C).bind λr=>match r.1 with
  |.int n=>if 0<=n/\n<16000000 then(iq (λB=>true) (λx s=>(gr O ifs (ar H i x) s).bind λq=>if q.1 then(bq O elt (ar H i x) q.2).bind λu=>some (some u.1,u.2)else some (none,q.2)) (qw n) r.2).bind λu=>some (.L u.2.length,u.2++[.list u.1])else none
  |_=>none
noncomputable def iX(O:ht):List b2->bS->St->Option (List I×St)
 |[],B,C=>some ([],C)
 |e::ax,H,C=>(bq O e H C).bind λr=>(iX O ax H r.2).bind λq=>some (r.1::q.1,q.2)
noncomputable def vp(O:ht):Option b2->bS->St->Option (Option I×St)
 |none,B,C=>some (none,C)
 |some e,H,C=>(bq O e H C).bind λr=>some (some r.1,r.2)
noncomputable def gr(O:ht):List b2->bS->St->Option (Bool×St)
 |[],B,C=>some (true,C)
 |e::ax,H,C=>(bq O e H C).bind λr=>(g4 r.2 r.1).bind λt=>if t then gr O ax H r.2 else some (false,r.2)
end
noncomputable def jg(O:ht)(e:b2)(H:bS)(C:St):Option (Bool×St):=(bq O e H C).bind λr=>(g4 r.2 r.1).bind λt=>some (t,r.2)
noncomputable def jZ(b1:Nat->Nat->Option Nat)(C:St)(f:Nat)(v:I):I->Option St
 |.L a=>match C[a]?with
  |some (.cO c F)=>if a≠0/\b1 c f=none then some (C.set a<|.cO c<|ar F f v)else none
  |_=>none
 |_=>none
noncomputable def pA(C:St)(k v:I):I->Option St
 |.L a=>match C[a]?with
  |some (.list l)=>match k with
   |.int i=>if a≠0/\0<=i/\i<l.length then some (C.set a<|.list<|l.set i.toNat v)else none
   |_=>none
  |some (.dict l)=>if e2 l k&&decide (l.length<16000000)&&decide (a≠0)then some (C.set a<|.dict<|fB l k v)else none
  |_=>none
 |_=>none
noncomputable def tA(C:St)(k:I):I->Option St
 |.L a=>match C[a]?with
  |some (.dict l)=>if e2 l k&&(cD l k).isSome&&decide (a≠0)then some (C.set a<|.dict<|mG l k)else none
  |_=>none
 |_=>none
noncomputable def rM(C:St)(ce:I):I->Option St
 |.L a=>match C[a]?,ce with
  |some (.list l),.int i=>if a≠0/\0<=i/\i<=l.length then some (C.set a<|.list<|l.take i.toNat)else none
  |B,cq=>none
 |_=>none
mutual
noncomputable def cr(O:ht):dA->bS->St->Option (eG×bS×St)
 |.assign cL e,H,C=>(bq O e H C).bind λr=>(gq cL r.1 H).bind λcg=>some (.next,cg,r.2)
 |.setAttr o f e,H,C=>(bq O e H C).bind λr=>(bq O o H r.2).bind λq=>(jZ O.b1 q.2 f r.1 q.1).bind λs=>some (.next,H,s)
 |.setItem o i e,H,C=>(bq O e H C).bind λr=>(bq O o H r.2).bind λq=>(bq O i H q.2).bind λu=>(pA u.2 u.1 r.1 q.1).bind λs=>some (.next,H,s)
 |.tx i op e,H,C=>(H i).bind λv=>(bq O e H C).bind λr=>match v,r.1 with
  |.int B,.int cq=>(iF op v r.1 r.2).bind λq=>some (.next,ar H i q.1,q.2)
  |B,cq=>none
 |.rK o f op e,H,C=>(bq O o H C).bind λr=>(hd O.b1 r.2 f r.1).bind λv=>(bq O e H r.2).bind λq=>match v,q.1 with
  |.int B,.int cq=>(iF op v q.1 q.2).bind λu=>(jZ O.b1 u.2 f u.1 r.1).bind λs=>some (.next,H,s)
  |B,cq=>none
 |.delItem o i,H,C=>(bq O o H C).bind λr=>(bq O i H r.2).bind λq=>(tA q.2 q.1 r.1).bind λs=>some (.next,H,s)
 |.xl o ce,H,C=>(bq O o H C).bind λr=>(bq O ce H r.2).bind λq=>(rM q.2 q.1 r.1).bind λs=>some (.next,H,s)
 |.ite c a b,H,C=>(jg O c H C).bind λr=>if r.1 then cG O a H r.2 else cG O b H r.2
 |.gQ cL cf body,H,C=>(bq O cf H C).bind λr=>(nk r.2 r.1).bind λit=>fX (λs=>hg s it.2 it.1) (λx H s=>(gq cL x H).bind λcg=>cG O body cg s) it.1 H r.2
 |.ip i cf body,H,C=>(bq O cf H C).bind λr=>match r.1 with
  |.int n=>if 0<=n/\n<16000000 then fX (λB=>true) (λx H s=>cG O body (ar H i x) s) (qw n) H r.2 else none
  |_=>none
 |.pw c body,H,C=>kT (λH s=>jg O c H s) (λH s=>cG O body H s) zC H C
 |.ret e,H,C=>(bq O e H C).bind λr=>some (.ret r.1,H,r.2)
 |.xm,H,C=>some (.ret .none,H,C)
 |.expr e,H,C=>(bq O e H C).bind λr=>some (.next,H,r.2)
 |.fA,B,cq=>none
noncomputable def cG(O:ht):List dA->bS->St->Option (eG×bS×St)
 |[],H,C=>some (.next,H,C)
 |s::ss,H,C=>(cr O s H C).bind λr=>match r.1 with
  |.next=>cG O ss r.2.1 r.2.2
  |.ret v=>some (.ret v,r.2.1,r.2.2)
end
noncomputable def C4(np:Nat)(hH args:List I):Option bS:=
 if args.length<=np/\np<=args.length+hH.length then
  some λi=>(args++hH.drop (hH.length-(np-args.length)))[i]?
 else none
noncomputable def tB(O:ht)(fn:fq)(args:List I)(C:St):Option (I×St):=
 (C4 fn.np fn.hH args).bind λH=>(cG O fn.body H C).bind λr=>match r.1 with
  |.ret v=>some (v,r.2.2)
  |.next=>some (.none,r.2.2)
noncomputable def a0(P:jy):Nat->xp
 |0,B,cq,eE=>none
 |d+1,f,args,C=>(P.px[f]?).bind λfn=>tB
   {fn:=a0 P d,
    make:=match d with
     |0=>λB B B=>none
     |d+1=>λc args C=>match P.init c with
      |some f=>(a0 P d f (.L C.length::args)<|C++[.cO c λB=>none]).bind λr=>if r.1=.none then some (.L C.length,r.2)else none
      |none=>if args=[]then some (.L C.length,C++[.cO c λB=>none])else none
    b1:=P.b1} fn args C
theorem C5{a:Nat}:a<=(a+2):=by lia
theorem HN{a:Nat}:a<=(a+1):=by lia
theorem HO{a b:Nat}:a<=(a+b):=by lia
theorem HP{a b c:Nat}(h0:((a+(10*c))+300)<b):(a+65)<b:=by lia
theorem tC{a b c:Nat}(h0:a=c)(Y:c<=16000000)(ae:16000000<=b):a<=b:=by lia
theorem vq{a:Nat}:((a:Nat):Int)≠(-(1:Int)):=by lia
theorem HQ{a b c:Nat}(h0:a<c)(Y:c<b):a<b:=by lia
theorem C6{a b:Nat}(h0:(a+64)<b):(a+6)<b:=by lia
theorem Qa{a b:Nat}(h0:((a:Nat):Int)=((b:Nat):Int)):a=b:=by lia
theorem vr{a b:Nat}(h0:¬(b<a)):a<=b:=by lia
theorem Qb{a:Nat}:a<=(a+3):=by lia
theorem Qc{a b c:Nat}(h0:a=c)(Y:c<=b):a<=b:=by lia
theorem C7{a:Nat}:¬(((a:Nat):Int)<(0:Int)):=by lia
theorem HR{a:Nat}(h0:a<=1):(a=0)\/(a=1):=by lia
theorem Qd{a:Nat}:(a+1)<=(a+2):=by lia
theorem HS{a b c:Nat}(h0:a=c)(Y:b=c):a=b:=by lia
theorem Qe{a b c:Nat}(h0:a=c)(Y:c<16000000)(ae:16000000<=b):a<=b:=by lia
theorem HT{a b:Nat}(h0:a<=b):(a+(b-a))=b:=by lia
theorem HU{a b:Nat}(h0:a<b):((a:Nat):Int)<((b:Nat):Int):=by lia
theorem HV{a:Int}(h0:a<(0:Int)):¬((0:Int)<=a):=by lia
theorem HW{a b c:Nat}(h0:(a+(c+1))<b):a<b:=by lia
theorem Qf{a b c:Nat}(h0:(a+(b+1))<c):((a+1)+b)<c:=by lia
theorem HX{a b c d e:Nat}(h0:c<b)(Y:d<c)(ae:e<d)(ba:(a+8)<e):a<=b:=by lia
theorem xq{a b c d:Nat}:a<((((1+a)+b)+c)+d):=by lia
theorem zD{a b c d:Nat}:a<((((1+b)+c)+a)+d):=by lia
theorem C8{a b c:Nat}:a<(((1+b)+a)+c):=by lia
theorem zE{a b c:Nat}:a<(((1+a)+b)+c):=by lia
theorem HY{a b c d e:Nat}(h0:a=d)(Y:b=e)(ae:(d+e)<=16000000)(ba:16000000<=c):(a+b)<=c:=by lia
noncomputable abbrev U(n:Int):b2:=.bc (.int n)
section
open PySem (Str Expr Stmt NameKind)
inductive nl|val (v:I)|fn (f:Nat)|cls (c:Nat)|cw (b:vl)|qx
noncomputable def nl.ctorIdx(x:nl):Nat:=nl.casesOn x (λB=>0) (λB=>1) (λB=>2) (λB=>3) 4
noncomputable def aJ(x:Str):Nat:=(x.cps.toList.foldl (·+·) 0)%32
noncomputable def zF{α:Type}(t:List (List<|Str×α))(x:Str):Option α:=(t[aJ x]?).bind (·.lookup x)
structure gS where
 gl:Str->Option nl
 xr:Str->Option Nat
abbrev Sc:=List<|Str×NameKind
abbrev jz:=List<|Str×Nat
noncomputable def tD:PySem.Operator->Option od
 |.Add=>some .add|.Sub=>some .sub|.Mult=>some .mul|.FloorDiv=>some .fdiv|.Mod=>some .mF
 |.BitAnd=>some .dj|.BitOr=>some .io|.RShift=>some .oe|_=>none
noncomputable def xt:PySem.CmpOp->Option tv
 |.Eq=>some .eq|.NotEq=>some .bw|.Lt=>some .lt|.LtE=>some .le|.Gt=>some .gt|.GtE=>some .ge
 |.Is=>some .is|.IsNot=>some .xk|.In=>some .dU|.NotIn=>some .je
noncomputable def Qg:PySem.Const->Option I
 |.none=>some .none|.bool b=>some (.bool b)|.int i=>some (.int i)|.str s=>some (.str s)|_=>none
noncomputable def rN(aL:jz)(sc:Sc)(x:Str):Option Nat:=
 match sc.lookup x with
 |some .local|some .cell|some .free=>aL.lookup x
 |_=>none
noncomputable def oh(aL:jz)(sc:Sc)(x:Str):Option Nat:=
 match sc.lookup x with
 |some .local|some .cell=>aL.lookup x
 |_=>none
noncomputable def no(G:gS)(sc:Sc)(x:Str):Option nl:=
 match sc.lookup x with
 |some .globalImplicit=>G.gl x
 |_=>none
noncomputable def HZ(f:b2->b2->b2):List b2->Option b2
 |[]=>none
 |[e]=>some e
 |e::ax=>(HZ f ax).map<|f e
noncomputable def tE(aL:jz)(sc:Sc):List Expr->Option (List Nat)
 |[]=>some []
 |.Name x _::r=>(oh aL sc x).bind λi=>(tE aL sc r).map (i::·)
 |_=>none
noncomputable def mI(aL:jz)(sc:Sc):Expr->Option of
 |.Name x B=>(oh aL sc x).map .aS
 |.Tuple ax B cq=>(tE aL sc ax).map .iV
 |_=>none
noncomputable def h3(names:Sc):List Str:=(names.filter λp=>(p.2==.local||p.2==.cell)&&p.1 !=(".0":Str)).map (·.1)
noncomputable def zG(names:Sc):Bool:=names.all λp=>p.2 !=.cell
noncomputable def zH(aL:jz)(sc names:Sc):Bool:=names.all λp=>p.2 !=.free||((sc.lookup p.1==some .cell||sc.lookup p.1==some .free)&&(aL.lookup p.1).isSome)
noncomputable def tF(names:Sc):Bool:=names.all λp=>p.1 !=("__classdict__":Str)
noncomputable def xu:Expr->Bool
 |.Call .. =>true
 |_=>false
noncomputable def C9:Expr->Bool
 |.Call (.Name id B) [] [] cq=>id !=("super":Str)
 |_=>true
noncomputable def h4:List Str->Nat->jz
 |[],B=>[]
 |x::r,n=>(x,n)::h4 r (n+1)
mutual
noncomputable def c9(G:gS)(aL:jz)(aW:Nat)(sc:Sc):Expr->Option b2
 |.Constant c B cq=>(Qg c).map .bc
 |.Name x B=>if x==("__debug__":Str)then none else match rN aL sc x with
  |some i=>some<|.E i
  |none=>match no G sc x with
   |some (.val v)=>some<|.bc v
   |_=>none
 |.BoolOp op vs B=>(hR G aL aW sc vs).bind λax=>HZ (match op with|.And=>.and|.Or=>.or) ax
 |.BinOp l op r B=>(c9 G aL aW sc l).bind λa=>(c9 G aL aW sc r).bind λb=>(tD op).map λo=>.b6 o a b
 |.UnaryOp op x B=>(c9 G aL aW sc x).bind λa=>match op with
  |.Not=>some (.not a)|.USub=>some (.neg a)|.Invert=>some (.tw a)|_=>none
 |.IfExp t a b B=>(c9 G aL aW sc t).bind λt=>(c9 G aL aW sc a).bind λa=>(c9 G aL aW sc b).map λb=>.ite t a b
 |.Dict [] [] B=>some .l2
 |.List ax B=>if ax.length<1000 then(hR G aL aW sc ax).map .fi else none
 |.Tuple ax B cq=>if ax.length<1000 then(hR G aL aW sc ax).map .ak else none
 |.Compare l [op] [r] B=>(c9 G aL aW sc l).bind λa=>(c9 G aL aW sc r).bind λb=>(xt op).map λo=>.aK o a b
 |.Compare l [og,ng] [r,q] B=>(c9 G aL aW sc l).bind λa=>(c9 G aL aW sc r).bind λb=>(c9 G aL aW sc q).bind λc=>(xt og).bind λgT=>(xt ng).map λgD=>.vm gT gD a b c
 |.Call (.Name f B) args [] cq=>match no G sc f with
  |some .qx=>some<|.cw .range<|.bc .none
  |some (.fn f)=>(hR G aL aW sc args).map λax=>.a5 f ax
  |some (.cls c)=>(hR G aL aW sc args).map λax=>.l3 c ax
  |some (.cw b)=>(hR G aL aW sc args).bind λax=>(match ax with|[e]=>some (.cw b e)|_=>none)
  |_=>none
 |.Call (.Attribute o m ap) args [] pos=>if C9 o&&ap.endLine==pos.line&&args.length<20 then(c9 G aL aW sc o).bind λa=>(hR G aL aW sc args).bind λax=>(G.xr m).map λk=>.b1 a k ax else none
 |.Attribute v a B=>if C9 v then(c9 G aL aW sc v).bind λe=>(G.xr a).map λk=>.aZ e k else none
 |.Subscript v (.Slice ce ah none B) cq=>(c9 G aL aW sc v).bind λe=>(Da G aL aW sc ce).bind λce=>(Da G aL aW sc ah).map λah=>.jf e ce ah
 |.Subscript v i B=>(c9 G aL aW sc v).bind λe=>(c9 G aL aW sc i).map λi=>.av e i
 |.ListComp elt gens scope B=>if scope.kind !=.function then none else(c9 G (h4 (h3 scope.names) aW++aL) (aW+(h3 scope.names).length) scope.names elt).bind λelt=>Qh G aL aW sc elt scope.names gens
 |_=>none
noncomputable def Qh(G:gS)(aL:jz)(aW:Nat)(sc:Sc)(elt:b2)(names:Sc):List PySem.Comprehension->Option b2
 |[⟨cL,iter,ifs,0⟩]=>
  if zG names&&tF names&&zH aL sc names&&decide (names.map (·.1)).Nodup then
   (hR G (h4 (h3 names) aW++aL) (aW+(h3 names).length) names ifs).bind λifs=>(mI (h4 (h3 names) aW++aL) names cL).bind λcL=>
    (c9 G aL aW sc iter).bind λit=>(match it,cL with
     |.cw .range e,.aS i=>if xu iter then some (.jX elt i e ifs)else none
     |.cw .range B,.iV cq=>none
     |it,cL=>some (.comp elt cL it ifs))
  else none
 |_=>none
noncomputable def Da(G:gS)(aL:jz)(aW:Nat)(sc:Sc):Option Expr->Option (Option b2)
 |none=>some none
 |some e=>(c9 G aL aW sc e).map some
noncomputable def hR(G:gS)(aL:jz)(aW:Nat)(sc:Sc):List Expr->Option (List b2)
 |[]=>some []
 |e::ax=>(c9 G aL aW sc e).bind λa=>(hR G aL aW sc ax).map (a::·)
end
mutual
noncomputable def zI(G:gS)(aL:jz)(aW:Nat)(sc:Sc):Stmt->Option dA
 |.Assign [.Name x p] v B=>(c9 G aL aW sc v).bind λe=>(mI aL sc<|.Name x p).map λt=>.assign t e
 |.Assign [.Tuple ts k p] (.Name x q) B=>(c9 G aL aW sc<|.Name x q).bind λe=>(mI aL sc<|.Tuple ts k p).map λt=>.assign t e
 |.Assign [.Attribute o a B] v cq=>(c9 G aL aW sc v).bind λe=>(c9 G aL aW sc o).bind λo=>(G.xr a).map λk=>.setAttr o k e
 |.Assign [.Subscript B (.Slice ..) cq] eE hc=>none
 |.Assign [.Subscript o i B] v cq=>(c9 G aL aW sc v).bind λe=>(c9 G aL aW sc o).bind λo=>(c9 G aL aW sc i).map λi=>.setItem o i e
 |.AugAssign (.Name x B) op v cq=>if op !=.Add&&op !=.Sub then none else(c9 G aL aW sc v).bind λe=>(oh aL sc x).bind λi=>(tD op).map λop=>.tx i op e
 |.AugAssign (.Attribute o a B) op v cq=>if op !=.Add&&op !=.Sub then none else(c9 G aL aW sc v).bind λe=>(c9 G aL aW sc o).bind λo=>(G.xr a).bind λk=>(tD op).map λop=>.rK o k op e
 |.Delete [.Subscript o (.Slice (some ce) none none B) cq] eE=>(c9 G aL aW sc o).bind λo=>(c9 G aL aW sc ce).map λce=>.xl o ce
 |.Delete [.Subscript B (.Slice ..) cq] eE=>none
 |.Delete [.Subscript o i B] cq=>(c9 G aL aW sc o).bind λo=>(c9 G aL aW sc i).map λi=>.delItem o i
 |.If t a b B=>(c9 G aL aW sc t).bind λt=>(oi G aL aW sc a).bind λa=>(oi G aL aW sc b).map λb=>.ite t a b
 |.For cL rO body [] B=>(mI aL sc cL).bind λcL=>(c9 G aL aW sc rO).bind λit=>(oi G aL aW sc body).bind λbody=>(match it,cL with
  |.cw .range e,.aS i=>if xu rO then some (.ip i e body)else none
  |.cw .range B,.iV cq=>none
  |it,cL=>some (.gQ cL it body))
 |.While t body [] B=>(c9 G aL aW sc t).bind λt=>(oi G aL aW sc body).map λbody=>.pw t body
 |.Return (some e) B=>(c9 G aL aW sc e).map .ret
 |.Return none B=>some .xm
 |.Expr (.Call f as dP p) B=>(c9 G aL aW sc<|.Call f as dP p).map .expr
 |.Raise .. =>some .fA
 |_=>none
noncomputable def oi(G:gS)(aL:jz)(aW:Nat)(sc:Sc):List Stmt->Option (List dA)
 |[]=>some []
 |s::ss=>(zI G aL aW sc s).bind λa=>(oi G aL aW sc ss).map (a::·)
end
noncomputable def Db(G:gS)(args:PySem.Arguments)(body:List Stmt)(scope:PySem.Scope)(hH:List I):Option fq:=
 let ps:=args.args.map (·.arg)
 if args.posonlyargs.isEmpty&&args.vararg.isNone&&args.kwonlyargs.isEmpty&&args.kwarg.isNone&&ps==(scope.names.map (·.1)).take ps.length
   &&decide (scope.names.map (·.1)).Nodup&&hH.length<=ps.length&&(scope.names.take ps.length).all (λp=>p.2==.local||p.2==.cell)&&tF scope.names&&scope.names.all (λp=>p.2 !=.free&&p.1 !=(".0":Str))&&scope.kind==.function&& !scope.isGenerator&& !scope.isCoroutine then
  (oi G (h4 (scope.names.map (·.1)) 0) scope.names.length scope.names body).map λb=>⟨ps.length,hH,b⟩
 else none
def bW{α β:Type}{x:Option α}{f:α->Option β}{b:β}{R:Prop}(h:x.bind f=some b)(k:∀a,x=some a->f a=some b->R):R:=by
 cases x with
 |none=>contradiction
 |some a=>exact k a rfl h
def c0{α kR β:Type}{x:Option (α×kR)}{f:α×kR->Option β}{b:β}{R:Prop}(h:x.bind f=some b)(k:∀a c,x=some (a,c)->f (a,c)=some b->R):R:=bW h λp=>k p.1 p.2
def dt{α β:Type}{x:Option α}{f:α->β}{b:β}{R:Prop}(h:x.map f=some b)(k:∀a,x=some a->f a=b->R):R:=by
 cases x with
 |none=>contradiction
 |some a=>exact k a rfl<|br h
def d1{α:Type}{p:Prop}[Decidable p]{x:Option α}{b:α}{R:Prop}(h:(if p then x else none)=some b)(k:p->x=some b->R):R:=by
 by_cases q:p
 ·rw[bg q]at h;exact k q h
 ·rw[bI q]at h;contradiction
def vt{α:Type}{p:Prop}[Decidable p]{x:Option α}{b:α}{R:Prop}(h:(if p then none else x)=some b)(k:¬p->x=some b->R):R:=by
 by_cases q:p
 ·rw[bg q]at h;contradiction
 ·rw[bI q]at h;exact k q h
def cF{α β:Type}{x:Option α}{f:α->Option β}{a:α}{r:Option β}(h:x=some a)(k:f a=r):x.bind f=r:=by refine V h ?_;exact k
def H0{G:gS}{aL:jz}{aW:Nat}{sc:Sc}{f:Str}{p pos:PySem.Pos}{args:List Expr}{m:b2}{R:Prop}(dK:some (b2.cw .range<|.bc .none)=some m->R)(fk:∀k,no G sc f=some (.fn k)->((hR G aL aW sc args).map λax=>b2.a5 k ax)=some m->R)(oj:∀k,no G sc f=some (.cls k)->((hR G aL aW sc args).map λax=>b2.l3 k ax)=some m->R)(qy:∀b,no G sc f=some (.cw b)->((hR G aL aW sc args).bind λax=>(match ax with|[e]=>some (b2.cw b e)|_=>none))=some m->R)(h:c9 G aL aW sc (.Call (.Name f p) args [] pos)=some m):R:=by
 have h:(match no G sc f with
  |some .qx=>some<|.cw .range<|.bc .none
  |some (.fn f)=>(hR G aL aW sc args).map λax=>.a5 f ax
  |some (.cls c)=>(hR G aL aW sc args).map λax=>.l3 c ax
  |some (.cw b)=>(hR G aL aW sc args).bind λax=>(match ax with|[e]=>some (.cw b e)|_=>none)
  |_=>none)=some m:=h
 cases bB:no G sc f with
 |none=>rw[bB]at h;contradiction
 |some g=>
  rw[bB]at h;cases g with
  |qx=>exact dK h
  |fn k=>exact fk k bB h
  |cls k=>exact oj k bB h
  |cw b=>exact qy b bB h
  |val B=>contradiction
end
noncomputable def fr:List Str:=[aa "append",aa "pop",aa "extend",aa "get",aa "abstract",aa "ask",aa "assumed",aa "at",aa "back",aa "bases",aa "body",aa "bounds",aa "busy",aa "clean",aa "decls",aa "deep",aa "defaults",aa "did",aa "extends_class",aa "file",aa "force",aa "holds",aa "host",aa "index",aa "kind",aa "known",aa "list_prop",aa "mark",aa "members",aa "missing",aa "mode",aa "most_deep",aa "most_rounds",aa "name",aa "names",aa "nid",aa "note",aa "notes",aa "number",aa "origins",aa "params",aa "put",aa "putting",aa "renamed",aa "road",aa "rows",aa "rules",aa "same",aa "shape",aa "shaping",aa "static",aa "tab",aa "telling",aa "text",aa "trail",aa "twin",aa "variances"]
noncomputable def Dc:List (List<|Str×nl):=[
 [(aa "NEVER",.val<|.int<|2),(aa "owners_fit",.fn 89),(aa "marks_fit",.fn 90)],
 [(aa "Y_KEY",.val<|.int<|1),(aa "Y_UNION",.val<|.int<|6),(aa "new_decl",.fn 14),(aa "find_prop",.fn 69),(aa "prop_related",.fn 92),(aa "_law_masks",.val<|.ak [.int<|1,.int<|2,.int<|4,.int<|8,.int<|3,.int<|32,.int<|36,.int<|192,.int<|0,.int<|256,.int<|512,.int<|513,.int<|1024,.int<|2048,.int<|4096,.int<|64])],
 [(aa "Y_TUPLE",.val<|.int<|12),(aa "Y_ALIAS",.val<|.int<|19),(aa "P_OPT",.val<|.int<|1),(aa "RULE_MEET",.val<|.int<|1),(aa "RULE_CHOICE",.val<|.int<|6),(aa "unknown_told",.fn 49),(aa "is_numeric_enum",.fn 50),(aa "install_rel_objects",.fn 97)],
 [(aa "Rel",.cls 3),(aa "is_weak",.fn 73),(aa "weak_fault",.fn 76),(aa "RelshapeObjectRule",.cls 5),(aa "_law_prop",.fn 101)],
 [(aa "Y_BOOL",.val<|.int<|2),(aa "sorted_props",.fn 11),(aa "tells",.fn 43),(aa "plain_shape",.fn 61),(aa "_law_other",.fn 103),(aa "_law_type",.fn 111)],
 [(aa "R_IDENT",.val<|.int<|3),(aa "lay_again",.fn 57),(aa "did_of",.fn 77),(aa "_law_rel",.fn 114)],
 [(aa "RULE_CALLS",.val<|.int<|8),(aa "LIST_ROWS",.val<|.ak [.int<|11,.int<|12]),(aa "tops_related",.fn 48),(aa "MOST_SHAPES",.val<|.int<|40),(aa "rises",.fn 78),(aa "same_prop",.fn 95)],
 [(aa "V_CO",.val<|.int<|1),(aa "top_of",.fn 20),(aa "RULE_REFS",.val<|.int<|11),(aa "VALUE_ROWS",.val<|.ak [.int<|1,.int<|2,.int<|3,.int<|4,.int<|5]),(aa "each_in",.fn 60)],
 [(aa "Y_NUM",.val<|.int<|4),(aa "Y_TPL",.val<|.int<|18),(aa "ANY",.val<|.int<|0),(aa "is_literal",.fn 23),(aa "is_weak_kind",.fn 75),(aa "_law_kind",.fn 100),(aa "_law_alike",.fn 107)],
 [(aa "U_ENUM",.val<|.int<|10),(aa "Notes",.cls 0),(aa "Y_PARAM",.val<|.int<|10),(aa "NUMBER",.val<|.int<|7),(aa "ERR",.val<|.int<|13),(aa "union",.fn 21),(aa "loss_notes",.fn 91),(aa "same_shapes",.fn 94)],
 [(aa "P_PRIVATE",.val<|.int<|8),(aa "TypeTable",.cls 1),(aa "whole_of_row",.fn 16),(aa "silent_with",.fn 36),(aa "slot_notes",.fn 45),(aa "simple_related",.fn 47),(aa "some_part",.fn 56),(aa "shows_nothing",.fn 74),(aa "objects_related",.fn 80),(aa "_law_table",.fn 109),(aa "tuple",.cw .tuple)],
 [(aa "OBJECTT",.val<|.int<|10),(aa "FRESH_T",.val<|.int<|15),(aa "DEFERRED_ROWS",.val<|.ak [.int<|10,.int<|14,.int<|15,.int<|16,.int<|17,.int<|18,.int<|19]),(aa "to_union",.fn 58),(aa "same_kind",.fn 59),(aa "base_did",.fn 62),(aa "MAX_ROAD",.val<|.int<|24),(aa "_law_count",.fn 106)],
 [(aa "LENGTH_CHANGERS",.val<|.ak [.str<|aa "pop",.str<|aa "push",.str<|aa "reverse",.str<|aa "shift"])],
 [(aa "U_OPTION",.val<|.int<|11),(aa "Y_ENUM",.val<|.int<|5),(aa "P_READONLY",.val<|.int<|2),(aa "bool_type",.fn 9),(aa "func_type",.fn 13),(aa "taken_wider",.fn 44),(aa "range",.cw .range)],
 [(aa "MAX_UNION",.val<|.int<|400),(aa "join_bools",.fn 18),(aa "RULE_OBJECT",.val<|.int<|5)],
 [(aa "Y_MAPPED",.val<|.int<|17),(aa "NULLT",.val<|.int<|5),(aa "EMPTY",.val<|.int<|11),(aa "RULE_INDEX",.val<|.int<|10),(aa "RULE_PLACES",.val<|.int<|12),(aa "too_deep",.fn 79),(aa "weak_asked",.fn 84),(aa "same_objects",.fn 93)],
 [(aa "Y_INDEX",.val<|.int<|15),(aa "UNKNOWN",.val<|.int<|1),(aa "P_METHOD",.val<|.int<|4),(aa "values_related",.fn 51),(aa "refs_related",.fn 81),(aa "_law_draw",.fn 98)],
 [(aa "Y_STR",.val<|.int<|3),(aa "P_GETONLY",.val<|.int<|32),(aa "num_type",.fn 8),(aa "close_trail",.fn 42),(aa "shape_related",.fn 85),(aa "sorted",.cw .sorted),(aa "isinstance",.qx)],
 [(aa "U_READONLY",.val<|.int<|4),(aa "VOID",.val<|.int<|3),(aa "UNDEF",.val<|.int<|4),(aa "FIRST_ROWS",.val<|.ak [.ak [.int<|1,.str<|aa "any"],.ak [.int<|1,.str<|aa "unknown"],.ak [.int<|1,.str<|aa "never"],.ak [.int<|1,.str<|aa "void"],.ak [.int<|1,.str<|aa "undefined"],.ak [.int<|1,.str<|aa "null"],.ak [.int<|1,.str<|aa "string"],.ak [.int<|1,.str<|aa "number"],.ak [.int<|2,.int<|0,.int<|0],.ak [.int<|2,.int<|1,.int<|0],.ak [.int<|1,.str<|aa "object"],.ak [.int<|8,.ak [],.ak [],.ak [],.ak [],.ak [],.int<|0],.ak [.int<|6,.ak [.int<|8,.int<|9]],.ak [.int<|1,.str<|aa "error"],.ak [.int<|2,.int<|0,.int<|1],.ak [.int<|2,.int<|1,.int<|1]]),(aa "by_rule",.fn 35),(aa "relshape_within_literal",.fn 86)],
 [(aa "Y_OBJ",.val<|.int<|8),(aa "TRUE_T",.val<|.int<|9),(aa "regular_twin",.fn 17),(aa "is_fresh",.fn 25),(aa "regular_one",.fn 26),(aa "RULE_LIST",.val<|.int<|4),(aa "RULE_WORD",.val<|.int<|14),(aa "_law_atom",.fn 110),(aa "_law_shape",.fn 112)],
 [(aa "kept",.fn 41)],
 [(aa "U_PROP",.val<|.int<|3),(aa "Y_REF",.val<|.int<|9),(aa "settled",.fn 39),(aa "structured",.fn 53),(aa "_law_told",.fn 113)],
 [(aa "Y_KEYOF",.val<|.int<|14),(aa "R_ASSIGN",.val<|.int<|1),(aa "twin_of",.fn 37),(aa "MOST_PLAIN",.val<|.int<|40),(aa "has_base",.fn 72)],
 [(aa "Y_ARRAY",.val<|.int<|11),(aa "STRING",.val<|.int<|6),(aa "LITERAL_ROWS",.val<|.ak [.int<|2,.int<|3,.int<|4,.int<|5]),(aa "MAX_OPEN",.val<|.int<|60),(aa "ask_kinds",.fn 40),(aa "_law_twins",.fn 108)],
 [(aa "Decl",.cls 2),(aa "R_COMPARE",.val<|.int<|2),(aa "RULE_DEFERRED",.val<|.int<|2),(aa "prop_row",.fn 70)],
 [(aa "P_PROTECTED",.val<|.int<|16),(aa "all_related",.fn 46),(aa "is_readonly",.fn 83),(aa "lacking",.fn 88),(aa "all",.cw .all)],
 [(aa "Y_INTER",.val<|.int<|7),(aa "str_type",.fn 7),(aa "add_undef",.fn 22),(aa "RULE_SIG",.val<|.int<|3)],
 [(aa "Y_SIG",.val<|.int<|13),(aa "is_unit",.fn 24),(aa "RefHost",.cls 4),(aa "opened",.fn 82),(aa "_law_nodes",.fn 104)],
 [(aa "U_ANY",.val<|.int<|1),(aa "Y_COND",.val<|.int<|16),(aa "obj_type",.fn 12),(aa "OPEN_ROWS",.val<|.ak [.int<|6,.int<|7,.int<|10,.int<|14,.int<|15,.int<|16,.int<|17,.int<|18,.int<|19]),(aa "cut_back",.fn 38),(aa "from_union",.fn 55)],
 [(aa "U_VAR",.val<|.int<|15),(aa "FRESH_F",.val<|.int<|14),(aa "R_SUBTYPE",.val<|.int<|4),(aa "MOST_ROUNDS",.val<|.int<|200),(aa "read_type",.fn 71),(aa "_law_moved",.fn 102)],
 [(aa "FALSE_T",.val<|.int<|8),(aa "MARKED_ROWS",.val<|.ak [.int<|2,.int<|3,.int<|4,.int<|5,.int<|8]),(aa "ref_type",.fn 10),(aa "parts_of",.fn 15),(aa "rule_for",.fn 54),(aa "PLAIN_ROWS",.val<|.ak [.int<|1,.int<|2,.int<|3,.int<|4,.int<|5]),(aa "rest_related",.fn 87),(aa "_law_norm",.fn 99),(aa "_law_read",.fn 105)],
 [(aa "stays_beside",.fn 19),(aa "SHAPED_ROWS",.val (.ak [.int (8),.int (9)])),(aa "number_to_enum",.fn 52),(aa "len",.cw .len)]]
noncomputable def H1:List (List<|Str×Nat):=[
 [(aa "get",3),(aa "file",19),(aa "most_deep",31)],
 [(aa "name",33)],
 [(aa "twin",55)],
 [(aa "busy",12),(aa "clean",13)],
 [(aa "params",40)],
 [(aa "mode",30),(aa "text",53)],
 [(aa "kind",24),(aa "road",44),(aa "same",47)],
 [],
 [(aa "extend",2),(aa "static",50)],
 [(aa "notes",37),(aa "number",38)],
 [(aa "shaping",49)],
 [(aa "bounds",11),(aa "decls",14),(aa "mark",27),(aa "members",28),(aa "putting",42),(aa "rows",45),(aa "rules",46)],
 [],
 [(aa "known",25)],
 [(aa "bases",9),(aa "body",10)],
 [(aa "pop",1),(aa "force",20),(aa "telling",52)],
 [(aa "extends_class",18)],
 [(aa "back",8),(aa "did",17),(aa "shape",48)],
 [(aa "assumed",6)],
 [],
 [(aa "abstract",4),(aa "names",34)],
 [(aa "at",7)],
 [(aa "note",36)],
 [(aa "tab",51)],
 [(aa "append",0),(aa "defaults",16),(aa "index",23)],
 [(aa "put",41)],
 [(aa "holds",21),(aa "missing",29)],
 [(aa "nid",35),(aa "origins",39)],
 [(aa "list_prop",26),(aa "renamed",43),(aa "trail",54),(aa "variances",56)],
 [(aa "most_rounds",32)],
 [(aa "deep",15),(aa "host",22)],
 [(aa "ask",5)]]
noncomputable def G:gS:=⟨zF Dc,zF H1⟩
noncomputable def H2:List ((Nat×Nat)×Nat):=[((0,41),1),((0,13),2),((1,41),5),((3,5),30),((3,36),31),((3,47),32),((3,27),33),((3,8),34),((4,48),68),((4,20),64),((4,26),66),((5,21),96)]
noncomputable def dD(c m:Nat):Option Nat:=H2.lookup (c,m)
noncomputable def H3:List (Nat×Nat):=[(0,0),(1,3),(2,6),(3,29),(4,67)]
noncomputable def om(c:Nat):Option Nat:=H3.lookup c
noncomputable def Dd:fq:=⟨3,[],[
 .ite (.aK .eq (.E 1)<|.E 2) [
  .ret (.bc (.bool true))] [],
 .assign (.aS 1) (.a5 39 [(.aZ (.E 0) 22),(.E 1)]),
 .assign (.aS 2) (.a5 39 [(.aZ (.E 0) 22),(.E 2)]),
 .ite (.aK .eq (.E 1)<|.E 2) [
  .ret (.bc (.bool true))] [],
 .ite (.aK .eq (.aZ (.E 0) 30)<|U 3) [
  .assign (.aS 3) (.aZ (.aZ (.aZ (.E 0) 22) 51) 45),
  .ite (.or (.aK .eq (.E 1)<|U 13)<|.aK .eq (.E 2)<|U 13) [
   .ret (.bc (.bool true))] [],
  .ite (.or (.aK .dU (.av (.av (.E 3)<|.E 1)<|U 0)<|.bc<|.ak [.int<|1,.int<|2,.int<|3,.int<|4,.int<|5])<|.aK .dU (.av (.av (.E 3)<|.E 2)<|U 0)<|.bc<|.ak [.int<|1,.int<|2,.int<|3,.int<|4,.int<|5]) [
   .ret (.bc (.bool false))] [],
  .ret (.a5 41 [(.E 0),(.E 1),(.E 2)])] [],
 .assign (.aS 4) (.a5 47 [(.E 0),(.E 1),(.E 2)]),
 .ite (.or (.aK .eq (.E 4)<|U 1)<|.and (.aK .eq (.aZ (.E 0) 30)<|U 2)<|.and (.aK .bw (.E 2)<|U 2)<|.aK .eq (.a5 47 [(.E 0),(.E 2),(.E 1)])<|U 1) [
  .ret (.bc (.bool true))] [],
 .ret (.and (.aK .lt (.E 4) (U 0)) (.a5 41 [(.E 0),(.E 1),(.E 2)]))]⟩
noncomputable def zJ:fq:=⟨3,[],[
 .assign (.aS 3) (.ak [(.E 1),(.E 2)]),
 .ite (.aK .dU (.E 3)<|.aZ (.E 0) 25) [
  .ret (.av (.aZ (.E 0) 25) (.E 3))] [],
 .ite (.aK .dU (.E 3)<|.aZ (.E 0) 6) [
  .ret (.bc (.bool true))] [],
 .ite (.aK .ge (.aZ (.E 0) 15)<|U 60) [
  .expr (.b1 (.E 0) 36 [(U 15)]),
  .ret (.bc (.bool true))] [],
 .assign (.aS 4) (.b1 (.E 0) 27 []),
 .setItem (.aZ (.E 0) 6) (.E 3) (U 1),
 .expr (.b1 (.aZ (.E 0) 54) 0 [(.E 3)]),
 .rK (.E 0) 15 .add (U 1),
 .assign (.aS 5) (.ite (.aK .eq (.aZ (.E 0) 30)<|U 3) (.a5 59 [(.E 0),(.E 1),(.E 2)])<|.a5 53 [(.E 0),(.E 1),(.E 2)]),
 .rK (.E 0) 15 .sub (U 1),
 .ite (.not (.E 5)) [
  .expr (.a5 38 [(.E 0),(.E 4)]),
  .ite (.or (.aK .eq (.av (.E 4)<|U 1)<|U 0)<|.aK .bw (.aZ (.E 0) 30)<|U 4) [
   .setItem (.aZ (.E 0) 25) (.E 3) (.bc (.bool false))] []] [
  .ite (.aK .eq (.av (.E 4)<|U 1)<|U 0) [
   .expr (.a5 42 [(.E 0),(.aK .eq (.cw .len (.aZ (.aZ (.E 0) 37) 45)) (.av (.E 4) (U 0)))])] []],
 .ret (.E 5)]⟩
noncomputable def zK:fq:=⟨3,[],[
 .assign (.aS 3) (.a5 48 [(.E 0),(.E 1),(.E 2)]),
 .ite (.aK .ge (.E 3)<|U 0) [
  .ret (.E 3)] [],
 .assign (.aS 4) (.aZ (.aZ (.aZ (.E 0) 22) 51) 45),
 .assign (.aS 5) (.av (.av (.E 4)<|.E 1)<|U 0),
 .assign (.aS 6) (.av (.av (.E 4)<|.E 2)<|U 0),
 .ite (.or (.aK .dU (.E 5)<|.bc<|.ak [.int<|6,.int<|7,.int<|10,.int<|14,.int<|15,.int<|16,.int<|17,.int<|18,.int<|19])<|.aK .dU (.E 6)<|.bc<|.ak [.int<|6,.int<|7,.int<|10,.int<|14,.int<|15,.int<|16,.int<|17,.int<|18,.int<|19]) [
  .ret (.neg (U 1))] [],
 .ite (.aK .eq (.E 2)<|U 10) [
  .ret (.ite (.aK .dU (.E 5) (.bc (.ak [.int (1),.int (2),.int (3),.int (4),.int (5)]))) (U 0) (.neg (U 1)))] [],
 .ite (.aK .dU (.E 6)<|.bc<|.ak [.int<|1,.int<|2,.int<|3,.int<|4,.int<|5]) [
  .ret (.ite (.aK .dU (.E 5) (.bc (.ak [.int (1),.int (2),.int (3),.int (4),.int (5)]))) (.a5 51 [(.E 0),(.E 1),(.E 2)]) (U 0))] [],
 .ite (.or (.aK .eq (.E 1)<|U 4)<|.or (.aK .eq (.E 1)<|U 5)<|.aK .eq (.E 1)<|U 3) [
  .ret (U 0)] [],
 .ret (.neg (U 1))]⟩
noncomputable def H4:fq:=⟨3,[],[
 .ite (.or (.aK .eq (.E 2)<|U 0)<|.or (.aK .eq (.E 2)<|U 13)<|.or (.aK .eq (.E 1)<|U 2)<|.aK .eq (.E 1)<|U 13) [
  .ret (U 1)] [],
 .ite (.and (.aK .eq (.E 1)<|U 0)<|.aK .eq (.aZ (.E 0) 30)<|U 4) [
  .ret (U 0)] [],
 .ite (.aK .eq (.E 2)<|U 1) [
  .ret (U 1)] [],
 .ite (.aK .eq (.E 1)<|U 0) [
  .ite (.aK .eq (.E 2)<|U 2) [
   .ret (U 0)] [],
  .expr (.b1 (.E 0) 36 [(U 1)]),
  .ret (U 1)] [],
 .ite (.aK .eq (.E 1)<|U 1) [
  .ret (.a5 49 [(.E 0),(.E 2)])] [],
 .ite (.and (.aK .eq (.E 2)<|U 2)<|.aK .je (.av (.av (.aZ (.aZ (.aZ (.E 0) 22) 51) 45)<|.E 1)<|U 0)<|.bc<|.ak [.int<|6,.int<|7,.int<|10,.int<|14,.int<|15,.int<|16,.int<|17,.int<|18,.int<|19]) [
  .ret (U 0)] [],
 .ret (.neg (U 1))]⟩
noncomputable def H5:fq:=⟨3,[],[
 .ite (.aK .eq (.E 1)<|U 4) [
  .ret (.ite (.aK .eq (.E 2) (U 3)) (U 1) (U 0))] [],
 .assign (.aS 3) (.av (.aZ (.aZ (.aZ (.E 0) 22) 51) 45)<|.E 1),
 .assign (.aS 4) (.av (.aZ (.aZ (.aZ (.E 0) 22) 51) 45)<|.E 2),
 .ite (.and (.aK .eq (.a5 16 [(.E 3)])<|.E 2)<|.aK .ge (.a5 16 [(.E 3)])<|U 0) [
  .ret (U 1)] [],
 .ite (.and (.aK .eq (.aZ (.E 0) 30)<|U 2)<|.aK .eq (.a5 16 [(.E 4)])<|.E 1) [
  .ret (U 1)] [],
 .ite (.and (.aK .eq (.av (.E 3)<|U 0)<|U 5)<|.and (.aK .eq (.av (.E 4)<|U 0)<|U 5)<|.aK .eq (.av (.E 3)<|U 1)<|.av (.E 4)<|U 1) [
  .ret (.ite (.aK .eq (.av (.E 3) (U 3)) (.av (.E 4) (U 3))) (U 1) (U 0))] [],
 .ite (.aK .eq (.av (.E 3)<|U 0)<|U 5) [
  .ret (.ite (.and (.aK .dU (.av (.E 4) (U 0)) (.ak [(U 3),(U 4)])) (.and (.aK .eq (.a5 16 [(.E 4)]) (.a5 16 [(.E 3)])) (.aK .eq (.av (.E 4) (U 1)) (.av (.E 3) (U 3))))) (U 1) (U 0))] [],
 .ret (.a5 52 [(.E 0),(.E 1),(.E 3),(.E 4)])]⟩
noncomputable def xv:fq:=⟨3,[],[
 .gQ (.aS 3) (.a5 15 [(.aZ (.aZ (.E 0) 22) 51),(.E 1)]) [
  .ite (.b1 (.E 0) 5 [(.E 3),(.E 2)]) [
   .ite (.aK .eq (.aZ (.E 0) 30)<|U 2) [
    .ret (.bc (.bool true))] []] [
   .ite (.aK .bw (.aZ (.E 0) 30)<|U 2) [
    .ret (.bc (.bool false))] []]],
 .ret (.aK .bw (.aZ (.E 0) 30) (U 2))]⟩
noncomputable def H6:fq:=⟨3,[],[
 .assign (.aS 3) (.bc<|.none),
 .gQ (.aS 4) (.E 2) [
  .assign (.aS 5) (.b1 (.E 0) 27 []),
  .ite (.b1 (.E 0) 5 [(.E 1),(.E 4)]) [
   .ite (.aK .eq (.cw .len<|.aZ (.aZ (.E 0) 37) 45)<|.av (.E 5)<|U 0) [
    .ret (.bc (.bool true))] [],
   .ite (.aK .is (.E 3)<|.bc<|.none) [
    .assign (.aS 3) (.ak [(.jf (.aZ (.aZ (.E 0) 37) 45) (some (.av (.E 5) (U 0))) none),(.jf (.aZ (.E 0) 54) (some (.av (.E 5) (U 1))) none)])] [],
   .expr (.b1 (.E 0) 8 [(.E 5)])] []],
 .ite (.aK .is (.E 3)<|.bc<|.none) [
  .ret (.bc (.bool false))] [],
 .expr (.a5 57 [(.E 0),(.E 3)]),
 .ret (.bc (.bool true))]⟩
noncomputable def H7:fq:=⟨2,[],[
 .expr (.b1 (.aZ (.aZ (.E 0) 37) 45) 2 [(.av (.E 1)<|U 0)]),
 .gQ (.aS 2) (.av (.E 1)<|U 1) [
  .ite (.and (.aK .je (.E 2)<|.aZ (.E 0) 6)<|.aK .je (.E 2)<|.aZ (.E 0) 25) [
   .setItem (.aZ (.E 0) 6) (.E 2) (U 1),
   .expr (.b1 (.aZ (.E 0) 54) 0 [(.E 2)])] []]]⟩
noncomputable def H8:fq:=⟨3,[],[
 .gQ (.aS 3) (.E 1) [
  .ite (.not (.a5 56 [(.E 0),(.E 3),(.E 2)])) [
   .ret (.bc (.bool false))] []],
 .ret (.bc (.bool true))]⟩
noncomputable def H9:fq:=⟨4,[],[
 .assign (.aS 4) (.aZ (.E 0) 22),
 .assign (.aS 5) (.av (.aZ (.aZ (.E 4) 51) 45)<|.b1 (.E 4) 48 [(.E 2)]),
 .ite (.and (.E 3)<|.and (.a5 84 [(.E 0),(.E 1)])<|.a5 76 [(.E 4),(.E 1),(.E 2)]) [
  .ret (.bc (.bool false))] [],
 .ite (.and (.aK .eq (.aZ (.E 0) 30)<|U 4)<|.and (.a5 25 [(.aZ (.E 4) 51),(.E 2)])<|.not (.a5 86 [(.E 4),(.E 1),(.E 5)])) [
  .ret (.bc (.bool false))] [],
 .gQ (.aS 6) (.av (.E 5)<|U 1) [
  .ite (.not (.a5 92 [(.E 0),(.E 1),(.E 6)])) [
   .ret (.bc (.bool false))] []],
 .ret (.a5 87 [(.E 0),(.E 1),(.E 2),(.E 5)])]⟩
noncomputable def Ia:fq:=⟨3,[],[
 .ite (.aK .dU (.av (.av (.aZ (.aZ (.E 0) 51) 45)<|.E 1)<|U 0)<|.bc<|.ak [.int<|1,.int<|2,.int<|3,.int<|4,.int<|5]) [
  .ret (.bc (.bool false))] [],
 .assign (.aS 3) (.av (.aZ (.aZ (.E 0) 51) 45)<|.b1 (.E 0) 48 [(.E 1)]),
 .ite (.and (.aK .eq (.av (.E 2)<|U 1)<|.ak [])<|.aK .bw (.jf (.E 3) (some<|U 2)<|some<|U 6)<|.ak [(.ak []),(.ak []),(.ak []),(.ak [])]) [
  .ret (.bc (.bool false))] [],
 .assign (.aS 4) (.comp (.av (.E 8)<|U 0) (.aS 8) (.av (.E 2)<|U 1) []),
 .assign (.aS 5) (.comp (.E 8) (.aS 8) (.av (.E 3)<|U 1) [(.aK .je (.av (.E 8)<|U 0)<|.E 4)]),
 .ret (.cw .all (.comp (.aK .eq (.b1 (.E 0) 20 [(.a5 71 [(.aZ (.E 0) 51),(.E 8)])]) (U 4)) (.aS 8) (.E 5) []))]⟩
noncomputable def Ib:fq:=⟨4,[],[
 .assign (.aS 4) (.b6 .io (U 8)<|U 16),
 .ite (.and (.aK .eq (.b6 .dj (.av (.E 2)<|U 2)<|.E 4)<|.b6 .dj (.av (.E 3)<|U 2)<|.E 4)<|.aK .eq (.av (.E 2)<|U 3)<|.av (.E 3)<|U 3) [
  .ret (.bc (.bool true))] [],
 .ite (.or (.aK .eq (.b6 .dj (.av (.E 3)<|U 2)<|U 16)<|U 0)<|.aK .bw (.b6 .dj (.av (.E 2)<|U 2)<|U 8)<|U 0) [
  .ret (.bc (.bool false))] [],
 .assign (.aS 5) (.ite (.aK .gt (.av (.E 2)<|U 3)<|U 0) (.av (.E 2)<|U 3)<|.a5 77 [(.av (.aZ (.aZ (.E 0) 51) 45)<|.E 1)]),
 .ret (.and (.vm .lt .lt (U 0) (.E 5) (.cw .len (.aZ (.aZ (.E 0) 51) 14))) (.a5 72 [(.E 0),(.E 5),(.av (.E 3) (U 3))]))]⟩
noncomputable def Ic:fq:=⟨4,[],[
 .ite (.and (.b6 .dj (.b6 .io (.av (.E 2)<|U 2)<|.av (.E 3)<|U 2)<|.b6 .io (U 8)<|U 16)<|.not (.a5 89 [(.aZ (.E 0) 22),(.E 1),(.E 2),(.E 3)])) [
  .ret (.bc (.bool false))] [],
 .ite (.and (.aK .eq (.aZ (.E 0) 30)<|U 4)<|.and (.a5 83 [(.E 2)])<|.not (.a5 83 [(.E 3)])) [
  .ret (.bc (.bool false))] [],
 .ret (.or (.aK .eq (.aZ (.E 0) 30) (U 2)) (.or (.aK .eq (.b6 .dj (.av (.E 2) (U 2)) (U 1)) (U 0)) (.aK .bw (.b6 .dj (.av (.E 3) (U 2)) (U 1)) (U 0))))]⟩
noncomputable def Id:fq:=⟨3,[],[
 .assign (.aS 3) (.aZ (.aZ (.E 0) 22) 51),
 .assign (.aS 4) (.a5 70 [(.aZ (.E 0) 22),(.E 1),(.av (.E 2)<|U 0)]),
 .ite (.aK .is (.E 4)<|.bc<|.none) [
  .ret (.a5 88 [(.E 0),(.E 1),(.E 2)])] [],
 .ite (.not (.a5 90 [(.E 0),(.E 1),(.E 4),(.E 2)])) [
  .ret (.bc (.bool false))] [],
 .assign (.aS 5) (.a5 71 [(.E 3),(.E 4)]),
 .assign (.aS 6) (.a5 71 [(.E 3),(.E 2)]),
 .ite (.not (.b1 (.E 0) 5 [(.E 5),(.E 6)])) [
  .ret (.bc (.bool false))] [],
 .ite (.a5 43 [(.E 0)]) [
  .expr (.a5 91 [(.E 0),(.E 1),(.E 2)])] [],
 .ite (.not (.a5 25 [(.E 3),(.E 1)])) [
  .expr (.a5 45 [(.E 0),(.E 5),(.E 6),(.a5 83 [(.E 4)]),(.a5 83 [(.E 2)])])] [
  .ite (.and (.a5 83 [(.E 4)])<|.not (.a5 83 [(.E 2)])) [
   .expr (.b1 (.E 0) 36 [(U 4)])] []],
 .ret (.bc (.bool true))]⟩
noncomputable def De:fq:=⟨3,[],[
 .assign (.aS 3) (.aZ (.E 0) 22),
 .assign (.aS 4) (.av (.aZ (.aZ (.E 3) 51) 45)<|.b1 (.E 3) 48 [(.E 1)]),
 .assign (.aS 5) (.av (.aZ (.aZ (.E 3) 51) 45)<|.b1 (.E 3) 48 [(.E 2)]),
 .ite (.aK .bw (.cw .len<|.av (.E 4)<|U 1)<|.cw .len<|.av (.E 5)<|U 1) [
  .ret (.bc (.bool false))] [],
 .ip 6 (.cw .len<|.av (.E 4)<|U 1) [
  .ite (.not (.a5 95 [(.E 0),(.av (.av (.E 4)<|U 1)<|.E 6),(.av (.av (.E 5)<|U 1)<|.E 6)])) [
   .ret (.bc (.bool false))] []],
 .ite (.and (.or (.aK .bw (.jf (.E 4) (some<|U 4)<|some<|U 6)<|.ak [(.ak []),(.ak [])])<|.aK .bw (.jf (.E 5) (some<|U 4)<|some<|U 6)<|.ak [(.ak []),(.ak [])])<|.not (.a5 35 [(.E 0),(U 10),(.E 1),(.E 2)])) [
  .ret (.bc (.bool false))] [],
 .ret (.or (.and (.aK .eq (.jf (.E 4) (some (U 2)) (some (U 4))) (.ak [(.ak []),(.ak [])])) (.aK .eq (.jf (.E 5) (some (U 2)) (some (U 4))) (.ak [(.ak []),(.ak [])]))) (.a5 35 [(.E 0),(U 8),(.E 1),(.E 2)]))]⟩
noncomputable def Ie:fq:=⟨3,[],[
 .ite (.or (.b6 .dj (.av (.E 1)<|U 0)<|U 4096)<|.aK .eq (.E 0)<|.ak [(U 0),(.ak [])]) [
  .ret (U 1)] [],
 .ite (.and (.b6 .dj (.av (.E 0)<|U 0)<|U 4096)<|.aK .eq (.E 2)<|U 4) [
  .ret (U 0)] [],
 .ite (.or (.b6 .dj (.av (.E 1)<|U 0)<|U 2048)<|.b6 .dj (.av (.E 0)<|U 0)<|U 4096) [
  .ret (.ite (.aK .eq (.E 1) (.ak [(U 0),(.ak [])])) (U 0) (U 1))] [],
 .assign (.aS 3) (.b6 .io (.b6 .io (.b6 .io (.av (.E 1)<|U 0)<|.ite (.b6 .dj (.av (.E 1)<|U 0)<|U 4) (U 3)<|U 0)<|.ite (.b6 .dj (.av (.E 1)<|U 0)<|U 32) (U 24)<|U 0)<|.ite (.b6 .dj (.av (.E 1)<|U 0)<|U 1024) (U 512)<|U 0),
 .ite (.aK .eq (.E 2)<|U 2) [
  .assign (.aS 3) (.b6 .io (.b6 .io (.b6 .io (.E 3)<|.ite (.b6 .dj (.av (.E 1)<|U 0)<|U 3) (U 4)<|U 0)<|.ite (.b6 .dj (.av (.E 1)<|U 0)<|U 24) (U 32)<|U 0)<|.ite (.b6 .dj (.av (.E 1)<|U 0)<|U 512) (U 1024)<|U 0),
  .ite (.or (.b6 .dj (.av (.E 0)<|U 0)<|.E 3)<|.and (.b6 .dj (.av (.E 0)<|U 0)<|U 2048)<|.aK .bw (.E 1)<|.ak [(U 0),(.ak [])]) [
   .ret (U 1)] [],
  .ret (.ite (.aK .gt (.cw .len (.b6 .add (.av (.E 0) (U 1)) (.av (.E 1) (U 1)))) (U 0)) (.neg (U 1)) (U 0))] [],
 .ite (.or (.b6 .dj (.av (.E 0)<|U 0)<|.tw<|.E 3)<|.and (.aK .gt (.cw .len<|.av (.E 0)<|U 1)<|U 0)<|.aK .eq (.cw .len<|.av (.E 1)<|U 1)<|U 0) [
  .ret (U 0)] [],
 .ret (.ite (.aK .gt (.cw .len (.av (.E 0) (U 1))) (U 0)) (.neg (U 1)) (U 1))]⟩
noncomputable def Ig:fq:=⟨1,[],[
 .assign (.aS 1) (.comp (.b6 .mF (.E 42)<|U 999983) (.aS 42) (.jf (.E 0) none<|some<|U 40) []),
 .ite (.aK .eq (.cw .len<|.E 1)<|U 0) [
  .assign (.aS 1) (.fi [(U 0),(U 4),(U 1),(U 0),(U 1),(U 1),(U 1),(U 9),(U 2),(U 2),(U 2),(U 9),(U 0),(U 0),(U 0),(U 0),(U 3),(U 0),(U 0),(U 0),(U 0),(U 0),(U 1),(U 0),(U 0),(U 2)])] [],
 .assign (.aS 2) (.fi [(U 0)]),
 .assign (.aS 3) (.a5 104 [(.E 1),(.E 2)]),
 .assign (.aS 4) (.l3 1 []),
 .assign (.aS 6) (.jX (.a5 14 [(.E 4),(.b6 .add (U 1)<|.a5 98 [(.E 1),(.E 2),(U 3)]),(.av (.bc<|.str<|aa "ABC")<|.E 42)]) 42 (U 3) []),
 .assign (.aS 7) (.comp (.a5 10 [(.E 4),(.aZ (.E 42) 17),(.ak [])]) (.aS 42) (.E 6) []),
 .ip 5 (U 3) [
  .setAttr (.av (.E 6) (.E 5)) 10 (.a5 112 [(.E 4),(.av (.E 3) (.E 5)),(.b6 .mF (.E 5) (U 2)),(.E 7),(U 0)])],
 .ite (.aK .eq (.a5 98 [(.E 1),(.E 2),(U 5)])<|U 4) [
  .setAttr (.av (.E 6)<|U 2) 10 (.av (.E 7)<|U 0),
  .setItem (.E 3) (U 2) (.av (.E 3) (U 0))] [],
 .assign (.aS 8) (.a5 109 [(.E 3)]),
 .assign (.aS 9) (.l3 4 [(.E 4)]),
 .assign (.aS 10) (.av (.bc<|.ak [.int<|1,.int<|2,.int<|4,.int<|8,.int<|3,.int<|32,.int<|36,.int<|192,.int<|0,.int<|256,.int<|512,.int<|513,.int<|1024,.int<|2048,.int<|4096,.int<|64])<|.a5 98 [(.E 1),(.E 2),(U 16)]),
 .assign (.aS 11) (.fi []),
 .ip 5 (U 3) [
  .assign (.aS 12) (.av (.ak [(U 1),(U 2),(U 4),(U 3),(U 5),(U 6),(U 7),(U 0)])<|.b6 .mF (.b6 .add (.E 5)<|.a5 98 [(.E 1),(.E 2),(U 8)])<|U 8),
  .assign (.aS 13) (.ite (.aK .lt (.a5 98 [(.E 1),(.E 2),(U 4)])<|U 3) (.E 10)<|.av (.bc<|.ak [.int<|1,.int<|2,.int<|4,.int<|8,.int<|3,.int<|32,.int<|36,.int<|192,.int<|0,.int<|256,.int<|512,.int<|513,.int<|1024,.int<|2048,.int<|4096,.int<|64])<|.a5 98 [(.E 1),(.E 2),(U 16)]),
  .assign (.aS 15) (.ite (.b6 .dj (.E 13)<|U 6144) (.ak [])<|.cw .tuple<|.jX (.E 42) 42 (U 3) [(.b6 .dj (.b6 .oe (.E 12)<|.E 42)<|U 1)]),
  .assign (.aS 16) (.a5 98 [(.E 1),(.E 2),(U 3)]),
  .assign (.aS 17) (.comp (.E 42) (.aS 42) (.E 7) []),
  .ite (.and (.aK .eq (.cw .len<|.E 15)<|U 1)<|.aK .gt (.E 16)<|U 0) [
   .setItem (.E 17) (.av (.E 15)<|U 0) (.aZ (.av (.E 6)<|.av (.E 15)<|U 0) 10),
   .ite (.aK .eq (.E 16)<|U 2) [
    .setItem (.E 17) (.av (.E 15) (U 0)) (.a5 112 [(.E 4),(.av (.E 3) (.av (.E 15) (U 0))),(U 1),(.E 7),(U 1)])] []] [],
  .expr (.b1 (.E 11) 0 [(.ak [(.ak [(.E 13),(.E 15)]),(.a5 111 [(.E 4),(.ak [(.E 13),(.E 15)]),(.b6 .mF (.E 16) (U 2)),(.E 17)])])])],
 .gQ (.aS 18) (.ak [(U 3),(U 4),(U 1),(U 2)]) [
  .gQ (.iV [5,14]) (.ak [(.ak [(U 0),(U 1)]),(.ak [(U 2),(U 0)])]) [
   .assign (.aS 19) (.ite (.aK .eq (.E 18)<|U 3) (.neg<|U 1)<|.a5 113 [(.av (.av (.E 11)<|.E 5)<|U 0),(.av (.av (.E 11)<|.E 14)<|U 0),(.E 18)]),
   .assign (.aS 20) (.a5 114 [(.E 9),(.E 18)]),
   .ite (.and (.aK .ge (.E 19)<|U 0)<|.aK .bw (.a5 40 [(.E 20),(.av (.av (.E 11)<|.E 5)<|U 1),(.av (.av (.E 11)<|.E 14)<|U 1)])<|.aK .eq (.E 19)<|U 1) [
    .ret (.bc (.bool false))] [],
   .ite (.or (.not (.a5 40 [(.E 20),(.av (.av (.E 11)<|.E 5)<|U 1),(U 13)]))<|.not (.a5 40 [(.E 20),(U 13),(.av (.av (.E 11)<|.E 14)<|U 1)])) [
    .ret (.bc (.bool false))] []]],
 .gQ (.iV [5,14]) (.ak [(.ak [(U 0),(U 1)]),(.ak [(U 1),(U 2)]),(.ak [(U 0),(U 2)])]) [
  .assign (.aS 21) (.a5 107 [(.av (.av (.E 11)<|.E 5)<|U 0),(.av (.av (.E 11)<|.E 14)<|U 0),(.E 8)]),
  .assign (.aS 20) (.a5 114 [(.E 9),(U 3)]),
  .ite (.or (.aK .bw (.a5 40 [(.E 20),(.av (.av (.E 11)<|.E 5)<|U 1),(.av (.av (.E 11)<|.E 14)<|U 1)])<|.E 21)<|.aK .bw (.a5 40 [(.E 20),(.av (.av (.E 11)<|.E 14)<|U 1),(.av (.av (.E 11)<|.E 5)<|U 1)])<|.E 21) [
   .ret (.bc (.bool false))] [],
  .ite (.E 21) [
   .gQ (.aS 18) (.ak [(U 4),(U 1)]) [
    .assign (.aS 20) (.a5 114 [(.E 9),(.E 18)]),
    .ite (.or (.not (.a5 40 [(.E 20),(.av (.av (.E 11)<|.E 5)<|U 1),(.av (.av (.E 11)<|.E 14)<|U 1)]))<|.not (.b1 (.aZ (.E 20) 37) 13 [])) [
     .ret (.bc (.bool false))] [],
    .ite (.or (.not (.a5 40 [(.E 20),(.av (.av (.E 11)<|.E 14)<|U 1),(.av (.av (.E 11)<|.E 5)<|U 1)]))<|.not (.b1 (.aZ (.E 20) 37) 13 [])) [
     .ret (.bc (.bool false))] []]] []],
 .ret (.bc (.bool true))]⟩
noncomputable def lo:List fq:=[
 ⟨1,[],[
 .setAttr (.E 0) 45 (.fi [])]⟩,
 ⟨3,[],[
 .expr (.b1 (.aZ (.E 0) 45) 0 [(.ak [(.E 1),(.E 2)])])]⟩,
 ⟨1,[],[
 .ret (.not (.aZ (.E 0) 45))]⟩,
 ⟨1,[],[
 .setAttr (.E 0) 45 (.fi []),
 .setAttr (.E 0) 23 .l2,
 .setAttr (.E 0) 14 (.fi [(.bc<|.none)]),
 .setAttr (.E 0) 11 (.fi []),
 .setAttr (.E 0) 16 (.fi []),
 .setAttr (.E 0) 34 (.fi []),
 .setAttr (.E 0) 39 .l2,
 .setAttr (.E 0) 43 .l2,
 .setAttr (.E 0) 49 (U 0),
 .setAttr (.E 0) 42 (U 0),
 .gQ (.aS 1) (.bc<|.ak [.ak [.int<|1,.str<|aa "any"],.ak [.int<|1,.str<|aa "unknown"],.ak [.int<|1,.str<|aa "never"],.ak [.int<|1,.str<|aa "void"],.ak [.int<|1,.str<|aa "undefined"],.ak [.int<|1,.str<|aa "null"],.ak [.int<|1,.str<|aa "string"],.ak [.int<|1,.str<|aa "number"],.ak [.int<|2,.int<|0,.int<|0],.ak [.int<|2,.int<|1,.int<|0],.ak [.int<|1,.str<|aa "object"],.ak [.int<|8,.ak [],.ak [],.ak [],.ak [],.ak [],.int<|0],.ak [.int<|6,.ak [.int<|8,.int<|9]],.ak [.int<|1,.str<|aa "error"],.ak [.int<|2,.int<|0,.int<|1],.ak [.int<|2,.int<|1,.int<|1]]) [
  .expr (.b1 (.E 0) 41 [(.E 1)])]]⟩,
 ⟨2,[],[
 .ret (.av (.aZ (.E 0) 45) (.E 1))]⟩,
 ⟨2,[],[
 .ite (.aK .dU (.E 1)<|.aZ (.E 0) 23) [
  .ret (.av (.aZ (.E 0) 23) (.E 1))] [],
 .assign (.aS 2) (.cw .len<|.aZ (.E 0) 45),
 .expr (.b1 (.aZ (.E 0) 45) 0 [(.E 1)]),
 .setItem (.aZ (.E 0) 23) (.E 1) (.E 2),
 .ret (.E 2)]⟩,
 ⟨4,[],[
 .setAttr (.E 0) 17 (.E 1),
 .setAttr (.E 0) 24 (.E 2),
 .setAttr (.E 0) 33 (.E 3),
 .setAttr (.E 0) 40 (.ak []),
 .setAttr (.E 0) 10 (.neg<|U 1),
 .setAttr (.E 0) 9 (.ak []),
 .setAttr (.E 0) 50 (.neg<|U 1),
 .setAttr (.E 0) 18 (U 0),
 .setAttr (.E 0) 4 (.bc<|.bool false),
 .setAttr (.E 0) 28 (.fi []),
 .setAttr (.E 0) 56 (.fi []),
 .setAttr (.E 0) 12 (U 0),
 .setAttr (.E 0) 7 (U 0),
 .setAttr (.E 0) 19 (.bc<|.str<|aa ""),
 .setAttr (.E 0) 35 (U 0)]⟩,
 ⟨3,[.int<|0],[
 .ret (.b1 (.E 0) 41 [(.ak [(U 3),(.E 1),(.E 2)])])]⟩,
 ⟨3,[.int<|0],[
 .ret (.b1 (.E 0) 41 [(.ak [(U 4),(.E 1),(.E 2)])])]⟩,
 ⟨3,[.int<|0],[
 .ret (.b1 (.E 0) 41 [(.ak [(U 2),(.ite (.E 1) (U 1) (U 0)),(.E 2)])])]⟩,
 ⟨3,[],[
 .ret (.b1 (.E 0) 41 [(.ak [(U 9),(.E 1),(.cw .tuple (.E 2))])])]⟩,
 ⟨1,[],[
 .assign (.aS 1) .l2,
 .gQ (.aS 2) (.E 0) [
  .setItem (.E 1) (.av (.E 2) (U 0)) (.E 2)],
 .ret (.cw .tuple (.comp (.av (.E 1) (.E 5)) (.aS 5) (.cw .sorted (.E 1)) []))]⟩,
 ⟨7,[.ak [],.ak [],.ak [],.ak [],.int<|0],[
 .ret (.b1 (.E 0) 41 [(.ak [(U 8),(.a5 11 [(.E 1)]),(.cw .tuple (.E 2)),(.cw .tuple (.E 3)),(.E 4),(.E 5),(.E 6)])])]⟩,
 ⟨2,[],[
 .ret (.b1 (.E 0) 41 [(.ak [(U 8),(.ak []),(.ak [(.E 1)]),(.ak []),(.ak []),(.ak []),(U 0)])])]⟩,
 ⟨3,[],[
 .assign (.aS 3) (.l3 2 [(.cw .len<|.aZ (.E 0) 14),(.E 1),(.E 2)]),
 .expr (.b1 (.aZ (.E 0) 14) 0 [(.E 3)]),
 .ret (.E 3)]⟩,
 ⟨2,[],[
 .ite (.aK .eq (.E 1)<|U 2) [
  .ret (.ak [])] [],
 .assign (.aS 2) (.av (.aZ (.E 0) 45)<|.E 1),
 .ite (.aK .eq (.av (.E 2)<|U 0)<|U 6) [
  .ret (.av (.E 2) (U 1))] [],
 .ret (.ak [(.E 1)])]⟩,
 ⟨1,[],[
 .assign (.aS 1) (.av (.E 0)<|U 0),
 .ite (.or (.aK .eq (.E 1)<|U 3)<|.aK .eq (.E 1)<|U 18) [
  .ret (U 6)] [],
 .ite (.aK .eq (.E 1)<|U 4) [
  .ret (U 7)] [],
 .ite (.aK .eq (.E 1)<|U 5) [
  .ret (.ite (.cw .range (.bc (.none))) (U 6) (U 7))] [],
 .ret (.neg (U 1))]⟩,
 ⟨2,[],[
 .assign (.aS 2) (.av (.aZ (.E 0) 45)<|.E 1),
 .ite (.and (.aK .dU (.av (.E 2)<|U 0)<|.bc<|.ak [.int<|2,.int<|3,.int<|4,.int<|5,.int<|8])<|.aK .eq (.av (.E 2)<|.neg<|U 1)<|U 1) [
  .ret (.b1 (.aZ (.E 0) 23) 3 [(.b6 .add (.jf (.E 2) none (some (.neg (U 1)))) (.ak [(U 0)])),(.neg (U 1))])] [],
 .ret (.neg (U 1))]⟩,
 ⟨1,[],[
 .ite (.and (.or (.aK .dU (U 8)<|.E 0)<|.aK .dU (U 14)<|.E 0)<|.or (.aK .dU (U 9)<|.E 0)<|.aK .dU (U 15)<|.E 0) [
  .setItem (.E 0) (U 8) (U 1),
  .setItem (.E 0) (U 9) (U 1)] []]⟩,
 ⟨3,[],[
 .ite (.aK .dU (.a5 17 [(.E 0),(.E 2)])<|.E 1) [
  .ret (.bc (.bool false))] [],
 .ret (.aK .je (.a5 16 [(.av (.aZ (.E 0) 45) (.E 2))]) (.E 1))]⟩,
 ⟨1,[],[
 .gQ (.aS 1) (.ak [(U 0),(U 13),(U 1)]) [
  .ite (.aK .dU (.E 1)<|.E 0) [
   .ret (.E 1)] []],
 .ret (.neg (U 1))]⟩,
 ⟨2,[],[
 .assign (.aS 2) .l2,
 .gQ (.aS 3) (.E 1) [
  .gQ (.aS 4) (.a5 15 [(.E 0),(.E 3)]) [
   .setItem (.E 2) (.E 4) (U 1)]],
 .assign (.aS 5) (.a5 20 [(.E 2)]),
 .ite (.aK .ge (.E 5)<|U 0) [
  .ret (.E 5)] [],
 .expr (.a5 18 [(.E 2)]),
 .assign (.aS 6) (.comp (.E 17) (.aS 17) (.cw .sorted<|.E 2) [(.a5 19 [(.E 0),(.E 2),(.E 17)])]),
 .ite (.not (.E 6)) [
  .ret (U 2)] [],
 .ite (.aK .eq (.cw .len<|.E 6)<|U 1) [
  .ret (.av (.E 6) (U 0))] [],
 .ite (.aK .gt (.cw .len<|.E 6)<|U 400) [
  .fA] [],
 .ret (.b1 (.E 0) 41 [(.ak [(U 6),(.cw .tuple (.E 6))])])]⟩,
 ⟨2,[],[
 .ret (.a5 21 [(.E 0),(.ak [(.E 1),(U 4)])])]⟩,
 ⟨2,[],[
 .ret (.aK .dU (.av (.av (.aZ (.E 0) 45) (.E 1)) (U 0)) (.bc (.ak [.int (2),.int (3),.int (4),.int (5)])))]⟩,
 ⟨2,[],[
 .ret (.or (.aK .eq (.E 1) (U 4)) (.or (.aK .eq (.E 1) (U 5)) (.a5 23 [(.E 0),(.E 1)])))]⟩,
 ⟨2,[],[
 .assign (.aS 2) (.av (.aZ (.E 0) 45)<|.E 1),
 .ret (.and (.aK .dU (.av (.E 2) (U 0)) (.bc (.ak [.int (2),.int (3),.int (4),.int (5),.int (8)]))) (.aK .eq (.av (.E 2) (.neg (U 1))) (U 1)))]⟩,
 ⟨2,[],[
 .ite (.a5 25 [(.E 0),(.E 1)]) [
  .ret (.b1 (.E 0) 41 [(.b6 .add (.jf (.av (.aZ (.E 0) 45) (.E 1)) none (some (.neg (U 1)))) (.ak [(U 0)]))])] [],
 .ret (.E 1)]⟩,
 ⟨4,[],[
 .fA]⟩,
 ⟨4,[],[
 .fA]⟩,
 ⟨3,[],[
 .setAttr (.E 0) 22 (.E 1),
 .setAttr (.E 0) 30 (.E 2),
 .setAttr (.E 0) 46 .l2,
 .setAttr (.E 0) 6 .l2,
 .setAttr (.E 0) 25 .l2,
 .setAttr (.E 0) 54 (.fi []),
 .setAttr (.E 0) 44 (.fi []),
 .setAttr (.E 0) 15 (U 0),
 .setAttr (.E 0) 37 (.l3 0 []),
 .setAttr (.E 0) 52 (.bc<|.bool true),
 .setAttr (.E 0) 55 (.bc<|.none),
 .setAttr (.E 0) 29 (.bc<|.str<|aa ""),
 .setAttr (.E 0) 7 (U 0)]⟩,
 ⟨3,[],[
 .ret (.a5 40 [(.E 0),(.E 1),(.E 2)])]⟩,
 ⟨2,[],[
 .ite (.aZ (.E 0) 52) [
  .expr (.b1 (.aZ (.E 0) 37) 41 [(.E 1),(.aZ (.E 0) 7)])] []]⟩,
 ⟨3,[],[
 .ret (.or (.aK .eq (.E 1) (.E 2)) (.b1 (.a5 37 [(.E 0)]) 5 [(.E 1),(.E 2)]))]⟩,
 ⟨1,[],[
 .ret (.ak [(.cw .len (.aZ (.aZ (.E 0) 37) 45)),(.cw .len (.aZ (.E 0) 54))])]⟩,
 ⟨2,[],[
 .expr (.a5 38 [(.E 0),(.E 1)])]⟩,
 ⟨4,[],[
 .assign (.aS 4) (.b1 (.aZ (.E 0) 46) 3 [(.E 1)]),
 .ret (.and (.aK .xk (.E 4) (.bc (.none))) (.b1 (.E 4) 21 [(.E 0),(.E 2),(.E 3)]))]⟩,
 ⟨2,[],[
 .assign (.aS 2) (.l3 3 [(.aZ (.E 0) 22),(.E 1)]),
 .setAttr (.E 2) 46 (.aZ (.E 0) 46),
 .setAttr (.E 2) 52 (.bc<|.bool false),
 .ret (.E 2)]⟩,
 ⟨1,[],[
 .ite (.aK .eq (.aZ (.E 0) 30)<|U 3) [
  .ret (.E 0)] [],
 .ite (.aK .is (.aZ (.E 0) 55)<|.bc<|.none) [
  .setAttr (.E 0) 55 (.a5 36 [(.E 0),(U 3)])] [],
 .ret (.aZ (.E 0) 55)]⟩,
 ⟨2,[],[
 .xl (.aZ (.aZ (.E 0) 37) 45) (.av (.E 1)<|U 0),
 .pw (.aK .gt (.cw .len<|.aZ (.E 0) 54)<|.av (.E 1)<|U 1) [
  .delItem (.aZ (.E 0) 6) (.b1 (.aZ (.E 0) 54) 1 [])]]⟩,
 ⟨2,[],[
 .assign (.aS 1) (.b1 (.E 0) 20 [(.E 1)]),
 .ite (.a5 23 [(.aZ (.E 0) 51),(.E 1)]) [
  .ret (.a5 26 [(.aZ (.E 0) 51),(.E 1)])] [],
 .ret (.E 1)]⟩,
 Dd,
 zJ,
 ⟨2,[],[
 .gQ (.aS 2) (.aZ (.E 0) 54) [
  .delItem (.aZ (.E 0) 6) (.E 2),
  .ite (.E 1) [
   .setItem (.aZ (.E 0) 25) (.E 2) (.bc (.bool true))] []],
 .setAttr (.E 0) 54 (.fi [])]⟩,
 ⟨1,[],[
 .ret (.and (.aZ (.E 0) 52) (.aK .eq (.aZ (.E 0) 30) (U 1)))]⟩,
 ⟨3,[],[
 .ite (.and (.a5 43 [(.E 0)])<|.and (.aK .bw (.E 1)<|U 13)<|.and (.aK .bw (.E 2)<|U 13)<|.not (.b1 (.E 0) 47 [(.E 1),(.E 2)])) [
  .expr (.b1 (.E 0) 36 [(U 3)])] []]⟩,
 ⟨5,[],[
 .ite (.E 4) [
  .xm] [],
 .ite (.E 3) [
  .expr (.b1 (.E 0) 36 [(U 4)])] [],
 .expr (.a5 44 [(.E 0),(.E 1),(.E 2)])]⟩,
 ⟨3,[],[
 .ip 3 (.cw .len<|.E 1) [
  .ite (.not (.b1 (.E 0) 5 [(.av (.E 1)<|.E 3),(.av (.E 2)<|.E 3)])) [
   .ret (.bc (.bool false))] []],
 .ret (.bc (.bool true))]⟩,
 zK,
 H4,
 ⟨2,[],[
 .ite (.aK .dU (.av (.av (.aZ (.aZ (.aZ (.E 0) 22) 51) 45)<|.E 1)<|U 0)<|.bc<|.ak [.int<|10,.int<|14,.int<|15,.int<|16,.int<|17,.int<|18,.int<|19]) [
  .ret (.neg (U 1))] [],
 .assign (.aS 2) (.a5 15 [(.aZ (.aZ (.E 0) 22) 51),(.E 1)]),
 .ite (.aK .eq (.aZ (.E 0) 30)<|U 4) [
  .ret (U 0)] [],
 .ret (.ite (.and (.aK .dU (U 11) (.E 2)) (.and (.aK .dU (U 5) (.E 2)) (.aK .dU (U 4) (.E 2)))) (U 1) (U 0))]⟩,
 ⟨1,[],[
 .ret (.and (.aK .eq (.av (.E 0) (U 0)) (U 5)) (.aK .eq (.a5 16 [(.E 0)]) (U 7)))]⟩,
 H5,
 ⟨4,[],[
 .ite (.or (.aK .eq (.aZ (.E 0) 30)<|U 4)<|.not (.a5 50 [(.E 3)])) [
  .ret (U 0)] [],
 .ite (.or (.aK .eq (.E 1)<|U 7)<|.and (.aK .eq (.av (.E 2)<|U 0)<|U 4)<|.aK .eq (.av (.E 2)<|U 1)<|.av (.E 3)<|U 3) [
  .expr (.b1 (.E 0) 36 [(U 10)]),
  .ret (U 1)] [],
 .ret (U 0)]⟩,
 ⟨3,[],[
 .assign (.aS 3) (.aZ (.aZ (.aZ (.E 0) 22) 51) 45),
 .assign (.aS 4) (.av (.av (.E 3)<|.E 1)<|U 0),
 .assign (.aS 5) (.av (.av (.E 3)<|.E 2)<|U 0),
 .ite (.aK .eq (.E 4)<|U 6) [
  .ret (.a5 55 [(.E 0),(.E 1),(.E 2)])] [],
 .ite (.aK .eq (.E 5)<|U 6) [
  .ret (.a5 58 [(.E 0),(.E 1),(.E 2)])] [],
 .ret (.a5 35 [(.E 0),(.a5 54 [(.E 4),(.E 5)]),(.E 1),(.E 2)])]⟩,
 ⟨2,[],[
 .ite (.or (.aK .eq (.E 0)<|U 7)<|.aK .eq (.E 1)<|U 7) [
  .ret (U 1)] [],
 .ite (.or (.aK .dU (.E 0)<|.bc<|.ak [.int<|10,.int<|14,.int<|15,.int<|16,.int<|17,.int<|18,.int<|19])<|.aK .dU (.E 1)<|.bc<|.ak [.int<|10,.int<|14,.int<|15,.int<|16,.int<|17,.int<|18,.int<|19]) [
  .ret (U 2)] [],
 .ite (.and (.aK .eq (.E 0)<|U 13)<|.aK .eq (.E 1)<|U 13) [
  .ret (U 3)] [],
 .ite (.and (.aK .dU (.E 0)<|.bc<|.ak [.int<|11,.int<|12])<|.aK .dU (.E 1)<|.bc<|.ak [.int<|11,.int<|12]) [
  .ret (U 4)] [],
 .ret (U 5)]⟩,
 xv,
 H6,
 H7,
 ⟨3,[],[
 .assign (.aS 3) (.aZ (.aZ (.E 0) 22) 51),
 .assign (.aS 4) (.a5 15 [(.E 3),(.E 2)]),
 .ite (.or (.aK .dU (.E 1)<|.E 4)<|.a5 56 [(.E 0),(.E 1),(.E 4)]) [
  .ret (.bc (.bool true))] [],
 .assign (.aS 5) (.av (.av (.aZ (.E 3) 45)<|.E 1)<|U 0),
 .ite (.aK .dU (.E 5)<|.bc<|.ak [.int<|10,.int<|14,.int<|15,.int<|16,.int<|17,.int<|18,.int<|19]) [
  .ret (.a5 35 [(.E 0),(U 2),(.E 1),(.E 2)])] [],
 .ite (.and (.aK .eq (.E 5)<|U 7)<|.a5 35 [(.E 0),(U 1),(.E 1),(.E 2)]) [
  .ret (.bc (.bool true))] [],
 .ite (.or (.aK .eq (.E 5)<|U 7)<|.aK .dU (.E 5)<|.bc<|.ak [.int<|8,.int<|9]) [
  .ret (.a5 35 [(.E 0),(U 6),(.E 1),(.E 2)])] [],
 .ret (.and (.aK .eq (.E 5) (U 12)) (.a5 35 [(.E 0),(U 12),(.E 1),(.E 2)]))]⟩,
 ⟨3,[],[
 .assign (.aS 3) (.aZ (.aZ (.aZ (.E 0) 22) 51) 45),
 .assign (.aS 4) (.av (.E 3)<|.E 1),
 .assign (.aS 5) (.av (.E 3)<|.E 2),
 .ite (.and (.aK .eq (.av (.E 4)<|U 0)<|.av (.E 5)<|U 0)<|.or (.aK .eq (.av (.E 4)<|U 0)<|U 6)<|.aK .eq (.av (.E 4)<|U 0)<|U 7) [
  .ret (.and (.a5 60 [(.E 0),(.av (.E 4) (U 1)),(.av (.E 5) (U 1))]) (.a5 60 [(.E 0),(.av (.E 5) (U 1)),(.av (.E 4) (U 1))]))] [],
 .ite (.or (.aK .dU (.av (.E 4)<|U 0)<|.ak [(U 6),(U 7)])<|.aK .dU (.av (.E 5)<|U 0)<|.ak [(U 6),(U 7)]) [
  .ret (.bc (.bool false))] [],
 .ret (.a5 35 [(.E 0),(.a5 54 [(.av (.E 4) (U 0)),(.av (.E 5) (U 0))]),(.E 1),(.E 2)])]⟩,
 H8,
 ⟨2,[],[
 .ip 2 (U 40) [
  .ite (.aK .lt (.E 1)<|U 0) [
   .fA] [],
  .assign (.aS 3) (.av (.aZ (.E 0) 45)<|.E 1),
  .ite (.aK .eq (.av (.E 3)<|U 0)<|U 8) [
   .ret (.E 1)] [],
  .ite (.aK .eq (.av (.E 3)<|U 0)<|U 13) [
   .ret (.a5 13 [(.E 0),(.E 1)])] [],
  .ite (.aK .dU (.av (.E 3)<|U 0)<|.bc<|.ak [.int<|1,.int<|2,.int<|3,.int<|4,.int<|5]) [
   .ret (U 11)] [],
  .ite (.or (.aK .bw (.av (.E 3)<|U 0)<|U 9)<|.or (.av (.E 3)<|U 2)<|.aZ (.av (.aZ (.E 0) 14)<|.av (.E 3)<|U 1) 9) [
   .fA] [],
  .assign (.aS 1) (.aZ (.av (.aZ (.E 0) 14) (.av (.E 3) (U 1))) 10)],
 .fA]⟩,
 ⟨2,[],[
 .assign (.aS 2) (.av (.aZ (.E 0) 45)<|.E 1),
 .ret (.ite (.aK .eq (.av (.E 2) (U 0)) (U 9)) (.av (.E 2) (U 1)) (U 0))]⟩,
 ⟨2,[],[
 .setAttr (.E 0) 51 (.E 1),
 .setAttr (.E 0) 15 (U 0),
 .setAttr (.E 0) 32 (U 200),
 .setAttr (.E 0) 31 (U 40)]⟩,
 ⟨2,[],[
 .ret (.E 1)]⟩,
 ⟨2,[],[
 .fA]⟩,
 ⟨3,[],[
 .ret (.bc (.none))]⟩,
 ⟨2,[],[
 .setAttr (.E 0) 51 (.E 1),
 .setAttr (.E 0) 15 (U 0),
 .setAttr (.E 0) 32 (U 200),
 .setAttr (.E 0) 31 (U 40)]⟩,
 ⟨2,[],[
 .ret (.a5 61 [(.aZ (.E 0) 51),(.E 1)])]⟩,
 ⟨2,[],[
 .gQ (.aS 2) (.av (.E 0)<|U 1) [
  .ite (.aK .eq (.av (.E 2)<|U 0)<|.E 1) [
   .ret (.E 2)] []],
 .ret (.bc (.none))]⟩,
 ⟨3,[],[
 .assign (.aS 1) (.b1 (.E 0) 20 [(.E 1)]),
 .assign (.aS 3) (.av (.aZ (.aZ (.E 0) 51) 45)<|.E 1),
 .ite (.or (.aK .eq (.av (.E 3)<|U 0)<|U 11)<|.aK .eq (.av (.E 3)<|U 0)<|U 12) [
  .assign (.aS 4) (.b1 (.E 0) 26 [(.E 1),(.E 2)])] [
  .assign (.aS 4) (.a5 69 [(.av (.aZ (.aZ (.E 0) 51) 45) (.b1 (.E 0) 48 [(.E 1)])),(.E 2)])],
 .ret (.ite (.aK .is (.E 4) (.bc (.none))) (.bc (.none)) (.ak [(.E 2),(.b1 (.E 0) 20 [(.av (.E 4) (U 1))]),(.av (.E 4) (U 2)),(.av (.E 4) (U 3))]))]⟩,
 ⟨2,[],[
 .ret (.ite (.b6 .dj (.av (.E 1) (U 2)) (U 1)) (.a5 22 [(.E 0),(.av (.E 1) (U 1))]) (.av (.E 1) (U 1)))]⟩,
 ⟨3,[],[
 .assign (.aS 3) .l2,
 .assign (.aS 4) (.fi [(.E 1)]),
 .pw (.E 4) [
  .assign (.aS 5) (.b1 (.E 4) 1 []),
  .ite (.aK .eq (.E 5)<|.E 2) [
   .ret (.bc (.bool true))] [],
  .ite (.and (.aK .bw (.E 5)<|U 0)<|.aK .je (.E 5)<|.E 3) [
   .setItem (.E 3) (.E 5) (U 1),
   .expr (.b1 (.E 4) 2 [(.comp (.a5 62 [(.aZ (.E 0) 51),(.E 6)]) (.aS 6) (.aZ (.av (.aZ (.aZ (.E 0) 51) 14) (.E 5)) 9) [])])] []],
 .ret (.bc (.bool false))]⟩,
 ⟨1,[],[
 .ite (.or (.aK .eq (.av (.E 0)<|U 1)<|.ak [])<|.or (.aK .bw (.av (.E 0)<|U 2)<|.ak [])<|.or (.aK .bw (.av (.E 0)<|U 3)<|.ak [])<|.or (.aK .bw (.av (.E 0)<|U 4)<|.ak [])<|.aK .bw (.av (.E 0)<|U 5)<|.ak []) [
  .ret (.bc (.bool false))] [],
 .ret (.cw .all (.comp (.aK .bw (.b6 .dj (.av (.E 2) (U 2)) (U 1)) (U 0)) (.aS 2) (.av (.E 0) (U 1)) []))]⟩,
 ⟨2,[],[
 .ite (.aK .dU (.E 1)<|.ak [(U 0),(U 1),(U 2),(U 13),(U 3),(U 4),(U 5),(U 10)]) [
  .ret (.bc (.bool true))] [],
 .assign (.aS 2) (.av (.av (.aZ (.aZ (.E 0) 51) 45)<|.E 1)<|U 0),
 .ite (.and (.aK .je (.E 2)<|.bc<|.ak [.int<|8,.int<|9])<|.aK .je (.E 2)<|.bc<|.ak [.int<|6,.int<|7,.int<|10,.int<|14,.int<|15,.int<|16,.int<|17,.int<|18,.int<|19]) [
  .ret (.bc (.bool false))] [],
 .assign (.aS 3) (.av (.aZ (.aZ (.E 0) 51) 45)<|.b1 (.E 0) 48 [(.E 1)]),
 .ret (.and (.aK .eq (.av (.E 3) (U 1)) (.ak [])) (.and (.aK .eq (.av (.E 3) (U 2)) (.ak [])) (.aK .eq (.av (.E 3) (U 3)) (.ak []))))]⟩,
 ⟨2,[],[
 .assign (.aS 2) (.av (.aZ (.aZ (.E 0) 51) 45)<|.E 1),
 .ite (.aK .eq (.av (.E 2)<|U 0)<|U 7) [
  .ret (.cw .all (.comp (.a5 75 [(.E 0),(.E 7)]) (.aS 7) (.av (.E 2) (U 1)) []))] [],
 .ret (.and (.aK .dU (.av (.E 2) (U 0)) (.bc (.ak [.int (8),.int (9)]))) (.a5 73 [(.av (.aZ (.aZ (.E 0) 51) 45) (.b1 (.E 0) 48 [(.E 1)]))]))]⟩,
 ⟨3,[],[
 .ite (.or (.not (.a5 75 [(.E 0),(.E 2)]))<|.a5 74 [(.E 0),(.E 1)]) [
  .ret (.bc (.bool false))] [],
 .assign (.aS 3) (.av (.aZ (.aZ (.E 0) 51) 45)<|.b1 (.E 0) 48 [(.E 2)]),
 .ret (.cw .all (.comp (.aK .is (.a5 70 [(.E 0),(.E 1),(.av (.E 7) (U 0))]) (.bc (.none))) (.aS 7) (.av (.E 3) (U 1)) []))]⟩,
 ⟨1,[],[
 .ret (.ite (.aK .eq (.av (.E 0) (U 0)) (U 9)) (.av (.E 0) (U 1)) (U 0))]⟩,
 ⟨4,[],[
 .assign (.aS 4) (.neg<|U 1),
 .assign (.aS 5) (U 0),
 .gQ (.aS 6) (.E 0) [
  .ite (.and (.aK .eq (.av (.E 6)<|.E 1)<|.E 2)<|.aK .gt (.av (.E 6)<|.b6 .add (.E 1)<|U 1)<|.E 4) [
   .assign (.aS 4) (.av (.E 6)<|.b6 .add (.E 1)<|U 1),
   .tx 5 .add (U 1)] []],
 .ret (.and (.aK .gt (.E 2) (U 0)) (.and (.aK .ge (.E 5) (U 3)) (.aK .gt (.E 3) (.E 4))))]⟩,
 ⟨3,[],[
 .ite (.aK .ge (.cw .len<|.aZ (.E 0) 44)<|U 24) [
  .ret (.bc (.bool true))] [],
 .assign (.aS 3) (.aZ (.aZ (.aZ (.E 0) 22) 51) 45),
 .ite (.not (.a5 78 [(.aZ (.E 0) 44),(U 0),(.a5 77 [(.av (.E 3)<|.E 1)]),(.E 1)])) [
  .ret (.bc (.bool false))] [],
 .ret (.a5 78 [(.aZ (.E 0) 44),(U 2),(.a5 77 [(.av (.E 3) (.E 2))]),(.E 2)])]⟩,
 ⟨4,[],[
 .assign (.aS 4) (.aZ (.aZ (.E 0) 22) 51),
 .assign (.aS 5) (.av (.aZ (.E 4) 45)<|.E 1),
 .assign (.aS 6) (.av (.aZ (.E 4) 45)<|.E 2),
 .ite (.aK .eq (.E 2)<|U 10) [
  .ret (.a5 35 [(.E 0),(U 14),(.E 1),(.E 2)])] [],
 .ite (.aK .je (.av (.E 6)<|U 0)<|.bc<|.ak [.int<|8,.int<|9]) [
  .ret (.bc (.bool false))] [],
 .ite (.and (.aK .eq (.av (.E 5)<|U 0)<|U 9)<|.and (.aK .eq (.av (.E 6)<|U 0)<|U 9)<|.and (.aK .eq (.av (.E 5)<|U 1)<|.av (.E 6)<|U 1)<|.aZ (.av (.aZ (.E 4) 14)<|.av (.E 5)<|U 1) 56) [
  .ite (.aK .dU (U 11)<|.aZ (.E 0) 46) [
   .ret (.a5 81 [(.E 0),(.E 1),(.E 2),(.E 5),(.E 6)])] []] [],
 .ret (.a5 82 [(.E 0),(.E 1),(.E 2),(.E 3)])]⟩,
 ⟨5,[],[
 .assign (.aS 5) (.b1 (.E 0) 27 []),
 .ite (.a5 35 [(.E 0),(U 11),(.E 1),(.E 2)]) [
  .ret (.bc (.bool true))] [],
 .expr (.b1 (.E 0) 8 [(.E 5)]),
 .assign (.aS 6) (.aZ (.av (.aZ (.aZ (.aZ (.E 0) 22) 51) 14)<|.av (.E 3)<|U 1) 56),
 .ip 7 (.cw .len<|.av (.E 4)<|U 2) [
  .ite (.and (.aK .eq (.av (.E 6)<|.E 7)<|U 1)<|.aK .eq (.b1 (.aZ (.E 0) 22) 20 [(.av (.av (.E 4)<|U 2)<|.E 7)])<|U 3) [
   .ret (.a5 82 [(.E 0),(.E 1),(.E 2),(.bc (.bool false))])] []],
 .ret (.bc (.bool false))]⟩,
 ⟨4,[],[
 .ite (.a5 79 [(.E 0),(.E 1),(.E 2)]) [
  .expr (.b1 (.E 0) 36 [(U 15)]),
  .ret (.bc (.bool true))] [],
 .assign (.aS 4) (.aZ (.aZ (.aZ (.E 0) 22) 51) 45),
 .expr (.b1 (.aZ (.E 0) 44) 0 [(.ak [(.a5 77 [(.av (.E 4)<|.E 1)]),(.E 1),(.a5 77 [(.av (.E 4)<|.E 2)]),(.E 2)])]),
 .ite (.aK .eq (.aZ (.E 0) 30)<|U 3) [
  .assign (.aS 5) (.a5 94 [(.E 0),(.E 1),(.E 2)])] [
  .assign (.aS 5) (.a5 85 [(.E 0),(.E 1),(.E 2),(.E 3)])],
 .expr (.b1 (.aZ (.E 0) 44) 1 []),
 .ret (.E 5)]⟩,
 ⟨1,[],[
 .ret (.aK .bw (.b6 .dj (.av (.E 0) (U 2)) (.b6 .io (U 2) (U 32))) (U 0))]⟩,
 ⟨2,[],[
 .ret (.or (.aK .bw (.aZ (.E 0) 30) (U 2)) (.a5 24 [(.aZ (.aZ (.E 0) 22) 51),(.E 1)]))]⟩,
 H9,
 Ia,
 ⟨4,[],[
 .ite (.and (.or (.aK .bw (.av (.E 3)<|U 4)<|.ak [])<|.aK .bw (.av (.E 3)<|U 5)<|.ak [])<|.not (.a5 35 [(.E 0),(U 10),(.E 1),(.E 2)])) [
  .ret (.bc (.bool false))] [],
 .ite (.and (.aK .eq (.av (.E 3)<|U 2)<|.ak [])<|.aK .eq (.av (.E 3)<|U 3)<|.ak []) [
  .ret (.bc (.bool true))] [],
 .ret (.and (.aK .je (.av (.av (.aZ (.aZ (.aZ (.E 0) 22) 51) 45) (.E 1)) (U 0)) (.bc (.ak [.int (11),.int (12)]))) (.a5 35 [(.E 0),(U 8),(.E 1),(.E 2)]))]⟩,
 ⟨3,[],[
 .ite (.aK .eq (.b6 .dj (.av (.E 2)<|U 2)<|U 1)<|U 0) [
  .ite (.and (.aK .eq (.aZ (.E 0) 29)<|.bc<|.str<|aa "")<|.aK .eq (.cw .len<|.aZ (.E 0) 44)<|U 1) [
   .setAttr (.E 0) 29 (.av (.E 2) (U 0))] [],
  .ret (.bc (.bool false))] [],
 .ite (.a5 25 [(.aZ (.aZ (.E 0) 22) 51),(.E 1)]) [
  .ret (.bc (.bool true))] [],
 .ite (.aK .eq (.aZ (.E 0) 30)<|U 4) [
  .ret (.bc (.bool false))] [],
 .expr (.b1 (.E 0) 36 [(U 11)]),
 .ret (.bc (.bool true))]⟩,
 Ib,
 Ic,
 ⟨3,[],[
 .assign (.aS 3) (.av (.aZ (.aZ (.aZ (.E 0) 22) 51) 45)<|.E 1),
 .ite (.and (.aK .eq (.av (.E 3)<|U 0)<|U 12)<|.not (.av (.E 3)<|U 2)) [
  .ite (.or (.aK .dU (.av (.E 2)<|U 0)<|.bc<|.ak [.str<|aa "pop",.str<|aa "push",.str<|aa "reverse",.str<|aa "shift"])<|.and (.aK .eq (.av (.E 2)<|U 0)<|.bc<|.str<|aa "length")<|.not (.a5 83 [(.E 2)])) [
   .expr (.b1 (.E 0) 36 [(U 3)])] []] []]⟩,
 Id,
 ⟨3,[],[
 .assign (.aS 3) (.av (.aZ (.aZ (.aZ (.E 0) 22) 51) 45)<|.E 1),
 .assign (.aS 4) (.av (.aZ (.aZ (.aZ (.E 0) 22) 51) 45)<|.E 2),
 .ite (.or (.aK .je (.av (.E 3)<|U 0)<|.bc<|.ak [.int<|8,.int<|9])<|.aK .je (.av (.E 4)<|U 0)<|.bc<|.ak [.int<|8,.int<|9]) [
  .ret (.bc (.bool false))] [],
 .ite (.and (.aK .eq (.av (.E 3)<|U 0)<|U 9)<|.and (.aK .eq (.av (.E 4)<|U 0)<|U 9)<|.and (.aK .eq (.av (.E 3)<|U 1)<|.av (.E 4)<|U 1)<|.a5 46 [(.E 0),(.av (.E 3)<|U 2),(.av (.E 4)<|U 2)]) [
  .ret (.bc (.bool true))] [],
 .ret (.a5 82 [(.E 0),(.E 1),(.E 2),(.bc (.bool false))])]⟩,
 De,
 ⟨3,[],[
 .assign (.aS 3) (.aZ (.aZ (.E 0) 22) 51),
 .assign (.aS 4) (.b6 .io (.b6 .io (U 1)<|U 8)<|U 16),
 .ite (.or (.aK .bw (.av (.E 1)<|U 0)<|.av (.E 2)<|U 0)<|.or (.aK .bw (.b6 .dj (.av (.E 1)<|U 2)<|.E 4)<|.b6 .dj (.av (.E 2)<|U 2)<|.E 4)<|.aK .bw (.av (.E 1)<|U 3)<|.av (.E 2)<|U 3) [
  .ret (.bc (.bool false))] [],
 .ret (.and (.aK .eq (.a5 83 [(.E 1)]) (.a5 83 [(.E 2)])) (.b1 (.E 0) 5 [(.a5 71 [(.E 3),(.E 1)]),(.a5 71 [(.E 3),(.E 2)])]))]⟩,
 ⟨4,[],[
 .ite (.aK .eq (.aZ (.E 1) 30)<|U 3) [
  .ret (.a5 93 [(.E 1),(.E 2),(.E 3)])] [],
 .ret (.a5 80 [(.E 1),(.E 2),(.E 3),(.bc (.bool true))])]⟩,
 ⟨1,[],[
 .setItem (.aZ (.E 0) 46) (U 5) (.l3 5 [])]⟩,
 ⟨3,[],[
 .assign (.aS 3) (.av (.E 1)<|U 0),
 .setItem (.E 1) (U 0) (.b6 .add (.E 3)<|U 1),
 .assign (.aS 4) (.cw .len<|.E 0),
 .ret (.b6 .mF (.b6 .add (.av (.E 0) (.b6 .mF (.E 3) (.E 4))) (.b6 .mul (.b6 .fdiv (.E 3) (.E 4)) (.b6 .add (.b6 .mF (.av (.E 0) (U 0)) (U 7)) (.b6 .mul (U 3) (.E 3))))) (.E 2))]⟩,
 ⟨1,[],[
 .ite (.b6 .dj (.E 0)<|U 4096) [
  .ret (U 4096)] [],
 .ite (.b6 .dj (.E 0)<|U 2048) [
  .ret (U 2048)] [],
 .ite (.b6 .dj (.E 0)<|U 4) [
  .assign (.aS 0) (.b6 .dj (.E 0) (.tw (U 3)))] [],
 .ite (.b6 .dj (.E 0)<|U 32) [
  .assign (.aS 0) (.b6 .dj (.E 0) (.tw (U 24)))] [],
 .ret (.E 0)]⟩,
 ⟨2,[],[
 .assign (.aS 2) (.av (.bc<|.ak [.int<|1,.int<|2,.int<|4,.int<|8,.int<|3,.int<|32,.int<|36,.int<|192,.int<|0,.int<|256,.int<|512,.int<|513,.int<|1024,.int<|2048,.int<|4096,.int<|64])<|.a5 98 [(.E 0),(.E 1),(U 16)]),
 .assign (.aS 3) (.a5 98 [(.E 0),(.E 1),(U 14)]),
 .ite (.or (.b6 .dj (.E 2)<|U 6144)<|.aK .gt (.E 3)<|U 7) [
  .ret (.ak [(.E 2),(.ak [])])] [],
 .ret (.ak [(.E 2),(.cw .tuple (.jX (.E 8) 8 (U 3) [(.b6 .dj (.b6 .oe (.E 3) (.E 8)) (U 1))]))])]⟩,
 ⟨3,[],[
 .assign (.aS 3) (.a5 100 [(.E 0),(.E 1)]),
 .assign (.aS 4) (.av (.ak [(U 0),(U 0),(U 1),(U 2),(U 4),(U 32),(U 8),(U 16),(.b6 .io (U 1)<|U 2)])<|.a5 98 [(.E 0),(.E 1),(U 9)]),
 .assign (.aS 5) (.ite (.b6 .dj (.E 4)<|.b6 .io (U 8)<|U 16) (.b6 .add (U 1)<|.a5 98 [(.E 0),(.E 1),(U 2)])<|U 0),
 .ret (.ak [(.E 2),(.E 3),(.E 4),(.E 5)])]⟩,
 ⟨2,[],[
 .assign (.iV [2,3]) (.E 0),
 .ret (.ak [(.E 2),(.cw .tuple (.jX (.E 6) 6 (U 3) [(.aK .dU (.E 6) (.comp (.av (.E 1) (.E 7)) (.aS 7) (.E 3) []))]))])]⟩,
 ⟨3,[],[
 .assign (.aS 3) (.jX (.a5 98 [(.E 0),(.E 1),(U 3)]) 10 (U 3) []),
 .assign (.aS 4) (.comp (.ak [(.E 10),(.a5 102 [(.E 11),(.E 3)]),(.E 12),(.E 13)]) (.iV [10,11,12,13]) (.E 2) []),
 .assign (.aS 5) (.a5 98 [(.E 0),(.E 1),(U 10)]),
 .ite (.and (.aK .lt (.E 5)<|U 3)<|.aK .lt (.E 5)<|.cw .len<|.E 4) [
  .setItem (.E 4) (.E 5) (.a5 101 [(.E 0),(.E 1),(.av (.av (.E 4) (.E 5)) (U 0))])] [],
 .ite (.and (.aK .eq (.E 5)<|U 3)<|.aK .gt (.cw .len<|.E 4)<|U 1) [
  .assign (.aS 4) (.jf (.E 4) (some (U 1)) none)] [],
 .ret (.E 4)]⟩,
 ⟨2,[],[
 .assign (.aS 2) (.jX (.a5 101 [(.E 0),(.E 1),(.av (.bc<|.str<|aa "pqr")<|.E 8)]) 8 (.b6 .add (U 1)<|.a5 98 [(.E 0),(.E 1),(U 3)]) []),
 .assign (.aS 3) (.a5 103 [(.E 0),(.E 1),(.E 2)]),
 .assign (.aS 4) (.a5 103 [(.E 0),(.E 1),(.E 2)]),
 .ret (.fi [(.E 2),(.E 3),(.E 4)])]⟩,
 ⟨1,[],[
 .ret (.ak [(.ite (.b6 .dj (.av (.E 0) (U 2)) (U 1)) (.a5 99 [(.b6 .io (.av (.av (.E 0) (U 1)) (U 0)) (U 512))]) (.av (.av (.E 0) (U 1)) (U 0))),(.av (.av (.E 0) (U 1)) (U 1))])]⟩,
 ⟨1,[],[
 .ret (.b6 .add (.cw .len (.av (.E 0) (U 1))) (.cw .len (.jX (.E 3) 3 (U 13) [(.b6 .dj (.b6 .oe (.av (.E 0) (U 0)) (.E 3)) (U 1))])))]⟩,
 ⟨3,[],[
 .ite (.or (.aK .bw (.av (.E 0)<|U 0)<|.av (.E 1)<|U 0)<|.aK .bw (.aK .eq (.a5 106 [(.E 0)])<|U 1)<|.aK .eq (.a5 106 [(.E 1)])<|U 1) [
  .ret (.bc (.bool false))] [],
 .ite (.b6 .dj (.av (.E 0)<|U 0)<|U 6144) [
  .ret (.bc (.bool true))] [],
 .gQ (.aS 3) (.av (.E 0)<|U 1) [
  .ite (.aK .eq (.cw .len<|.comp (.E 7) (.aS 7) (.av (.E 1)<|U 1) [(.av (.E 2)<|.ak [(.E 3),(.E 7)])])<|U 0) [
   .ret (.bc (.bool false))] []],
 .gQ (.aS 4) (.av (.E 1)<|U 1) [
  .ite (.aK .eq (.cw .len<|.comp (.E 7) (.aS 7) (.av (.E 0)<|U 1) [(.av (.E 2)<|.ak [(.E 7),(.E 4)])])<|U 0) [
   .ret (.bc (.bool false))] []],
 .ret (.bc (.bool true))]⟩,
 ⟨3,[],[
 .ite (.aK .bw (.comp (.av (.E 10)<|U 0) (.aS 10) (.E 0) [])<|.comp (.av (.E 10)<|U 0) (.aS 10) (.E 1) []) [
  .ret (.bc (.bool false))] [],
 .ip 3 (.cw .len<|.E 0) [
  .assign (.aS 4) (.av (.E 0)<|.E 3),
  .assign (.aS 5) (.av (.E 1)<|.E 3),
  .ite (.or (.aK .bw (.b6 .dj (.av (.E 4)<|U 2)<|U 25)<|.b6 .dj (.av (.E 5)<|U 2)<|U 25)<|.or (.aK .bw (.aK .eq (.b6 .dj (.av (.E 4)<|U 2)<|U 34)<|U 0)<|.aK .eq (.b6 .dj (.av (.E 5)<|U 2)<|U 34)<|U 0)<|.aK .bw (.av (.E 4)<|U 3)<|.av (.E 5)<|U 3) [
   .ret (.bc (.bool false))] [],
  .ite (.not (.a5 107 [(.a5 105 [(.E 4)]),(.a5 105 [(.E 5)]),(.E 2)])) [
   .ret (.bc (.bool false))] []],
 .ret (.bc (.bool true))]⟩,
 ⟨1,[],[
 .assign (.aS 1) .l2,
 .ip 2 (U 3) [
  .ip 3 (U 3) [
   .setItem (.E 1) (.ak [(.E 2),(.E 3)]) (.bc (.bool true))]],
 .assign (.aS 4) (.bc<|.bool true),
 .pw (.E 4) [
  .assign (.aS 4) (.bc<|.bool false),
  .ip 2 (U 3) [
   .ip 3 (U 3) [
    .ite (.and (.aK .bw (.E 2)<|.E 3)<|.and (.av (.E 1)<|.ak [(.E 2),(.E 3)])<|.not (.a5 108 [(.av (.E 0)<|.E 2),(.av (.E 0)<|.E 3),(.E 1)])) [
     .setItem (.E 1) (.ak [(.E 2),(.E 3)]) (.bc<|.bool false),
     .assign (.aS 4) (.bc (.bool true))] []]]],
 .ret (.E 1)]⟩,
 ⟨3,[],[
 .ite (.aK .lt (.E 1)<|U 2) [
  .ret (.a5 7 [(.E 0),(.av (.bc (.str (aa "ab"))) (.E 1)),(.E 2)])] [],
 .ite (.or (.aK .eq (.E 1)<|U 3)<|.aK .eq (.E 1)<|U 4) [
  .ret (.a5 8 [(.E 0),(.b6 .sub (.E 1) (U 3)),(.E 2)])] [],
 .ite (.or (.aK .eq (.E 1)<|U 6)<|.aK .eq (.E 1)<|U 7) [
  .ret (.a5 9 [(.E 0),(.b6 .sub (.E 1) (U 6)),(.E 2)])] [],
 .ret (.av (.ak [(U 0),(U 0),(U 6),(U 0),(U 0),(U 7),(U 0),(U 0),(U 5),(U 4),(U 3),(U 1),(U 0)]) (.E 1))]⟩,
 ⟨4,[],[
 .assign (.aS 4) (.jX (.a5 110 [(.E 0),(.E 7),(.E 2)]) 7 (U 13) [(.b6 .dj (.b6 .oe (.av (.E 1)<|U 0)<|.E 7)<|U 1)]),
 .ret (.a5 21 [(.E 0),(.b6 .add (.E 4) (.comp (.av (.E 3) (.E 7)) (.aS 7) (.av (.E 1) (U 1)) []))])]⟩,
 ⟨5,[],[
 .assign (.aS 5) (.comp (.ak [(.E 7),(.a5 111 [(.E 0),(.E 8),(.E 2),(.E 3)]),(.E 9),(.E 10)]) (.iV [7,8,9,10]) (.E 1) []),
 .ret (.a5 12 [(.E 0),(.E 5),(.ak []),(.ak []),(.ak []),(.ak []),(.E 4)])]⟩,
 Ie,
 ⟨2,[],[
 .assign (.aS 2) (.l3 3 [(.E 0),(.E 1)]),
 .expr (.a5 97 [(.E 2)]),
 .ret (.E 2)]⟩,
 Ig]
end
section
set_option backward.match.sparseCases false
open PySem PySem.W PyProof.Rows PySem.SeqAt
variable{i d k ep tk eH cl aW:Nat}{p:Addr×Option Addr}{b:List (Str×Value)->(Str->Option Value)->Str->Option Value}{a aI gK ca it:Addr}{h aO:Heap}{vs ds first:List Value}{l zs xs:List I}{m ei e4:Str->Option Value}{v u qG tT:Value}{w:World}{ax:List DictEntry}{x name:Str}{W kn W1:List Addr}{o aF cS k5:Obj}{C S ox aw:St}{o':b5}{A:Around}{Q aB:Value->Shared->Prop}{s aY zX:Shared}{prog:Program}{y z:I}{t:Bool}{R:Prop}{K:Frag}{f:Str->Value->(Str->Option Value)->Str->Option Value}{op:od}{r:Option Value}{ns:List Int}{f9:Sem Bool}{oH:Int}{b1:Nat->Nat->Option Nat}{cV:Nat->Addr}{aL:jz}{sc:Sc}{aN:Env}{H aU:bS}{cf:Option Nat}{O:ht}{dx:b2}{ms ie:List b2}{df:Model}{args ifs:List Expr}{cL elt iter:Expr}{scope:Scope}{names:List (Str×NameKind)}{en:St->Bool}{mt:of}{use:Option (Value->Sem Unit)}{gens:List Comprehension}{body:List Stmt}{pS:List dA}{st:Stmt}{ps loose:List Str}{fd:FuncData}{qU:Str->Option NameKind}{fn:fq}{as:List Nat}{dQ:Array Value}{skip kv:Nat->Bool}{os:OsState}{pos':Pos}{e6:List (Nat×List I)}{ts:List (Nat×I)}{cs:List (List Nat×Nat×Nat)}
section
abbrev c6:=List<|Addr×Option Addr
noncomputable def foot(M:c6):List Addr:=M.flatMap λp=>p.1::p.2.toList
def oo(M h5:c6):foot (M++h5)=foot M++foot h5:=by simp [foot]
def Qi(p:Addr×Option Addr)(M:c6):foot (p::M)=(p.1::p.2.toList)++foot M:=by exact rfl
def zL{M:c6}{b:Addr}(h:M[i]? =some p)(aj:b∈p.1::p.2.toList):b∈foot M:=by rw[foot,List.mem_flatMap];exact⟨p,dL h,aj⟩
def Ih{M:c6}:∀{i j:Nat} {p q:Addr×Option Addr} {b:Addr},(foot M).Nodup->M[i]? =some p->M[j]? =some q->i≠j->b∈p.1::p.2.toList->b∈q.1::q.2.toList->False:=by
 induction M with
 |nil=>intro i j p q b _ h;exact bj h
 |cons r M ay=>
  intro i j p q b aG ab aC n fF hu;rw[Qi,kU]at aG;cases i with
  |zero=>
   cases j with
   |zero=>exact n rfl
   |succ j=>exact aG.2.2 b (br ab▸fF) b (zL (M:=M) aC hu) rfl
  |succ i=>
   cases j with
   |zero=>exact aG.2.2 b (br aC▸hu) b (zL (M:=M) ab fF) rfl
   |succ j=>exact ay aG.2.1 ab aC (λe=>n (ai (·+1) e)) fF hu
def tG{M:c6}(h:M[i]? =some p):p.1∈foot M:=by rw[foot,List.mem_flatMap];exact Exists.intro _ (And.intro (dL h) bp)
def Ii{M:c6}{d:Addr}(h:M[i]? =some (a,some d)):d∈foot M:=by rw[foot,List.mem_flatMap];exact⟨_,dL h,by simp⟩
mutual
inductive bb(h:Heap)(M:c6):Value->I->Prop
 |none:bb h M .none .none
 |bool (b:Bool):bb h M (.bool b) (.bool b)
 |int (i:Int) (t:Tok):bb h M (.int i t) (.int i)
 |str (x:Str) (t:Tok):bb h M (.str x t) (.str x)
 |ak {a:Addr} {vs:List Value} {l:List I}:h.IsTuple a vs.toArray->a∉foot M/\l.length<=16000000->b7 h M vs l->bb h M (.ref a) (.ak l)
 |L {k:Nat} {p:Addr×Option Addr}:M[k]? =some p->bb h M (.ref p.1) (.L k)
inductive b7(h:Heap)(M:c6):List Value->List I->Prop
 |nil:b7 h M [] []
 |cons {v:Value} {vs:List Value} {d:I} {ds:List I}:bb h M v d->b7 h M vs ds->b7 h M (v::vs) (d::ds)
end
def b7.pB{M:c6}{P:List Value->List I->Prop}(n:P [] [])(c:∀v vs d ds,bb h M v d->b7 h M vs ds->P vs ds->P (v::vs) (d::ds))(r:b7 h M vs l):P vs l:=b7.rec (motive_1:=λB B B=>True) (motive_2:=λvs l B=>P vs l) trivial (λB=>trivial) (λB B=>trivial) (λB B=>trivial) (λB B B B=>trivial) (λB=>trivial) n (λa r B ay=>c _ _ _ _ a r ay) r
def b7.length{M:c6}(r:b7 h M vs l):vs.length=l.length:=r.pB (P:=λvs l=>vs.length=l.length) rfl λB B B B B B ay=>ai (·+1) ay
def b7.append{M:c6}{ws:List Value}{m:List I}(r:b7 h M vs l)(k:b7 h M ws m):b7 h M (vs++ws) (l++m):=r.pB (P:=λvs l=>b7 h M (vs++ws)<|l++m) k λB B B B a B ay=>.cons a ay
def b7.get{M:c6}{d:I}(r:b7 h M vs l):l[i]? =some d->∃v,vs[i]? =some v/\bb h M v d:=r.pB (P:=λvs l=>∀i,l[i]? =some d->∃v,vs[i]? =some v/\bb h M v d) (λB e=>bj e) (λv B B B a B ay i=>i.casesOn (λe=>⟨v,rfl,br e▸a⟩) ay) i
def b7.Qj{M:c6}(r:b7 h M vs l):vs[i]? =some v->∃d,l[i]? =some d/\bb h M v d:=r.pB (P:=λvs l=>∀i,vs[i]? =some v->∃d,l[i]? =some d/\bb h M v d) (λB e=>bj e) (λB B d B a B ay i=>i.casesOn (λe=>⟨d,rfl,br e▸a⟩) ay) i
def b7.Ij{M:c6}:∀{l:List I},vs.length=l.length->(∀(j:Nat) (v:Value) (d:I),vs[j]? =some v->l[j]? =some d->bb h M v d)->b7 h M vs l:=by
 induction vs with
 |nil=>intro l e _;rw[xw e.symm];exact .nil
 |cons v vs ay=>
  intro l e k;cases l with
  |nil=>exact Nat.noConfusion e
  |cons d l=>exact .cons (k 0 v d rfl rfl)<|ay (nq e) λj=>k<|j+1
def b7.take{M:c6}(n:Nat)(r:b7 h M vs l):b7 h M (vs.take n) (l.take n):=r.pB (P:=λvs l=>∀n,b7 h M (vs.take n)<|l.take n) (λn=>n.casesOn .nil λB=>.nil) (λB B B B a B ay n=>n.casesOn .nil λn=>.cons a<|ay n) n
def b7.drop{M:c6}(n:Nat)(r:b7 h M vs l):b7 h M (vs.drop n) (l.drop n):=r.pB (P:=λvs l=>∀n,b7 h M (vs.drop n)<|l.drop n) (λn=>n.casesOn .nil λB=>.nil) (λB B B B a r ay n=>n.casesOn (.cons a r) ay) n
def b7.set{M:c6}{d:I}(n:Nat)(r:b7 h M vs l)(k:bb h M v d):b7 h M (vs.set n v) (l.set n d):=r.pB (P:=λvs l=>∀n,b7 h M (vs.set n v)<|l.set n d) (λn=>n.casesOn .nil λB=>.nil) (λB B B B a r ay n=>n.casesOn (.cons k r) λn=>.cons a<|ay n) n
def b7.zM{M:c6}{d:I}(r:b7 h M vs l)(k:bb h M v d):b7 h M (vs++[v]) (l++[d]):=r.append<|.cons k .nil
structure g5(h:Heap)(M:c6)(aO:Heap)(bt:c6):Prop where
 pre:∃h5,bt=M++h5
 ak:∀b o,h.get? b=some o->o.cls=.type "tuple"->(∃dQ n,o.data=.seq dQ n)->b∉foot M->aO.get? b=some o/\b∉foot bt
def g5.get{M bt:c6}(x:g5 h M aO bt)(e:M[i]? =some p):bt[i]? =some p:=by obtain⟨h5,rfl⟩:=x.pre;refine V (nr (h6 e).1) ?_;exact e
def bb.Qk{M bt:c6}(k:g5 h M aO bt)(aP:h.IsTuple a vs.toArray)(hn:a∉foot M/\l.length<=16000000)(r:b7 aO bt vs l):bb aO bt (.ref a) (.ak l):=
 let⟨o,aA,ag,n,bC⟩:=aP;have q:=k.ak a o aA ag ⟨_,n,bC⟩ hn.1
 .ak ⟨o,q.1,ag,n,bC⟩ ⟨q.2,hn.2⟩ r
def bb.keep{M bt:c6}(k:g5 h M aO bt){d:I}(r:bb h M v d):bb aO bt v d:=bb.rec (motive_1:=λv d B=>bb aO bt v d) (motive_2:=λvs l B=>b7 aO bt vs l) .none .bool .int .str (λaP hn B ay=>.Qk k aP hn ay) (λe=>.L<|k.get e) .nil (λB B a b=>.cons a b) r
def b7.keep{M bt:c6}(k:g5 h M aO bt)(r:b7 h M vs l):b7 aO bt vs l:=r.pB .nil λB B B B a B ay=>.cons (a.keep k) ay
def lp(h:Heap)(M:c6):Option Value->Option I->Prop
 |none,none=>True
 |some v,some d=>bb h M v d
 |B,cq=>False
def lp.keep{M bt:c6}(k:g5 h M aO bt){v:Option Value}{d:Option I}(r:lp h M v d):lp aO bt v d:=by
 cases v<;>cases d<;>first|exact r|exact bb.keep k r
def lp.Df{M:c6}{v:Option Value}{d:I}(r:lp h M v (some d)):∃x,v=some x/\bb h M x d:=by
 cases v with
 |none=>exact r.elim
 |some x=>exact⟨x,rfl,r⟩
def lp.Ql{M:c6}{v:Option Value}(r:lp h M v none):v=none:=by
 cases v with
 |none=>rfl
 |some x=>exact r.elim
mutual
noncomputable def kl(w:World):I->Int
 |.int i=>hashInt i
 |.str s=>hashStr w s
 |.ak l=>reduceHash<|Builtin.Tuple.tupleHashOf<|oq w l
 |_=>0
noncomputable def oq(w:World):List I->List Int
 |[]=>[]
 |a::as=>kl w a::oq w as
end
inductive fa(w:World)(h:Heap)(M:c6):List DictEntry->List (I×I)->Prop
 |nil:fa w h M [] []
 |cons {e:DictEntry} {ax:List DictEntry} {k v:I} {l:List (I×I)}:e.hash=kl w k->I.key k->bb h M e.key k->bb h M e.val v->fa w h M ax l->fa w h M (e::ax) ((k,v)::l)
def fa.keep{M bt:c6}(k:g5 h M aO bt){l:List (I×I)}(r:fa w h M ax l):fa w aO bt ax l:=r.rec .nil λa b c d B ay=>.cons a b (c.keep k) (d.keep k) ay
def fa.length{M:c6}{l:List (I×I)}(r:fa w h M ax l):ax.length=l.length:=r.rec (motive:=λax l B=>ax.length=l.length) rfl λB B B B B ay=>ai (·+1) ay
noncomputable def rP(n:Nat)(F:Nat->Option I):Nat:=(List.range n).countP λi=>(F i).isSome
structure vu where
 ca:List Addr
 fr:List Str
noncomputable def lq(x:Str)(ax:List DictEntry):Option Value:=(ax.find? (·.key.isStr x)).map (·.val)
def rQ(ax:List DictEntry):Prop:=∀e∈ax,∃n t,e.key=.str n t
def Ik(h:rQ ax):getL x ax=some (lq x ax):=by
 delta getL lq;cases hf:ax.find? (·.key.isStr x)with
 |some e=>rfl
 |none=>
  have:ax.any (·.refKey)=false:=by rw[List.any_eq_false];intro e he;obtain⟨n,t,q⟩:=h e he;simp [DictEntry.refKey,q]
  simp [this]
def ot(w:World)(N:vu)(h:Heap)(M:c6)(p:Addr×Option Addr):b5->Prop
 |.list l=>p.2=none/\∃vs n,h.get? p.1=some {cls:=.type "list",data:=.seq vs n}/\b7 h M vs.toList l/\l.length<=16000000
 |.dict l=>p.2=none/\∃ax n,h.get? p.1=some {cls:=.type "dict",data:=.dict ax n}/\fa w h M ax.toList l/\(l.map (·.1)).Nodup/\l.length<=16000000
 |.cO c F=>∃aI gK ax n,N.ca[c]? =some aI/\p.2=some gK/\h.get? p.1=some (instObj aI gK)/\h.get? gK=some (dictOf ax n)/\rQ ax/\ax.length<=rP N.fr.length F/\
   (∀x,lp h M (lq x ax)<|(N.fr.idxOf? x).bind F)/\(∀x,(lq x ax).isSome=true->(N.fr.idxOf? x).isSome=true)
structure h7(W:List Addr)(h:Heap)(M:c6)(aO:Heap)(bt:c6):Prop where
 pre:∃h5,bt=M++h5/\∀b∈foot h5,h.get? b=none\/b∈W
 km:∀b o,h.get? b=some o->b∉foot M->b∉W->aO.get? b=some o
 alive:∀b o,h.get? b=some o->b∈foot M->∃o',aO.get? b=some o'
 tH:∀p b o,M[0]? =some p->b∈p.1::p.2.toList->h.get? b=some o->aO.get? b=some o
def h7.refl(W:List Addr)(h:Heap)(M:c6):h7 W h M h M:=⟨⟨[],by exact iY<|ew _,by simp [foot]⟩,λB B e B B=>e,λB o e B=>⟨o,e⟩,λB B B B B e=>e⟩
def h7.fR{M bt:c6}(x:h7 W h M aO bt){b:Addr}(e:h.get? b=some o)(n:b∉foot M)(rR:b∉W):b∉foot bt:=by
 obtain⟨h5,rfl,hf⟩:=x.pre;rw[oo,qz];rintro (q|q)
 ·exact n q
 ·rcases hf b q with q|q
  ·rw[q]at e;exact vv _<|iY e
  ·exact rR q
def h7.trans{Il:Heap}{M bt tI:c6}(x:h7 W h M aO bt)(y:h7 W aO bt Il tI):h7 W h M Il tI:=by
 obtain⟨h5,aD,hf⟩:=x.pre;obtain⟨Qm,aF,bB⟩:=y.pre;refine⟨⟨h5++Qm,by exact V aF<|V aD<|V (iG _ _ _) rfl,λb aj=> ?_⟩,λb o e n m=>y.km b o (x.km b o e n m) (x.fR e n m) m,λb o e aj=> ?_,λp b o ab aj e=> ?_⟩
 ·rw[oo,qz]at aj;rcases aj with q|q
  ·exact hf b q
  ·rcases bB b q with q|q
   ·by_cases hw:b∈W
    ·exact .inr hw
    ·left;cases aC:h.get? b with
     |none=>rfl
     |some o=>
      by_cases aj:b∈foot M
      ·obtain⟨o',e'⟩:=x.alive b o aC aj;rw[q]at e';contradiction
      ·rw[x.km b o aC aj hw]at q;exact q
   ·exact .inr q
 ·obtain⟨o',e'⟩:=x.alive b o e aj;exact y.alive b o' e' (by refine V aD<|V (oo _ _) ?_;exact jh _ aj)
 ·refine y.tH p b o ?_ aj<|x.tH p b o ab aj e;refine V aD<|V (nr (h6 ab).1) ?_;exact ab
def h7.tJ{M bt:c6}(x:h7 W h M aO bt)(hv:∀b∈W,h.get? b=none):h7 [] h M aO bt:=by obtain⟨h5,aD,hf⟩:=x.pre;exact⟨⟨h5,aD,λb aj=>.inl<|(hf b aj).elim id<|hv b⟩,λb o e n B=>x.km b o e n (λq=>by rw[hv b q]at e;exact vv _<|iY e),x.alive,x.tH⟩
def h7.ci{M bt:c6}(x:h7 W h M aO bt)(aJ:∀b∈W,b∈kn):h7 kn h M aO bt:=⟨let⟨h5,e,f⟩:=x.pre;⟨h5,e,λb aj=>(f b aj).imp id<|aJ b⟩,λb o e n m=>x.km b o e n λq=>m<|aJ b q,x.alive,x.tH⟩
def nt(h:Heap)(W:List Addr):Prop:=∀b∈W,∀o,h.get? b=some o->o.cls=.type "tuple"->(∃dQ n,o.data=.seq dQ n)->False
def h7.keep{M bt:c6}(x:h7 W h M aO bt)(fL:nt h W):g5 h M aO bt:=⟨let⟨h5,e,_⟩:=x.pre;⟨h5,e⟩,λb o e c Im n=>⟨x.km b o e n λq=>fL b q o e c Im,x.fR e n λq=>fL b q o e c Im⟩⟩
def h7.Qn{M bt:c6}(x:h7 [] h M aO bt):g5 h M aO bt:=x.keep λB aj=>nomatch aj
def h7.h8{M:c6}(k:∀b o,h.get? b=some o->aO.get? b=some o):h7 W h M aO M:=⟨⟨[],by exact iY<|ew _,by simp [foot]⟩,λb o e B B=>k b o e,λb o e B=>⟨o,k b o e⟩,λB b o B B e=>k b o e⟩
structure bJ(w:World)(N:vu)(au h:Heap)(M:c6)(C:St):Prop where
 keep:∀b o,au.get? b=some o->h.get? b=some o
 fR:∀b∈foot M,au.get? b=none
 len:M.length=C.length
 nodup:(foot M).Nodup
 objs:∀(i:Nat) (p:Addr×Option Addr) (o:b5),M[i]? =some p->C[i]? =some o->ot w N h M p o
section
variable{N:vu}{au:Heap}{M bt:c6}
def ot.keeps{o:b5}(r:ot w N h M p o)(k:g5 h M aO bt)(aD:∀x,h.get? p.1=some x->aO.get? p.1=some x)(aF:∀d x,p.2=some d->h.get? d=some x->aO.get? d=some x):ot w N aO bt p o:=by
 cases o with
 |list l=>obtain⟨a,vs,n,b,c,d⟩:=r;exact⟨a,vs,n,aD _ b,c.keep k,d⟩
 |dict l=>obtain⟨a,ax,n,b,c,d,e⟩:=r;exact⟨a,ax,n,aD _ b,c.keep k,d,e⟩
 |cO c F=>obtain⟨aI,gK,ax,n,a,b,c,d,e,f,g,i⟩:=r;exact⟨aI,gK,ax,n,a,b,aD _ c,aF _ _ b d,e,f,λx=>(g x).keep k,i⟩
def bJ.tK(x:bJ w N au h M C)(fL:nt h W)(hv:∀b∈W,b∉foot M/\au.get? b=none)(k:∀b o,h.get? b=some o->b∉W->aO.get? b=some o):bJ w N au aO M C:=by
 have K:g5 h M aO M:=⟨⟨[],by exact iY<|ew _⟩,λb o e c nu n=>⟨k b o e λq=>fL b q o e c nu,n⟩⟩;refine⟨λb o e=>k b o (x.keep b o e) λq=> ?_,x.fR,x.len,x.nodup,λi p o ab aA=>(x.objs i p o ab aA).keeps K (λy e=>k _ _ e λq=>(hv _ q).1<|tG ab) λd y bC e=>k _ _ e λq=>(hv _ q).1 ?_⟩
 ·rw[(hv b q).2]at e;exact vv _<|iY e
 ·obtain⟨a,kV⟩:=p;simp only at bC;subst bC;exact Ii ab
def bJ.ou(x:bJ w N au h M C)(k:∀b o,h.get? b=some o->aO.get? b=some o):bJ w N au aO M C:=x.tK (W:=[]) (λB aj=>nomatch aj) (λB aj=>nomatch aj) λb o e B=>k b o e
def bJ.set(x:bJ w N au h M C)(ab:M[i]? =some p)(hv:∀b∈W,b=p.1\/p.2=some b)(fL:nt h W)(k:∀b o,h.get? b=some o->b∉W->aO.get? b=some o)(r:g5 h M aO M->ot w N aO M p o'):bJ w N au aO M (C.set i o'):=by
 have hm:∀b∈W,b∈foot M:=λb aj=>by
  rcases hv b aj with rfl|q
  ·exact tG ab
  ·obtain⟨a,kV⟩:=p;simp only at q;subst q;exact Ii ab
 have K:g5 h M aO M:=⟨⟨[],by exact iY<|ew _⟩,λb o e c B n=>⟨k b o e λq=>n<|hm b q,n⟩⟩;refine⟨λb o e=>k b o (x.keep b o e) λq=> ?_,x.fR,by exact HS x.len List.length_set,x.nodup,λj q o aC aA=> ?_⟩
 ·rw[x.fR b (hm b q)]at e;exact vv _<|iY e
 ·by_cases qA:i=j
  ·subst qA;have:i<C.length:=by refine eF x.len ?_;exact(h6 ab).1
   rw[List.getElem?_set_self this]at aA;cases aA;rw[ab]at aC;cases aC;exact r K
  ·rw[List.getElem?_set_ne qA]at aA;have bw:∀b,(b=q.1\/q.2=some b)->b∉W:=λb aj hw=>by
    have fF:b∈p.1::p.2.toList:=by rcases hv b hw with rfl|e;exact bp;simp [e]
    have hu:b∈q.1::q.2.toList:=by rcases aj with rfl|e;exact bp;simp [e]
    exact Ih x.nodup ab aC qA fF hu
   exact(x.objs j q o aC aA).keeps K (λy e=>k _ _ e<|bw _<|.inl rfl) λd y bC e=>k _ _ e<|bw _<|.inr bC
def bJ.push(x:bJ w N au h M C)(hf:∀b∈foot [p],h.get? b=none)(tL:(foot [p]).Nodup)(k:∀b o,h.get? b=some o->aO.get? b=some o)(r:g5 h M aO (M++[p])->ot w N aO (M++[p]) p o')(al:∀b∈foot M,∃o,h.get? b=some o):bJ w N au aO (M++[p]) (C++[o']):=by
 have K:g5 h M aO (M++[p]):=⟨⟨[p],rfl⟩,λb o e c B n=>⟨k b o e,by
  rw[oo,qz];rintro (q|q)
  ·exact n q
  ·rw[hf b q]at e;exact vv _ (iY e)⟩⟩
 refine⟨λb o e=>k b o<|x.keep b o e,λb aj=> ?_,by simp [x.len],?_,λj q o aC aA=> ?_⟩
 ·rw[oo,qz]at aj;rcases aj with q|q
  ·exact x.fR b q
  ·cases ov:au.get? b with
   |none=>rfl
   |some o=>have:=x.keep b o ov;rw[hf b q]at this;exact iY this
 ·rw[oo,kU];refine⟨x.nodup,tL,λa aT b aj e=> ?_⟩;subst e;obtain⟨o,aA⟩:=al a aT;rw[hf a aj]at aA;exact vv _<|iY aA
 ·by_cases aQ:j<M.length
  ·rw[nr aQ]at aC;rw[nr (by exact c7 aQ<|cP x.len)]at aA;exact(x.objs j q o aC aA).keeps K (λy e=>k _ _ e) λd y B e=>k _ _ e
  ·have Qo:j=M.length:=by have:=(h6 aC).1;simp at this;exact Nat.le_antisymm (pC this) (vr aQ)
   subst Qo;simp at aC;rw[x.len]at aA;simp at aA;subst aC;subst aA;exact r K
def bJ.alive(x:bJ w N au h M C):∀b∈foot M,∃o,h.get? b=some o:=by
 intro b aj;simp only[foot,List.mem_flatMap]at aj;obtain⟨p,ab,aj⟩:=aj;obtain⟨i,ah,rfl⟩:=List.mem_iff_getElem.mp ab;have aJ:i<C.length:=by refine eF x.len ?_;exact ah
 have r:=x.objs i M[i] C[i] (by simp [ah]) (by simp [aJ]);cases kW:C[i]with
 |list l=>rw[kW]at r;obtain⟨a,vs,n,q,B⟩:=r;rw[a]at aj;simp at aj;subst aj;exact⟨_,q⟩
 |dict l=>rw[kW]at r;obtain⟨a,vs,n,q,B⟩:=r;rw[a]at aj;simp at aj;subst aj;exact⟨_,q⟩
 |cO c F=>
  rw[kW]at r;obtain⟨aI,gK,ax,n,a,e,q,eW,B⟩:=r;rw[e]at aj;simp at aj;rcases aj with rfl|rfl
  ·exact⟨_,q⟩
  ·exact⟨_,eW⟩
end
end
variable{M bt tI:c6}{N:vu}
section
def vw(s aY:Shared):Prop:=∃aO tk,aY={s with heap:=aO,toks:=tk}/\∀b o,s.heap.get? b=some o->aO.get? b=some o
def vw.refl(s:Shared):vw s s:=⟨s.heap,s.toks,rfl,λB B e=>e⟩
def vw.jA(s:Shared)(t:Nat):vw s {s with toks:=t}:=⟨s.heap,t,rfl,λB B e=>e⟩
structure eo(d:Nat)(A:Around):Prop where
 depth:A.depth+d<recursionLimit
 units:A.units+10*d+300<cLine
 handled:A.handled=none
def eo.room(x:eo d A):A.units+64<cLine:=by have:=x.units;exact HQ (Nat.lt_add_one _)<|HP x.units
mutual
noncomputable def iZ:I->PyData
 |.none=>.none
 |.bool b=>.bool b
 |.int i=>.int i
 |.str s=>.str s
 |.ak l=>.tuple<|iH l
 |.L B=>.none
noncomputable def iH:List I->List PyData
 |[]=>[]
 |a::as=>iZ a::iH as
end
def vx{P:Nat->I->Prop}{Q:Nat->List I->Prop}(int:∀n i,P n<|.int i)(str:∀n s,e9 s->P n (.str s))(ak:∀n l,Q n l->P (n+1) (.ak l))(nil:∀n,Q n [])(cons:∀n a as,P n a->Q n as->Q n (a::as)):
  (∀x n,I.hs n x->P n x)/\∀l n,I.gR n l->Q n l:=
 have c:∀a l,(∀n,I.hs n a->P n a)->(∀n,I.gR n l->Q n l)->∀n,I.gR n (a::l)=true->Q n (a::l):=λB B h t n k=>cons n _ _ (h n<|bP k)<|t n<|cN k;have t:∀l,(∀n,I.gR n l->Q n l)->∀n,I.hs n (.ak l)=true->P n (.ak l):=λl h n=>n.casesOn (λk=>b8 k) λn k=>ak n l<|h n k
 ⟨λx=>I.rec (motive_1:=λx=>∀n,I.hs n x->P n x) (motive_2:=λl=>∀n,I.gR n l->Q n l) (λB k=>b8 k) (λB B k=>b8 k) (λi n B=>int n i) (λs n k=>str n s k) t (λB B k=>b8 k) (λn B=>nil n) c x,
  λl=>I.rec_1 (motive_1:=λx=>∀n,I.hs n x->P n x) (motive_2:=λl=>∀n,I.gR n l->Q n l) (λB k=>b8 k) (λB B k=>b8 k) (λi n B=>int n i) (λs n k=>str n s k) t (λB B k=>b8 k) (λn B=>nil n) c l⟩
def Io:(∀x n,I.hs n x->∀v,bb h M v x->∃as,Reads h v (iZ x) as)/\∀l n,I.gR n l->∀vs,b7 h M vs l->∃as,ReadsAll h vs (iH l) as:=
 vx (P:=λB x=>∀v,bb h M v x->∃as,Reads h v (iZ x) as) (Q:=λB l=>∀vs,b7 h M vs l->∃as,ReadsAll h vs (iH l) as) (λB B B r=>by cases r;exact⟨[],.int _ _⟩) (λB B B B r=>by cases r;exact⟨[],.str _ _⟩)
  (λB B ay B r=>by
   cases r with
   |ak aP hn r=>exact let⟨_,aA,ag,_,bC⟩:=aP;(ay _ r).elim λas b9=>⟨as,.tuple aA ag bC b9⟩)
  (λB B r=>by cases r;exact⟨[],.nil⟩)
  (λB B B ay zN B r=>by
   cases r with
   |cons a r=>exact(ay _ a).elim λas b9=>(zN _ r).elim λbs dE=>⟨as++bs,.cons b9 dE⟩)
def bb.reads{d:I}(n:Nat)(k:I.hs n d)(r:bb h M v d):∃as,Reads h v (iZ d) as:=Io.1 _ n k _ r
def b7.reads(n:Nat)(k:I.gR n l)(r:b7 h M vs l):∃as,ReadsAll h vs (iH l) as:=Io.2 _ n k _ r
def Qp{s:Str}(h:e9 s):PyData.strOk s:=by unfold e9 at h;simp only[Bool.and_eq_true,decide_eq_true_eq,nv]at h;unfold PyData.strOk;rw[Array.all_eq_true];intro i ah;have:=h.2 s.cps[i] (by simp);simp;exact c7 this (by decide)
def Ip:(∀x n,I.hs n x->(iZ x).canLay0=true)/\∀l n,I.gR n l->PyData.canLayAll0 (iH l)=true:=vx (P:=λB x=>(iZ x).canLay0=true) (Q:=λB l=>PyData.canLayAll0 (iH l)=true) (λB B=>rfl) (λB B k=>Qp k) (λB B h=>h) (λB=>rfl) λB B B h k=>dJ h k
def Iq:(∀x n,I.hs n x->(iZ x).depth<=n+1)/\∀l n,I.gR n l->PyData.depthAll (iH l)<=n+1:=vx (P:=λn x=>(iZ x).depth<=n+1) (Q:=λn l=>PyData.depthAll (iH l)<=n+1) (λB B=>jB _) (λB B B=>jB _) (λB B h=>kX h) (λB=>jB _) λB B B h k=>Nat.max_le.mpr ⟨h,k⟩
def Ir:(∀x n,I.hs n x->∀m y,I.hs m y->PyData.eqv (iZ x) (iZ y)=I.beq x y)/\∀l n,I.gR n l->∀m k,I.gR m k->PyData.eqvAll (iH l) (iH k)=I.rJ l k:=
 vx (P:=λB x=>∀m y,I.hs m y->PyData.eqv (iZ x) (iZ y)=I.beq x y) (Q:=λB l=>∀m k,I.gR m k->PyData.eqvAll (iH l) (iH k)=I.rJ l k)
  (λB B m y=>y.casesOn (λk=>b8 k) (λB k=>b8 k) (λB B=>rfl) (λB B=>rfl) (λB B=>rfl) λB k=>b8 k)
  (λB B B m y=>y.casesOn (λk=>b8 k) (λB k=>b8 k) (λB B=>rfl) (λB B=>rfl) (λB B=>rfl) λB k=>b8 k)
  (λB B h m y=>y.casesOn (λk=>b8 k) (λB k=>b8 k) (λB B=>rfl) (λB B=>rfl) (λl=>m.casesOn (λk=>b8 k) λm k=>h m l k) λB k=>b8 k)
  (λB m k=>k.casesOn (λB=>rfl) λB B B=>rfl)
  λB B B h aO m k=>k.casesOn (λB=>rfl) λa l k=>congr (ai and<|h m a<|bP k)<|aO m l<|cN k
def Qq(x y:I):I.beq x y=decide (x=y):=by
 by_cases h:x=y
 ·refine V (cj h)<|(I.C1 x y).mpr h
 ·refine V (co h)<|mJ.mpr λq=>h<|(I.C1 x y).mp q
def Qr(x y:List I):I.rJ x y=decide (x=y):=by
 by_cases h:x=y
 ·refine V (cj h)<|(I.HL x y).mpr h
 ·refine V (co h)<|mJ.mpr λq=>h<|(I.HL x y).mp q
def xx(n:Nat)(d:I)(k:I.hs n d):(iZ d).canLay0=true:=Ip.1 d n k
def Qs(n:Nat)(l:List I)(k:I.gR n l):PyData.canLayAll0 (iH l)=true:=Ip.2 l n k
def Qt(n:Nat)(d:I)(k:I.hs n d):(iZ d).depth<=n+1:=Iq.1 d n k
def Qu(n:Nat)(l:List I)(k:I.gR n l):PyData.depthAll (iH l)<=n+1:=Iq.2 l n k
def zO(n m:Nat)(a b:I)(k:I.hs n a)(q:I.hs m b):PyData.eqv (iZ a) (iZ b)=decide (a=b):=(Ir.1 a n k m b q).trans<|Qq a b
def It(n m:Nat)(a b:List I)(k:I.gR n a)(q:I.gR m b):PyData.eqvAll (iH a) (iH b)=decide (a=b):=(Ir.2 a n k m b q).trans<|Qr a b
section
variable{a b:Value}{x:I}
def xy(k:I.key x):shaped (iZ x)=true:=dJ (xx 6 x k) (cj<|a3 (Qt 6 x k)<|by decide)
def zP(k:I.iW l):shaped (.list<|iH l)=true:=dJ (Qs 6 l k) (cj<|a3 (kX<|Qu 6 l k)<|by decide)
def Iu(b9:bb s.heap M a x)(dE:bb s.heap M b y)(ko:I.key x)(mK:I.key y)(bD:A.units+64<cLine):EqAt A s a b (decide<|x=y):=by obtain⟨as,bh⟩:=bb.reads 6 ko b9;obtain⟨bs,bf⟩:=bb.reads 6 mK dE;have:=eqAt_reads (iZ x) (iZ y) A s a b as bs bh bf (xx 6 x ko) (xx 6 y mK)<|room_of_shaped (xy ko) bD;rwa [zO 6 6 x y ko mK]at this
def Qv(b9:bb s.heap M a x)(dE:bb s.heap M b y)(ko:I.key x)(mK:I.key y)(bD:A.units+64<cLine)(h:Q (.bool<|decide<|x=y) s):
  wpAny (model prog w) A (compareOp .Eq a b) Q aB s:=by
 obtain⟨as,bh⟩:=bb.reads 6 ko b9;obtain⟨bs,bf⟩:=bb.reads 6 mK dE;exact eq_dataH bh bf (xy ko) (xy mK) bD (by refine V (zO 6 6 x y ko mK) ?_;exact h)
def Qw(b9:bb s.heap M a x)(dE:bb s.heap M b y)(ko:I.key x)(mK:I.key y)(bD:A.units+64<cLine)(h:Q (.bool<|!decide (x=y)) s):
  wpAny (model prog w) A (compareOp .NotEq a b) Q aB s:=by
 obtain⟨as,bh⟩:=bb.reads 6 ko b9;obtain⟨bs,bf⟩:=bb.reads 6 mK dE;exact ne_dataH bh bf (xy ko) (xy mK) bD (by refine V (zO 6 6 x y ko mK) ?_;exact h)
end
section
variable{au:Heap}{a b:Value}{x:I}
def bJ.list(O:bJ w N au s.heap M C){k:Nat}{l:List I}(e:C[k]? =some (.list l))(r:bb s.heap M v (.L k)):
  ∃(p:Addr×Option Addr) (vs:Array Value) (n:Nat),M[k]? =some p/\v=.ref p.1/\p.2=none/\s.heap.get? p.1=some {cls:=.type "list",data:=.seq vs n}/\b7 s.heap M vs.toList l/\l.length<=16000000/\vs.size=l.length:=by
 cases r with
 |L ab=>have R:=O.objs k _ _ ab e;obtain⟨a,vs,n,b,c,d⟩:=R;exact⟨_,vs,n,ab,rfl,a,b,c,d,by exact gu (Nat.add_zero _)<|b7.length c⟩
def bJ.dict(O:bJ w N au s.heap M C){l:List (I×I)}(e:C[k]? =some (.dict l))(r:bb s.heap M v (.L k)):
  ∃(p:Addr×Option Addr) (ax:Array DictEntry) (n:Nat),M[k]? =some p/\v=.ref p.1/\p.2=none/\s.heap.get? p.1=some {cls:=.type "dict",data:=.dict ax n}/\fa w s.heap M ax.toList l/\(l.map (·.1)).Nodup/\l.length<=16000000:=by
 cases r with
 |L ab=>have R:=O.objs k _ _ ab e;obtain⟨a,vs,n,b,c,d,f⟩:=R;exact⟨_,vs,n,ab,rfl,a,b,c,d,f⟩
def Iv{v:Array Value}(h:v.size=l.length):(!v.isEmpty)= !l.isEmpty:=by
 refine ai not ?_;cases l with
 |nil=>exact cj h
 |cons B cq=>exact co<|V h<|qB _
def Iw{Q:Bool->Shared->Prop}(O:bJ w N au s.heap M C)(r:bb s.heap M v x)(e:g4 C x=some t)(h:∀aY,vw s aY->Q t aY):wpAny (model prog w) A (truthy v) Q aB s:=by
 cases r with
 |none=>exact bj e
 |str B cq=>exact bj e
 |bool c=>exact wpAny_truthy_bool<|br e▸h _ (.refl s)
 |int i tk=>exact truthy_int<|V ((Bool.eq_iff_iff.mpr<|bne_iff_ne.trans decide_eq_true_iff.symm).trans<|br e)<|h _<|.refl s
 |ak aP hn aV=>exact truthy_tuple aP (hx<|c1 (cP aV.length)<|c1 hn.2<|by decide)<|V ((Iv aV.length).trans<|br e)<|h _<|.jA s _
 |@L k p ab=>
  have e:(match C[k]?with
   |some (.list l)=>some<|!l.isEmpty
   |_=>none)=some t:=e
  cases an:C[k]?with
  |none=>rw[an]at e;exact bj e
  |some o=>
   rw[an]at e;cases o with
   |list l=>obtain⟨qC,vs,n,pD,aR,B,aA,aV,fs,Iy⟩:=bJ.list O an<|bb.L ab;exact V aR (wpAny_truthy_list ⟨_,aA,rfl,n,rfl⟩ (hx<|c1 (cP Iy)<|c1 fs<|by decide)<|V ((Iv Iy).trans<|br e)<|h _<|.jA s _)
   |_=>exact bj e
def eo.qD(x:eo d A):A.in1.units+64<cLine:=by have:=x.units;show A.units+1+64<cLine;exact HP x.units
def Dg{x:I}(n:Nat):I.gR n l->x∈l->I.hs n x:=by
 induction l with
 |nil=>exactλB h=>absurd h b4
 |cons a as ay=>exactλk h=>(cR h).elim (λe=>e▸bP k)<|ay<|cN k
def Qx{x d:I}{ds:List I}:(decide (d=x)||decide (x∈ds))=decide (x∈d::ds):=eF (Bool.decide_or _ _)<|decide_eq_decide.mpr ⟨λh=>pE.mpr<|h.imp_left iY,λh=>(cR h).imp_left iY⟩
def Qy(e:Value->Bool)(r:b7 h M vs l):(∀y d,y∈vs->bb h M y d->d∈l->e y=decide (d=x))->vs.any e=decide (x∈l):=r.pB (P:=λvs l=>(∀y d,y∈vs->bb h M y d->d∈l->e y=decide (d=x))->vs.any e=decide (x∈l)) (λB=>rfl) λv B d B a B ay he=>(congr (ai or<|he v d bp a bp)<|ay λy d a8 aH bC=>he y d (bQ _ a8) aH<|bQ _ bC).trans Qx
def bb.Iz(n:Nat){x:I}(r:bb h M v x)(q:bb h M v y)(k:I.hs n x)(cx:I.hs n y):x=y:=by obtain⟨as,bh⟩:=bb.reads n k r;obtain⟨bs,bf⟩:=bb.reads n cx q;have:=Reads.unique (iZ x) (iZ y) v as bs (xx n x k) bh bf;have e:=zO n n x y k cx;rw[<-this,eqv_refl _<|xx n x k]at e;simpa using e.symm
def IA{Q:Value->Shared->Prop}(b9:bb s.heap M a x)(aV:b7 s.heap M vs l)(ko:I.key x)(lr:I.iW l)(bD:A.in1.units+64<cLine):
  ∃e:Value->Bool,(∀y,y∈vs->EqAt A.in1 s y a (e y))/\vs.any e=decide (x∈l):=by
 classical
 have same:∀{y d},bb s.heap M y d->I.key d->decide (bb s.heap M y x)=decide (d=x):=λr k=>decide_eq_decide.mpr ⟨λq=>bb.Iz 6 r q k ko,λe=>e▸r⟩;exact⟨λy=>decide<|bb s.heap M y x,λy a8=>(List.getElem?_of_mem a8).elim λi ah=>(aV.Qj ah).elim λd q=>show EqAt A.in1 s y a (decide<|bb s.heap M y x)from V (same q.2<|Dg 6 lr<|dL q.1)<|Iu q.2 b9 (Dg 6 lr<|dL q.1) ko bD,Qy _ aV λy d B aH bC=>same aH<|Dg 6 lr bC⟩
def IB(e:ty C x y=some t)(da:∀p q,x=.bool p->y=.bool q->(p==q)=t->R)(lr:∀i j l m,x=.L i->y=.L j->C[i]? =some (.list l)->C[j]? =some (.list m)->I.iW l->I.iW m->decide (l=m)=t->R)(aq:I.key x->I.key y->decide (x=y)=t->R):R:=by
 have g:(if I.key x&&I.key y then some (decide<|x=y)else none)=some t->R:=λe=>d1 e λk q=>aq (bP k) (cN k)<|br q;cases x with
 |bool p=>
  cases y with
  |bool q=>exact da p q rfl rfl<|br e
  |_=>exact g e
 |L i=>
  cases y with
  |L j=>
   have e:(match C[i]?,C[j]?with
    |some (.list l),some (.list m)=>if I.iW l&&I.iW m then some (decide<|l=m)else none
    |B,cq=>none)=some t:=e
   cases ah:C[i]?with
   |none=>rw[ah]at e;exact bj e
   |some o=>
    cases aQ:C[j]?with
    |none=>rw[ah,aQ]at e;cases o<;>exact bj e
    |some o'=>
     rw[ah,aQ]at e;cases o with
     |list l=>
      cases o' with
      |list m=>exact d1 e λk q=>lr i j l m rfl rfl ah aQ (bP k) (cN k)<|br q
      |_=>exact bj e
     |_=>exact bj e
  |_=>exact g e
 |_=>exact g e
def Qz(K:eo d A)(O:bJ w N au s.heap M C)(b9:bb s.heap M a x)(dE:bb s.heap M b y)(e:ty C x y=some t)(h:Q (.bool t) s):wpAny (model prog w) A (compareOp .Eq a b) Q aB s:=by
 refine IB e (λp q ac a8 aP=> ?_) (λi j l m ac a8 an hm k cx aP=> ?_) λk cx aP=>Qv b9 dE k cx K.room<|V aP h
 ·subst ac a8 aP;cases b9;cases dE;exact RcAt.bool_bool _ _ prog w aB Q h
 ·subst ac a8 aP;obtain⟨p,vs,n,ab,rfl,B,aA,aV,cq⟩:=bJ.list O an b9;obtain⟨qC,ws,eH,pD,rfl,B,kY,xz,cq⟩:=bJ.list O hm dE;obtain⟨as,bh⟩:=b7.reads 6 k aV;obtain⟨bs,bf⟩:=b7.reads 6 cx xz;exact eq_dataH (.list aA rfl rfl bh) (.list kY rfl rfl bf) (zP k) (zP cx) K.room<|V (show PyData.eqv (.list<|iH l) (.list<|iH m)=_ from It 6 6 l m k cx) h
def QA(K:eo d A)(O:bJ w N au s.heap M C)(b9:bb s.heap M a x)(dE:bb s.heap M b y)(e:ty C x y=some t)(h:Q (.bool<|!t) s):wpAny (model prog w) A (compareOp .NotEq a b) Q aB s:=by
 refine IB e (λp q ac a8 aP=> ?_) (λi j l m ac a8 an hm k cx aP=> ?_) λk cx aP=>Qw b9 dE k cx K.room<|V aP h
 ·subst ac a8 aP;cases b9;cases dE;exact RcNeAt.bool_bool _ _ prog w aB Q h
 ·subst ac a8 aP;obtain⟨p,vs,n,ab,rfl,B,aA,aV,cq⟩:=bJ.list O an b9;obtain⟨qC,ws,eH,pD,rfl,B,kY,xz,cq⟩:=bJ.list O hm dE;obtain⟨as,bh⟩:=b7.reads 6 k aV;obtain⟨bs,bf⟩:=b7.reads 6 cx xz;exact ne_dataH (.list aA rfl rfl bh) (.list kY rfl rfl bf) (zP k) (zP cx) K.room<|V (show PyData.eqv (.list<|iH l) (.list<|iH m)=_ from It 6 6 l m k cx) h
end
end
mutual
noncomputable def kp:I->Nat
 |.ak l=>rS l+1
 |_=>1
noncomputable def rS:List I->Nat
 |[]=>0
 |a::as=>kp a+rS as
end
def QB(l m:List I):rS (l++m)=rS l+rS m:=by
 induction l with
 |nil=>exact(ow _).symm
 |cons a l ay=>exact(ai (kp a+·) ay).trans (i0 _ _ _).symm
def QC(w:World)(l m:List I):oq w (l++m)=oq w l++oq w m:=by
 induction l with
 |nil=>rfl
 |cons a l ay=>exact ai (kl w a::·) ay
section
def xA(prog:Program)(w:World)(M:c6)(n:Nat)(k:I):Prop:=∀{A:Around} {aB:Value->Shared->Prop} {s:Shared} {v:Value} {Q:Int->Shared->Prop},bb s.heap M v k->A.units+n<cLine->Q (kl w k) {s with toks:=s.toks+kp k}->wpAny (model prog w) A (pyHash v) Q aB s
def QD{n:Nat}(ay:∀k∈l,xA prog w M n k):xA prog w M (n+1) (.ak l):=by
 intro A aB s v Q r bD h;cases r with
 |ak aP hn aV=>
  obtain⟨o,aA,ag,m,bC⟩:=aP;have eD:s.TypeIs (.ref _) "tuple":=⟨o,aA,ag⟩;refine wpAny_bind (m:=cRoomFor _ _)<|wpAny_cRoomFor_or (.inr<|HW bD) ?_;refine wpAny_bind<|wpAny_specialOf eD F.slot_tuple_hash.lookup ?_;refine wpAny_bind<|wpAny_specialOf eD F.slot_tuple_hash.lookup ?_;refine wpAny_bind (m:=callSpecialIfBoundUnlessNone? _ "__hash__" _)<|wpAny_callSpecialIfBoundUnlessNone?_slot eD F.slot_tuple_hash<|wpAny_call_entry F.slot_tuple_hash eD F.entry_tuple_hash ?_<|F.args_tuple_hash_1 _;refine wpAny_bind (m:=Builtin.Tuple.tupleItemsOf _)<|wpAny_tupleItemsOf aA bC ?_;refine wpAny_bind (m:=forIn _ _ _)<|eF Array.forIn_toList ?_;refine wpAny_forIn_list _ (λrest (b:Array Int) aY=>∃done left,l=done++left/\b7 s.heap M rest left/\b.toList=oq w done/\aY={s with toks:=s.toks+rS done}) _ ?_ ?_ _ _ ⟨[],l,rfl,aV,rfl,rfl⟩
  ·rintro x rest b aY ⟨done,left,e,an,aj,rfl⟩;cases an with
   |cons Y xB=>refine wpAny_bind (m:=pyHash _)<|ay _ (e▸i1 _ bp) (s:={s with toks:=s.toks+rS done}) Y (show A.units+1+n<cLine from c1 (cP<|rT _ _ _) bD) ?_;exact wpAny_pure ⟨done++[_],_,e.trans (iG _ [_] _).symm,xB,V Array.toList_push<|V aj (QC w done [_]).symm,V (QB done [_])<|ai (λt=>({s with toks:=t}:Shared))<|i0 _ _ _⟩
  ·rintro b aY ⟨done,left,e,an,aj,rfl⟩;cases an;obtain rfl:=e.trans<|ew _;refine(show wpAny _ _ (retInt<|Builtin.Tuple.tupleHashOf b.toList) _ _ _ from V aj<|wpAny_ret_mkInt ?_);show wpAny _ _ (if(decide (-(2:Int)^63<=Builtin.Tuple.tupleHashOf (oq w l))&&decide (Builtin.Tuple.tupleHashOf (oq w l)<2^63))=true then _ else _) Q aB _;change Q (reduceHash<|Builtin.Tuple.tupleHashOf<|oq w l) {s with toks:=s.toks+(rS l+1)}at h;delta reduceHash at h;by_cases aH:(decide (-(2:Int)^63<=Builtin.Tuple.tupleHashOf (oq w l))&&decide (Builtin.Tuple.tupleHashOf (oq w l)<2^63))=true
   ·rw[bg aH]at h;exact V (bg aH)<|wpAny_pure h
   ·rw[bI aH]at h;exact V (bI aH)<|wpAny_bind<|wpAny_rule<|wpAny_pure h
def zQ(n:Nat){k:I}(ao:I.hs n k):xA prog w M n k:=
 (vx (P:=λn k=>xA prog w M n k) (Q:=λn l=>∀k∈l,xA prog w M n k) (λB B B B B B B r B h=>by cases r;exact wpAny_pyHash_int h) (λB B B B B B B B r B h=>by cases r;exact wpAny_pyHash_str h)
  (λB B ay=>QD ay) (λB B h=>absurd h b4) λB B B h t=>mL.mpr ⟨h,t⟩).1 k n ao
def vy(prog:Program)(w:World)(M:c6)(n:Nat)(k:I):Prop:=∀{A:Around} {aB:Value->Shared->Prop} {s:Shared} {v:Value} {Q:Bool->Shared->Prop} (m:Nat),n<=m->bb s.heap M v k->Q true s->wpAny (model prog w) A (eqIsQuiet m v) Q aB s
def QE{n:Nat}(ay:∀k∈l,vy prog w M n k):vy prog w M (n+1) (.ak l):=by
 intro A aB s v Q m hm r h;cases r with
 |ak aP hn aV=>
  obtain⟨o,aA,ag,q,bC⟩:=aP;have eD:s.TypeIs (.ref _) "tuple":=⟨o,aA,ag⟩;cases m with
  |zero=>exact absurd hm<|vz n
  |succ m=>
   unfold eqIsQuiet;refine wpAny_bind<|wpAny_specialOf eD F.slot_tuple_eq.lookup ?_;refine wpAny_bind (m:=isInstance _ _)<|wpAny_isInstance eD isSubtype_tuple_tuple ?_;refine wpAny_bind (m:=seqItems? _)<|wpAny_seqItems aA bC ?_;refine wpAny_bind (m:=forIn _ _ _)<|eF Array.forIn_toList ?_;refine wpAny_forIn_list _ (λrest r aY=>r.1=none/\aY=s/\∃left,b7 s.heap M rest left/\∀k∈left,vy prog w M n k) _ ?_ ?_ _ _ ⟨rfl,rfl,l,aV,ay⟩
   ·rintro v rest r aY ⟨aH,rfl,left,an,ao⟩;cases an with
    |cons Y xB=>exact wpAny_bind (m:=eqIsQuiet _ _)<|ao _ bp m (Nat.le_of_succ_le_succ hm) Y<|wpAny_pure ⟨rfl,rfl,_,xB,λk q=>ao k<|bQ _ q⟩
   ·rintro ⟨_,_⟩ aY ⟨rfl,rfl,_⟩;exact wpAny_pure h
def QF(n:Nat){k:I}(ao:I.hs n k):vy prog w M n k:=
 (vx (P:=λn k=>vy prog w M n k) (Q:=λn l=>∀k∈l,vy prog w M n k) (λB B B B B B B B B r h=>by cases r;exact V (eqIsQuiet_byValue _ rfl)<|wpAny_pure h) (λB B B B B B B B B B r h=>by cases r;exact V (eqIsQuiet_byValue _ rfl)<|wpAny_pure h)
  (λB B ay=>QE ay) (λB B h=>absurd h b4) λB B B h t=>mL.mpr ⟨h,t⟩).1 k n ao
def QG{a b:Value}{x:I}{Q:Bool->Shared->Prop}(bD:A.units+64<cLine)(b9:bb s.heap M a x)(dE:bb s.heap M b y)(ko:I.key x)(mK:I.key y)(h:Q (decide<|x=y) s):wpAny (model prog w) A (eqBool a b) Q aB s:=Iu b9 dE ko mK bD prog w aB Q h
noncomputable def Dh(prog:Program)(w:World)(M:c6):HeapKind prog w I where
 is:=λh k a=>bb h M (.ref a) k/\I.key k=true
 hash:=kl w
 draws:=kp
 room:=λA=>A.units+64<cLine
 inj:=λac a8=>bb.Iz 6 ac.1 a8.1 ac.2 a8.2
 keeps:=λ{h aO k a d o ax ep} x aA bC aJ=>by
  refine⟨bb.keep ⟨⟨[],by simp⟩,λb o' e c q n=>⟨?_,n⟩⟩ x.1,x.2⟩;have f7:b≠d:=by rintro rfl;rw[aA]at e;cases e;obtain⟨dQ,m,aC⟩:=q;rw[bC]at aC;cases aC
  rw[aJ.2 b f7];exact e
 pyHash:=λbD ao h=>zQ 6 ao.2 ao.1 (by lia) h
 eqBool:=λbD ac a8 h=>QG bD ac.1 a8.1 ac.2 a8.2 h
 quiet:=λao h=>QF 6 ao.2 8 (by decide) ao.1 h
def fa.at{l:List (I×I)}{p:I×I}(r:fa w h M ax l):l[i]? =some p->∃e,ax[i]? =some e/\e.hash=kl w p.1/\I.key p.1/\bb h M e.key p.1/\bb h M e.val p.2:=r.rec (motive:=λax l B=>∀i,l[i]? =some p->∃e,ax[i]? =some e/\e.hash=kl w p.1/\I.key p.1/\bb h M e.key p.1/\bb h M e.val p.2) (λB e=>bj e) (λ{e} B B B B a b c d B ay i=>i.casesOn (λq=>⟨e,rfl,br q▸⟨a,b,c,d⟩⟩) ay) i
def fa.d2{l:List (I×I)}{e:DictEntry}(r:fa w h M ax l):ax[i]? =some e->∃p,l[i]? =some p/\e.hash=kl w p.1/\I.key p.1/\bb h M e.key p.1/\bb h M e.val p.2:=r.rec (motive:=λax l B=>∀i,ax[i]? =some e->∃p,l[i]? =some p/\e.hash=kl w p.1/\I.key p.1/\bb h M e.key p.1/\bb h M e.val p.2) (λB e=>bj e) (λ{_ _ k v _} a b c d B ay i=>i.casesOn (λq=>⟨(k,v),rfl,br q▸⟨a,b,c,d⟩⟩) ay) i
noncomputable def QH:Value->Addr
 |.ref a=>a
 |_=>0
noncomputable def zR(ax:List DictEntry)(l:List (I×I)):List (I×Addr×Value):=List.zipWith (λe p=>(p.1,QH e.key,e.val)) ax l
def QI{l:List (I×I)}(r:fa w h M ax l):(∀p∈l,nh p.1=2)->
  ax=(zR ax l).map (entryOfKey<|Dh prog w M)/\(∀x∈zR ax l,(Dh prog w M).is h x.1 x.2.1)/\(zR ax l).map (·.1)=l.map (·.1):=by
 induction r with
 |nil=>exactλB=>⟨rfl,λB ac=>absurd ac b4,rfl⟩
 |@cons e ax k v l a b c d r ay=>
  intro ag;have i:=ay λp ab=>ag p<|bQ _ ab;have q:∀v,bb h M v k->∃x,v=.ref x:=λv c=>by
   have ae:=ag _ bp;cases c with
   |ak B cq eE=>exact⟨_,rfl⟩
   |L B=>exact⟨_,rfl⟩
   |_=>exact absurd ae nofun
  obtain⟨dp,aq,QJ⟩:=e;obtain⟨x,rfl⟩:=q aq c;exact⟨congr (ai List.cons<|ai (λt=>(⟨t,.ref x,QJ⟩:DictEntry)) a) i.1,λy a8=>(cR a8).elim (λe=>e▸⟨c,b⟩)<|i.2.1 y,ai (k::·) i.2.2⟩
def QK{β:Type}{l:List (I×β)}{k:I}{v:β}(hn:(l.map (·.1)).Nodup)(h:l[i]? =some (k,v)):l.findIdx? (λp=>decide<|p.1=k)=some i:=by have ah:=(h6 h).1;have he:=(h6 h).2;rw[xC];refine⟨ah,cj (ai (·.1) he),λj aQ=> ?_⟩;refine V decide_eq_true_eq λe=>dV aQ ?_;have ae:(l.map (·.1))[i]? =some k:=V nw<|V h rfl;have IC:=ec aQ ah;have Y:(l.map (·.1))[j]? =some k:=V nw<|V (ji IC)<|ai some e;exact(List.getElem?_inj (V (c2 _) IC) hn).mp<|Y.trans ae.symm
def ID{K:Type}[DecidableEq K]{knd:KeyKind prog w K}{mk:K->I}{i:K}{c:Nat}(inj:∀{a b},mk a=mk b->a=b){d:Addr}{ax:Array DictEntry}{l:List (I×I)}{Q:Option Nat->Shared->Prop}(ao:∀e p,bb s.heap M e p->nh p=c->∃m,p=mk m/\knd.is m e)(dp:∀m,kl w (mk m)=knd.hash m)(ag:∀p∈l,nh p.1=c)(aR:knd.is i v)(aA:s.heap.get? d=some o)(bC:o.data=.dict ax ep)(ed:fa w s.heap M ax.toList l)(h:Q (l.findIdx? λp=>decide<|p.1=mk i) s):wpAny (model prog w) A (dictFind d v<|kl w<|mk i) Q aB s:=by
 have ls:KeysOf knd ax:=λe he=>by
  obtain⟨j,aQ⟩:=List.getElem?_of_mem<|Array.mem_toList_iff.mpr he;obtain⟨p,ab,Y,B,ba,cq⟩:=ed.d2 aQ;obtain⟨m,hm,aJ⟩:=ao _ _ ba<|ag p<|dL ab;exact⟨m,aJ,Y.trans<|hm▸dp m⟩
 have ah:∀{e k},bb s.heap M e k->nh k=c->knd.is i e=decide (k=mk i):=λ{e k} r q=>by
  obtain⟨m,rfl,aJ⟩:=ao _ _ r q;cases ac:knd.is i e with
  |true=>exact(cj<|ai mk<|knd.inj _ _ _ aJ ac).symm
  |false=>exact(co λq=>Bool.noConfusion<|bu ac<|inj q▸aJ).symm
 have ac:ax.findIdx? (λe=>knd.is i e.key)=l.findIdx? λp=>decide (p.1=mk i):=(List.findIdx?_toArray _ ax.toList).trans
  (ed.rec (motive:=λax l B=>(∀p∈l,nh p.1=c)->ax.findIdx? (λe=>knd.is i e.key)=l.findIdx? λp=>decide<|p.1=mk i) (λB=>rfl)
   (λB B ba B B ay ag=>V List.findIdx?_cons (V List.findIdx?_cons (V (ay λp ab=>ag p (bQ _ ab)) (V (ah ba (ag _ bp)) rfl)))) ag)
 exact V (dp i)<|wpAny_dictFind_of (knd:=knd) aR aA bC ls<|V ac h
def Di{d:Addr}{ax:Array DictEntry}{l:List (I×I)}{k:I}{Q:Option Nat->Shared->Prop}(bD:A.units+64<cLine)(r:bb s.heap M v k)(ao:e2 l k)(aA:s.heap.get? d=some o)(bC:o.data=.dict ax ep)(ed:fa w s.heap M ax.toList l)(hn:(l.map (·.1)).Nodup)(h:Q (l.findIdx? λp=>decide<|p.1=k) s):wpAny (model prog w) A (dictFind d v<|kl w k) Q aB s:=by
 have aq:=bP ao;have ag:∀p∈l,nh p.1=nh k:=λp ab=>beq_iff_eq.mp<|hh (cN ao) p ab;cases r with
 |none=>exact b8 aq
 |bool b=>exact b8 aq
 |L B=>exact b8 aq
 |int i t=>
  exact ID (knd:=intKind prog w) (mk:=.int) (c:=0) (λe=>I.int.inj e) (λe p r q=>by
   cases r with
   |int m t=>exact⟨m,rfl,intKind_is prog w m t⟩
   |_=>exact Nat.noConfusion q) (λB=>rfl) ag (intKind_is prog w i t) aA bC ed h
 |str x t=>
  exact ID (knd:=PySem.strKind prog w) (mk:=.str) (c:=1) (λe=>I.str.inj e) (λe p r q=>by
   cases r with
   |str m t=>exact⟨m,rfl,PySem.strKind_is prog w m t⟩
   |int B cq=>exact absurd q Nat.zero_ne_one
   |_=>exact Nat.noConfusion (nq q)) (λB=>rfl) ag (PySem.strKind_is prog w x t) aA bC ed h
 |@ak a vs t aP zS aV=>
  obtain⟨h9,gE,kq⟩:=QI (prog:=prog) ed ag;have ac:l.findIdx? (λp=>decide<|p.1=I.ak t)=(zR ax.toList l).findIdx? λp=>decide (p.1=I.ak t):=(List.findIdx?_map (f:=λx:I×I=>x.1) (p:=λx=>decide<|x=I.ak t)).symm.trans<|(ai (List.findIdx? λx=>decide<|x=I.ak t) kq.symm).trans List.findIdx?_map
  rw[ac]at h;refine wpAny_dictFind_heap (knd:=Dh prog w M) (k:=.ak t) bD ⟨.ak aP zS aV,aq⟩ aA bC h9 gE (kq▸hn) (λrU=> ?_) λj p aQ=>QK (kq▸hn) aQ▸h;refine V (List.findIdx?_eq_none_iff.mpr λp ab=>co λe=> ?_).symm h;obtain⟨j,aQ⟩:=List.getElem?_of_mem ab;exact rU j p.2<|e▸aQ
end
section
def Dj{l:List (I×I)}{k:I}(h:l.findIdx? (λp=>decide<|p.1=k)=none):cD l k=none:=ai (Option.map λp:I×I=>p.2)<|List.find?_eq_none.mpr λp ab=>mJ.mp<|List.findIdx?_eq_none_iff.mp h p ab
def Dk{l:List (I×I)}{k:I}(h:l.findIdx? (λp=>decide<|p.1=k)=some i):∃v,l[i]? =some (k,v)/\cD l k=some v:=
 (xC.mp h).elim λah q=>⟨l[i].2,(ji ah).trans<|ai some<|Prod.ext (dw q.1) rfl,
  ai (Option.map λp:I×I=>p.2) ((List.find?_eq_some_iff_getElem (p:=λp:I×I=>decide (p.1=k))).mpr ⟨q.1,i,ah,rfl,λj aQ=>ai not (mJ.mpr (q.2 j aQ))⟩)⟩
def QL{d:Addr}{ax:Array DictEntry}{n:Nat}{c:Value}{f:Array DictEntry->Array DictEntry}(aA:h.get? d=some {cls:=c,data:=.dict ax n}):
  (h.update d<|Obj.mapDict f).get? d=some {cls:=c,data:=.dict (f ax) n}/\Heap.SameBut d h (h.update d<|Obj.mapDict f):=
 ⟨Heap.get?_update_self _ aA rfl,Heap.SameBut.update ..⟩
def IE{d:Addr}{ax:Array DictEntry}{n:Nat}{c:Value}{f:Array DictEntry->Array DictEntry}(aA:h.get? d=some {cls:=c,data:=.dict ax n}):
  (h.update d<|Obj.mapDictKeys f).get? d=some {cls:=c,data:=.dict (f ax)<|n+1}/\Heap.SameBut d h (h.update d<|Obj.mapDictKeys f):=
 ⟨Heap.get?_update_self _ aA rfl,Heap.SameBut.update ..⟩
def fa.zM{e:DictEntry}{k v:I}{l:List (I×I)}(r:fa w h M ax l)(a:e.hash=kl w k)(b:I.key k)(c:bb h M e.key k)(d:bb h M e.val v):fa w h M (ax++[e]) (l++[(k,v)]):=r.rec (motive:=λax l B=>fa w h M (ax++[e])<|l++[(k,v)]) (.cons a b c d .nil) λa b c d B ay=>.cons a b c d ay
def zT{k v:I}{l:List (I×I)}(hn:(((k,v)::l).map (·.1)).Nodup):∀p∈l,p.1≠k:=λB ab e=>(hI hn).1<|i2 ⟨_,ab,e⟩
def IF{α β:Type}{f:α->β}{a:α}{b:β}{l:List α}{m:List β}(h:f a=b)(k:l.map f=m):(a::l).map f=b::m:=congr (ai List.cons h) k
def fa.modify{x:Value}{k v u:I}{l:List (I×I)}(r:fa w h M ax l):∀{i:Nat},l[i]? =some (k,u)->(l.map (·.1)).Nodup->bb h M x v->
  fa w h M (ax.modify i λe=>{e with val:=x}) (l.map λp=>if p.1=k then(p.1,v)else p):=by
 induction r with
 |nil=>exactλe=>bj e
 |@cons e ax cx kr l a b c d r ay=>
  intro i e hn q;cases i with
  |zero=>obtain⟨rfl,rfl⟩:=kQ<|br e;have aD:((cx,kr)::l).map (λp=>if p.1=cx then(p.1,v)else p)=(cx,v)::l:=IF (show(if cx=cx then(cx,v)else(cx,kr))=_ from bg rfl)<|(tM (g:=id) λp ab=>bI<|zT hn p ab).trans<|List.map_id _;exact V aD<|.cons a b c q r
  |succ i=>
   have aD:((cx,kr)::l).map (λp=>if p.1=k then(p.1,v)else p)=(cx,kr)::l.map λp=>if p.1=k then(p.1,v)else p:=IF (show(if cx=k then(cx,v)else(cx,kr))=_ from bI λe'=>zT hn _ (dL e) e'.symm) rfl
   exact V aD<|.cons a b c d<|ay e (hI hn).2 q
def fa.erase{k u:I}{l:List (I×I)}(r:fa w h M ax l):∀{i:Nat},l[i]? =some (k,u)->(l.map (·.1)).Nodup->fa w h M (ax.eraseIdx i) (mG l k):=by
 induction r with
 |nil=>exactλe=>bj e
 |@cons e ax cx kr l a b c d r ay=>
  intro i e hn;cases i with
  |zero=>obtain⟨rfl,rfl⟩:=kQ<|br e;exact V (show mG ((cx,kr)::l) cx=l from(vA (p:=λp:I×I=>decide<|p.1≠cx) λe=>(dw e:cx≠cx) rfl).trans<|List.filter_eq_self.mpr λp ab=>cj<|zT hn p ab) r
  |succ i=>exact V (show mG ((cx,kr)::l) k=(cx,kr)::mG l k from xD<|cj (p:=cx≠k) λe'=>zT hn _ (dL e) e'.symm)<|.cons a b c d<|ay e (hI hn).2
def QM{l:List (I×I)}{k v:I}(hn:(l.map (·.1)).Nodup):((fB l k v).map (·.1)).Nodup:=by
 by_cases dp:(cD l k).isSome=true
 ·refine V (show fB l k v=_ from bg dp)<|V jC<|V (tM λp B=> ?_) hn;by_cases e:p.1=k
  ·show(if p.1=k then(p.1,v)else p).1=p.1;rw[bg e]
  ·show(if p.1=k then(p.1,v)else p).1=p.1;rw[bI e]
 ·refine V (show fB l k v=_ from bI dp)<|V (iI)<|kU.mpr ⟨hn,tN _ _,λa aT b aj e=>dp ?_⟩;obtain⟨p,ab,rfl⟩:=e3 aT;exact V Option.isSome_map<|List.find?_isSome.mpr ⟨p,ab,cj<|e.trans<|bT aj⟩
def QN{l:List (I×I)}{k:I}(hn:(l.map (·.1)).Nodup):((mG l k).map (·.1)).Nodup:=((List.filter_sublist).map _).nodup hn
def QO(l:List (I×I))(k v:I):(fB l k v).length<=l.length+1:=by
 by_cases dp:(cD l k).isSome=true
 ·exact V (show fB l k v=_ from bg dp)<|V (c2 _)<|cT _ _
 ·exact V (show fB l k v=_ from bI dp)<|cP er
def QP(l:List (I×I))(k:I):(mG l k).length<=l.length:=List.length_filter_le ..
section
variable{au:Heap}{a b:Value}{x k:I}{D:Addr}{ax:Array DictEntry}{l:List (I×I)}
def zU(h:e2 l k):I.key k:=bP h
def IG{fC:DictEntry}(h:ax.toList[i]? =some fC):ax[i]? =some fC:=bu Array.getElem?_toList h
def vB(h:A.units+65<cLine):A.in1.units+64<cLine:=show A.units+1+64<cLine from h
def zV{Q:Option Value->Shared->Prop}(bD:A.units+64<cLine)(r:bb s.heap M v k)(ao:e2 l k)(aA:s.heap.get? D=some o)(bC:o.data=.dict ax ep)(ed:fa w s.heap M ax.toList l)(hn:(l.map (·.1)).Nodup)(h:∀u,lp s.heap M u (cD l k)->Q u {s with toks:=s.toks+kp k}):wpAny (model prog w) A (dictGet D v) Q aB s:=by
 refine wpAny_holding (vs:=[v])<|wpAny_bind<|zQ 6 (zU ao) r (C6 bD)<|wpAny_bind<|Di (s:={s with toks:=s.toks+kp k}) bD r ao aA bC ed hn ?_;cases ah:l.findIdx? λp=>decide (p.1=k)with
 |none=>exact wpAny_pure<|h none<|V (Dj ah) trivial
 |some i=>obtain⟨q,aC,e⟩:=Dk ah;obtain⟨fC,he,B,cq,eE,aR⟩:=ed.at aC;exact wpAny_bind<|wpAny_dictEntries (s:={s with toks:=s.toks+kp k}) aA bC<|V (IG he)<|wpAny_pure<|h (some fC.val)<|V e aR
def zW{au:Heap}(aJ:∃o,au.get? sysModules=some o)(h:au.get? D=none):(D==sysModules)=false:=aJ.elim λB aA=>beq_eq_false_iff_ne.mpr λe=>bj<|bu h<|e▸aA
def IH{Q:Prop}{o:Option I}{u:Option Value}(r:lp h M u o)(dP:∀v x,u=some v->o=some x->bb h M v x->Q)(bA:u=none->o=none->Q):Q:=by
 cases u with
 |none=>
  cases o with
  |none=>exact bA rfl rfl
  |some B=>exact r.elim
 |some v=>
  cases o with
  |none=>exact r.elim
  |some x=>exact dP v x rfl rfl r
def II{Q:Bool->Shared->Prop}(bD:A.units+65<cLine)(r:bb s.heap M v k)(ao:e2 l k)(bC:(D==sysModules)=false)(aA:s.heap.get? D=some {cls:=.type "dict",data:=.dict ax ep})(ed:fa w s.heap M ax.toList l)(hn:(l.map (·.1)).Nodup)(h:Q (cD l k).isSome {s with toks:=s.toks+kp k}):
  wpAny (model prog w) A (contains (.ref D) v) Q aB s:=by
 have eD:s.TypeIs (.ref D) "dict":=⟨_,aA,rfl⟩;refine wpAny_holding (vs:=[_,_])<|wpAny_bind<|wpAny_specialOf eD slot_dict_contains.lookup ?_;refine wpAny_bind (m:=callSpecialUnlessNone? _ _ _ _) (wpAny_callSpecialUnlessNone?_slot (name:=aa "__contains__") eD slot_dict_contains
  (wpAny_call_entry slot_dict_contains eD entry_dict_contains ?_ (args_dict_contains _ _)))
 refine wpAny_bind (m:=dictGet D v)<|zV (A:=A.in1) (vB bD) r ao aA rfl ed hn λu qE=> ?_;refine IH qE (λB B e aF B=> ?_) λe aF=> ?_
 ·subst e;rw[aF]at h;exact wpAny_pure ⟨_,rfl,wpAny_truthy_bool h⟩
 ·subst e;rw[aF]at h;exact wpAny_bind (m:=Builtin.Dict.pendingKey? D v)<|wpAny_pendingKey_other bC<|wpAny_pure ⟨_,rfl,wpAny_truthy_bool h⟩
def QQ(bD:A.units+65<cLine)(r:bb s.heap M v k)(ao:e2 l k)(aA:s.heap.get? D=some {cls:=.type "dict",data:=.dict ax ep})(ed:fa w s.heap M ax.toList l)(hn:(l.map (·.1)).Nodup)(bB:cD l k=some x)(h:∀u,bb s.heap M u x->Q u {s with toks:=s.toks+kp k}):
  wpAny (model prog w) A (getItem (.ref D) v) Q aB s:=by
 have eD:s.TypeIs (.ref D) "dict":=⟨_,aA,rfl⟩;refine wpAny_holding (vs:=[_,_])<|wpAny_bind<|wpAny_sequenceKey eD rfl ?_;refine wpAny_bind (m:=callSpecial? _ _ _) (wpAny_callSpecial?_slot (name:=aa "__getitem__") eD slot_dict_getitem
  (wpAny_call_entry slot_dict_getitem eD entry_dict_getitem ?_ (args_dict_getitem _ _)))
 refine wpAny_bind (m:=dictGet D v)<|zV (A:=A.in1) (vB bD) r ao aA rfl ed hn λu qE=> ?_;obtain⟨Dl,rfl,aH⟩:=(bB▸qE).Df;exact wpAny_pure ⟨Dl,rfl,wpAny_pure<|h Dl aH⟩
def QR(bC:(D==sysModules)=false):MeetsIn prog w (Builtin.«dict.get» ⟨[.ref D,v],[]⟩) (λA R s=>A.units+65<cLine/\∃(M:c6) (k:I) (l:List (I×I)) (ax:Array DictEntry) (ep:Nat),
   bb s.heap M v k/\e2 l k/\s.heap.get? D=some {cls:=.type "dict",data:=.dict ax ep}/\fa w s.heap M ax.toList l/\(l.map (·.1)).Nodup/\
   ∀u,lp s.heap M u (cD l k)->R (.ok (.ret (u.getD .none))) {s with toks:=s.toks+kp k}):=
 .of_wp λA R s ⟨bD,M,k,l,ax,ep,q⟩=>wpAny_bind (m:=dictGet D v) (zV (A:=A.in1) (vB bD) q.1 q.2.1 q.2.2.1 rfl q.2.2.2.1 q.2.2.2.2.1 λu qE=>by
  cases u with
  |some u=>exact wpAny_pure ⟨u,rfl,q.2.2.2.2.2 (some u) qE⟩
  |none=>exact wpAny_bind (m:=Builtin.Dict.missed D v) (wpAny_missed_other bC (wpAny_pure ⟨.none,rfl,q.2.2.2.2.2 none qE⟩)))
def QS(bC:(D==sysModules)=false):MeetsIn prog w (Builtin.«dict.get» ⟨[.ref D,v,b],[]⟩) (λA R s=>A.units+65<cLine/\∃(M:c6) (k:I) (l:List (I×I)) (ax:Array DictEntry) (ep:Nat),
   bb s.heap M v k/\e2 l k/\s.heap.get? D=some {cls:=.type "dict",data:=.dict ax ep}/\fa w s.heap M ax.toList l/\(l.map (·.1)).Nodup/\
   ∀u,lp s.heap M u (cD l k)->R (.ok (.ret (u.getD b))) {s with toks:=s.toks+kp k}):=
 .of_wp λA R s ⟨bD,M,k,l,ax,ep,q⟩=>wpAny_bind (m:=dictGet D v) (zV (A:=A.in1) (vB bD) q.1 q.2.1 q.2.2.1 rfl q.2.2.2.1 q.2.2.2.2.1 λu qE=>by
  cases u with
  |some u=>exact wpAny_pure ⟨u,rfl,q.2.2.2.2.2 (some u) qE⟩
  |none=>exact wpAny_bind (m:=Builtin.Dict.missed D v) (wpAny_missed_other bC (wpAny_pure ⟨b,rfl,q.2.2.2.2.2 none qE⟩)))
def Dm(aA:h.get? D=some {cls:=.type "dict",data:=.dict ax ep})(aJ:Heap.SameBut D h aO):g5 h M aO M:=⟨⟨[],(ew _).symm⟩,λb o e c B n=>⟨(aJ.2 b λq=>(show¬Value.type "dict"=.type "tuple" by decide)<|(ai Obj.cls<|br<|bu aA<|q▸e).trans c).trans e,n⟩⟩
def IJ(ed:fa w s.heap M ax.toList l):ax.size=l.length:=ed.length
def IK:16000000<=sizeLine:=by decide
def QT{Q:Unit->Shared->Prop}(bD:A.units+64<cLine)(r:bb s.heap M v k)(tO:bb s.heap M u x)(ao:e2 l k)(aA:s.heap.get? D=some {cls:=.type "dict",data:=.dict ax ep})(ed:fa w s.heap M ax.toList l)(hn:(l.map (·.1)).Nodup)(an:l.length<16000000)(h:∀aO jj lu t,aO.get? D=some {cls:=.type "dict",data:=.dict jj lu}->fa w aO M jj.toList (fB l k x)->Heap.SameBut D s.heap aO->Q () {s with heap:=aO,toks:=t}):
  wpAny (model prog w) A (dictSet D v u) Q aB s:=by
 refine wpAny_holding (vs:=[_,_])<|wpAny_bind<|zQ 6 (zU ao) r (C6 bD) ?_;refine wpAny_holding (vs:=[_,_])<|wpAny_bind<|Di (s:={s with toks:=s.toks+kp k}) bD r ao aA rfl ed hn ?_;cases ah:l.findIdx? λp=>decide (p.1=k)with
 |none=>obtain⟨aD,aF⟩:=IE (f:=λax=>ax.push ⟨kl w k,v,u⟩) aA;have K:=Dm (M:=M) aA aF;refine wpAny_bind<|wpAny_rule<|wpAny_updateDictKeys (hz:=Qe (IJ ed) an IK) (s:={s with toks:=s.toks+kp k}) aA rfl<|h _ _ _ _ aD ?_ aF;exact V (show fB l k x=_ from bI (by rw[Dj ah];exact nofun))<|V Array.toList_push<|(ed.keep K).zM rfl (zU ao) (r.keep K)<|tO.keep K
 |some i=>obtain⟨q,aC,e⟩:=Dk ah;obtain⟨aD,aF⟩:=QL (f:=λax=>ax.modify i λe=>{e with val:=u}) aA;have K:=Dm (M:=M) aA aF;refine wpAny_bind<|wpAny_rule<|wpAny_bind<|wpAny_updateDict (s:={s with toks:=s.toks+kp k}) aA rfl<|wpAny_point<|h _ _ _ _ aD ?_ aF;exact V (show fB l k x=_ from bg<|V e rfl)<|V Array.toList_modify<|(ed.keep K).modify aC hn<|tO.keep K
def QU{Q:Unit->Shared->Prop}(bD:A.units+65<cLine)(r:bb s.heap M v k)(tO:bb s.heap M u x)(ao:e2 l k)(aA:s.heap.get? D=some {cls:=.type "dict",data:=.dict ax ep})(ed:fa w s.heap M ax.toList l)(hn:(l.map (·.1)).Nodup)(an:l.length<16000000)(h:∀aO jj lu t,aO.get? D=some {cls:=.type "dict",data:=.dict jj lu}->fa w aO M jj.toList (fB l k x)->Heap.SameBut D s.heap aO->Q () {s with heap:=aO,toks:=t}):
  wpAny (model prog w) A (setItem (.ref D) v u) Q aB s:=by
 have eD:s.TypeIs (.ref D) "dict":=⟨_,aA,rfl⟩;refine wpAny_holding (vs:=[_,_,_])<|wpAny_bind<|wpAny_sequenceKey eD rfl ?_;refine wpAny_bind (m:=callSpecial? _ _ _) (wpAny_callSpecial?_slot (name:=aa "__setitem__") eD slot_dict_setitem
  (wpAny_call_entry slot_dict_setitem eD entry_dict_setitem ?_ (args_dict_setitem _ _ _)))
 refine wpAny_bind (m:=Builtin.Dict.notOrdered "__setitem__" ⟨[.ref D,v,u],[]⟩)<|wpAny_notOrdered_dict eD ?_;exact wpAny_bind (m:=dictSet D v u)<|QT (A:=A.in1) (vB bD) r tO ao aA ed hn an λaO jj lu t Y ae ba=>wpAny_pure ⟨.none,rfl,wpAny_pure<|h aO jj lu t Y ae ba⟩
def QV{Q:Option DictEntry->Shared->Prop}(bD:A.units+64<cLine)(r:bb s.heap M v k)(ao:e2 l k)(bB:(cD l k).isSome=true)(aA:s.heap.get? D=some {cls:=.type "dict",data:=.dict ax ep})(ed:fa w s.heap M ax.toList l)(hn:(l.map (·.1)).Nodup)(an:l.length<=16000000)(h:∀aO jj lu t e,aO.get? D=some {cls:=.type "dict",data:=.dict jj lu}->fa w aO M jj.toList (mG l k)->Heap.SameBut D s.heap aO->Q (some e) {s with heap:=aO,toks:=t}):
  wpAny (model prog w) A (Builtin.Dict.takeOut D v) Q aB s:=by
 refine wpAny_holding (vs:=[_])<|wpAny_bind<|zQ 6 (zU ao) r (C6 bD)<|wpAny_bind<|Di (s:={s with toks:=s.toks+kp k}) bD r ao aA rfl ed hn ?_;cases ah:l.findIdx? λp=>decide (p.1=k)with
 |none=>rw[Dj ah]at bB;exact Bool.noConfusion bB
 |some i=>obtain⟨q,aC,e⟩:=Dk ah;obtain⟨fC,he,B⟩:=ed.at aC;obtain⟨aD,aF⟩:=IE (f:=λax=>ax.eraseIdxIfInBounds i) aA;refine wpAny_bind<|wpAny_dictEntries (s:={s with toks:=s.toks+kp k}) aA rfl<|V (IG he) ?_;refine wpAny_bind<|wpAny_updateDictKeys (hz:=tC (IJ ed) an IK) (s:={s with toks:=s.toks+kp k}) aA rfl<|wpAny_pure<|h _ _ _ _ fC aD ?_ aF;exact V Array.toList_eraseIdxIfInBounds<|(ed.keep<|Dm (M:=M) aA aF).erase aC hn
def QW{Q:Unit->Shared->Prop}(bD:A.units+65<cLine)(r:bb s.heap M v k)(ao:e2 l k)(bB:(cD l k).isSome=true)(aA:s.heap.get? D=some {cls:=.type "dict",data:=.dict ax ep})(ed:fa w s.heap M ax.toList l)(hn:(l.map (·.1)).Nodup)(an:l.length<=16000000)(h:∀aO jj lu t,aO.get? D=some {cls:=.type "dict",data:=.dict jj lu}->fa w aO M jj.toList (mG l k)->Heap.SameBut D s.heap aO->Q () {s with heap:=aO,toks:=t}):
  wpAny (model prog w) A (delItem (.ref D) v) Q aB s:=by
 have eD:s.TypeIs (.ref D) "dict":=⟨_,aA,rfl⟩;refine wpAny_delItem_slot eD rfl F.slot_dict_delitem<|wpAny_call_entry F.slot_dict_delitem eD F.entry_dict_delitem ?_<|F.args_dict_delitem_2 _ _;refine wpAny_bind (m:=Builtin.Dict.dictSlotArgs "__delitem__" ⟨[.ref D,v],[]⟩)<|wpAny_bind<|wpAny_notOrdered_dict eD<|wpAny_pure ?_;exact wpAny_bind (m:=Builtin.Dict.takeOut D v)<|QV (A:=A.in1) (vB bD) r ao bB aA ed hn an λaO jj lu t e Y ae ba=>wpAny_bind<|wpAny_letGo<|wpAny_pure ⟨.none,rfl,h aO jj lu t Y ae ba⟩
end
end
section
structure Ctx where
 prog:Program
 w:World
 N:vu
 au:Heap
structure bX(c:Ctx)(W:List Addr)(s:Shared)(M:c6)(aY:Shared)(bt:c6)(S:St):Prop where
 tr:h7 W s.heap M aY.heap bt
 ok:bJ c.w c.N c.au aY.heap bt S
 gens:aY.gens=s.gens
 drawn:aY.drawn=s.drawn
 os:aY.os=s.os
section
variable{c:Ctx}
def bX.refl(O:bJ c.w c.N c.au s.heap M C):bX c W s M s M C:=⟨.refl ..,O,rfl,rfl,rfl⟩
def bX.trans(x:bX c W s M aY bt S)(y:bX c W aY bt zX tI ox):bX c W s M zX tI ox:=⟨x.tr.trans y.tr,y.ok,y.gens.trans x.gens,y.drawn.trans x.drawn,y.os.trans x.os⟩
def bX.ci(x:bX c W s M aY bt S)(h:∀b∈W,b∈kn):bX c kn s M aY bt S:=⟨x.tr.ci h,x.ok,x.gens,x.drawn,x.os⟩
def bX.ia(x:bX c [] s M aY bt S):bX c W s M aY bt S:=x.ci λB h=>nomatch h
def bX.tJ(x:bX c W s M aY bt S)(hv:∀b∈W,s.heap.get? b=none):bX c [] s M aY bt S:=⟨x.tr.tJ hv,x.ok,x.gens,x.drawn,x.os⟩
def bX.keep(x:bX c [] s M aY bt S):g5 s.heap M aY.heap bt:=x.tr.Qn
def bX.ou(O:bJ c.w c.N c.au s.heap M C)(g:vw s aY):bX c W s M aY M C:=by obtain⟨aO,tk,rfl,k⟩:=g;exact⟨.h8 k,O.ou k,rfl,rfl,rfl⟩
def bX.jA(O:bJ c.w c.N c.au s.heap M C)(t:Nat):bX c W s M {s with toks:=t} M C:=.ou O<|.jA s t
def bX.push(O:bJ c.w c.N c.au s.heap M C)(o:Obj)(t:Nat):bX c W s M {s with heap:=s.heap.push o,toks:=t} M C:=.ou O ⟨_,t,rfl,λb x e=>Heap.get?_push_of_some o e⟩
def zY{b:Addr}(k:h.objs.size<=b):h.get? b=none:=by
 cases e:h.get? b with
 |none=>rfl
 |some o=>exact absurd (Heap.lt_size e)<|lv k
def rV(h:Heap):h.get? h.objs.size=none:=zY<|gF _
def bJ.tP{au:Heap}(x:bJ w N au h M C){b:Addr}(k:h.get? b=none):b∉foot M/\au.get? b=none:=by
 refine⟨λhm=>(x.alive _ hm).elim λo aA=>bj<|bu k aA,?_⟩;cases q:au.get? b with
 |none=>rfl
 |some o=>exact bj<|bu k<|x.keep _ _ q
def bX.new(O:bJ c.w c.N c.au s.heap M C){x:b5}(hf:o.isFreed=false){t:Nat}(r:g5 s.heap M (s.heap.push o) (M++[(s.heap.objs.size,none)])->ot c.w c.N (s.heap.push o) (M++[(s.heap.objs.size,none)]) (s.heap.objs.size,none) x):
  bX c W s M {s with heap:=s.heap.push o,toks:=t} (M++[(s.heap.objs.size,none)]) (C++[x]):=by
 have k:∀b y,s.heap.get? b=some y->(s.heap.push o).get? b=some y:=λb y e=>Heap.get?_push_of_some o e;have hn:∀b∈foot [(s.heap.objs.size,(none:Option Addr))],s.heap.get? b=none:=λb aj=>V (bT aj)<|rV _;exact⟨⟨⟨_,rfl,λb aj=>.inl<|hn b aj⟩,λb y e B B=>k b y e,λb y e B=>⟨y,k b y e⟩,λB b y B B e=>k b y e⟩,O.push hn (tN _ _) k r O.alive,rfl,rfl,rfl⟩
def bb.last(O:bJ c.w c.N c.au s.heap M C):bb h (M++[p]) (.ref p.1) (.L C.length):=.L<|O.len▸List.getElem?_concat_length
def IL{d:Addr}(h:d=p.1\/p.2=some d):d∈p.1::p.2.toList:=h.elim (λe=>e▸bp) λe=>bQ _<|Option.mem_toList.mpr e
def bX.de(O:bJ c.w c.N c.au s.heap M C){qF:b5}{d:Addr}{t:Nat}(ab:M[i]? =some p)(QX:i≠0)(bC:d=p.1\/p.2=some d)(aJ:Heap.SameBut d s.heap aO)(hex:∃o,aO.get? d=some o)(fL:∀o,s.heap.get? d=some o->o.cls≠.type "tuple")(r:g5 s.heap M aO M->ot c.w c.N aO M p qF):
  bX c W s M {s with heap:=aO,toks:=t} M (C.set i qF):=by
 have hm:d∈foot M:=zL ab<|IL bC;exact⟨⟨⟨[],(ew _).symm,λB h=>absurd h b4⟩,λb o e n B=>(aJ.2 b λq=>n<|q▸hm).trans e,
  λb o e B=>if aj:b=d then aj▸hex else⟨o,(aJ.2 b aj).trans e⟩,
  λq b o aC aj e=>(aJ.2 b λw=>Ih O.nodup ab aC QX (w▸IL bC) aj).trans e⟩,
  O.set ab (W:=[d]) (λb aj=>bT aj▸bC) (λb aj o e c B=>fL o (bT aj▸e) c) (λb o e n=>(aJ.2 b λq=>n (tQ.mpr q)).trans e) r,rfl,rfl,rfl⟩
end
section
variable{c:Ctx}{a b:Value}{x:I}
abbrev eO(c:Ctx)(s:Shared)(M:c6)(S:St)(z:I)(Q:Value->Shared->Prop):Prop:=∀aY bt v,bX c [] s M aY bt S->bb aY.heap bt v z->Q v aY
def j0:(16000000:Nat)<=sizeLine:=by decide
theorem IM{i:Int}(h: -lim<i/\i<lim)(h0:i≠0):i.natAbs.log2<63:=(Nat.log2_lt<|by lia).mpr (by delta lim at h;lia)
def QY{i:Int}(h: -lim<i/\i<lim):Builtin.Int.intBits i<=64:=by
 delta Builtin.Int.intBits
 split
 ·decide
 ·rename_i h0
  exact Nat.succ_le_of_lt<|oy<|IM h λe=>h0<|beq_iff_eq.mpr e
def bb.oz(r:bb h M v (.ak l)):∃t vs,v=.ref t/\h.IsTuple t vs.toArray/\t∉foot M/\l.length<=16000000/\b7 h M vs l/\vs.length=l.length:=by
 cases r with
 |ak aP hn aV=>exact⟨_,_,rfl,aP,hn.1,hn.2,aV,aV.length⟩
def zZ(O:bJ c.w c.N c.au s.heap M C)(aV:b7 s.heap M vs l)(an:l.length<=16000000)(t n:Nat)(aA:o={cls:=.type "tuple",data:=.seq vs.toArray n}):
  bX c W s M {s with heap:=s.heap.push o,toks:=t} M C/\bb (s.heap.push o) M (.ref s.heap.objs.size) (.ak l):=by
 subst aA;have k:∀b y,s.heap.get? b=some y->(s.heap.push {cls:=.type "tuple",data:=.seq vs.toArray n}).get? b=some y:=λb y e=>Heap.get?_push_of_some _ e;exact⟨.push O _ t,.ak ⟨_,Heap.get?_push_size _ rfl,rfl,n,rfl⟩ ⟨(O.tP<|rV _).1,an⟩<|aV.keep ⟨⟨[],(ew _).symm⟩,λb y e B B q=>⟨k b y e,q⟩⟩⟩
def Dn(O:bJ c.w c.N c.au s.heap M C)(aV:b7 s.heap M vs l)(an:l.length<=16000000)(t n:Nat)(aA:o={cls:=.type "list",data:=.seq vs.toArray n}):
  bX c W s M {s with heap:=s.heap.push o,toks:=t} (M++[(s.heap.objs.size,none)]) (C++[.list l])/\bb (s.heap.push o) (M++[(s.heap.objs.size,none)]) (.ref s.heap.objs.size) (.L C.length):=by
 subst aA;refine⟨.new O rfl λK=>⟨rfl,vs.toArray,n,Heap.get?_push_size _ rfl,aV.keep K,an⟩,bb.last (p:=(s.heap.objs.size,none)) O⟩
noncomputable def QZ:od->Operator
 |.add=>.Add|.sub=>.Sub|.mul=>.Mult|.fdiv=>.FloorDiv|.mF=>.Mod|.dj=>.BitAnd|.io=>.BitOr|.oe=>.RShift
def IN{o:Operator}(aA:tD o=some op):o=QZ op:=by
 cases o<;>cases aA<;>rfl
def IO{a:Nat}(h:vn C a=some l):C[a]? =some (.list l):=by
 delta vn at h;cases e:C[a]?with
 |none=>rw[e]at h;exact bj h
 |some o=>
  rw[e]at h;cases o with
  |list m=>exact ai (λl=>some<|b5.list l)<|br h
  |_=>exact bj h
def z0{x:Option (I×St)}{r:I×St}(h:C2 op x=some r):op=.add/\x=some r:=by
 cases op<;>first|exact⟨rfl,h⟩|contradiction
def Q0{x:I}{r:I×St}(e:iF op x y C=some r)(dK:∀a b,x=.int a->y=.int b->HM op a b C=some r->R)(fk:∀a b,x=.ak a->y=.ak b->op=.add->(if a.length+b.length<=16000000 then some (I.ak<|a++b,C)else none)=some r->R)(oj:∀a b l m,x=.L a->y=.L b->op=.add->C[a]? =some (.list l)->C[b]? =some (.list m)->(if l.length+m.length<=16000000 then some (I.L C.length,C++[b5.list<|l++m])else none)=some r->R):R:=by
 cases x with
 |int a=>cases y with
  |int b=>exact dK a b rfl rfl e
  |_=>contradiction
 |ak a=>cases y with
  |ak b=>exact fk a b rfl rfl (z0 e).1 (z0 e).2
  |_=>contradiction
 |L a=>cases y with
  |L b=>exact bW (z0 e).2 λl an aD=>bW aD λm hm aF=>oj a b l m rfl rfl (z0 e).1 (IO an) (IO hm) aF
  |_=>contradiction
 |_=>contradiction
def IP{t:Addr}{a:Array Value}(x:h.IsTuple t a):∃kV m eI,h.get? t=some ⟨.type "tuple",kV,.seq a m,eI⟩:=by obtain⟨⟨B,kV,cq,eI⟩,aA,ag,m,bC⟩:=x;cases ag;cases bC;exact⟨kV,m,eI,aA⟩
def IQ(r:b7 h M vs l)(e:vs.toArray.isEmpty):l=[]:=xw<|bu r.length<|dw e
def Q1{m:List I}(O:bJ c.w c.N c.au s.heap M C)(b9:bb s.heap M a (.ak l))(dE:bb s.heap M b (.ak m))(hz:l.length+m.length<=16000000)(h:eO c s M C (.ak<|l++m) Q):wpAny (model c.prog c.w) A (binaryOp .Add a b) Q aB s:=by
 obtain⟨g6,vs,rfl,Do,du,dW,bh,aD⟩:=b9.oz;obtain⟨gv,ws,rfl,jD,n2,d3,bf,aF⟩:=dE.oz;obtain⟨Dp,es,Dq,hi⟩:=IP Do;obtain⟨Dr,cU,Ds,vC⟩:=IP jD;have go:∀{a9:PySem.Spec},Meets (Builtin.«tuple.__add__» ⟨[.ref g6,.ref gv],[]⟩) a9->a9 A (wants Q aB) s->wpAny (model c.prog c.w) A (binaryOp .Add (.ref g6)<|.ref gv) Q aB s:=λg xE=>concat_meets ⟨_,hi,rfl⟩ ⟨_,vC,rfl⟩ noFill_tuple_add seq_tuple_add PySem.F.slot_tuple_add PySem.F.entry_tuple_add (PySem.F.args_tuple_add_2 _ _) g xE
 by_cases z1:vs.toArray.isEmpty=true
 ·exact go (tuple_addW0 g6 gv vs.toArray ws.toArray es cU Dp Dr Dq Ds z1) ⟨hi,vC,h _ M _ (.refl O) (V (ai (·++m)<|IQ bh z1) dE)⟩
 ·by_cases Dt:ws.toArray.isEmpty=true
  ·exact go (tuple_addW1 g6 gv vs.toArray ws.toArray es cU Dp Dr Dq Ds z1 Dt) ⟨hi,vC,h _ M _ (.refl O) (V (ai (l++·)<|IQ bf Dt)<|V (ew l) b9)⟩
  ·have N:=zZ (W:=[]) O (bh.append bf) (V er hz) s.toks 0 (o:={cls:=.type "tuple",data:=.seq<|vs.toArray++ws.toArray}) (by simp);exact go (tuple_addW2 g6 gv vs.toArray ws.toArray es cU Dp Dr Dq Ds z1 Dt<|HY aD aF hz j0) ⟨hi,vC,h _ M _ N.1 N.2⟩
theorem Q2{o:Operator}(K:eo d A)(O:bJ c.w c.N c.au s.heap M C)(b9:bb s.heap M a x)(dE:bb s.heap M b y)(e:iF op x y C=some (z,S))(aA:tD o=some op)(h:eO c s M S z Q):wpAny (model c.prog c.w) A (binaryOp o a b) Q aB s:=by
 rw[IN aA];refine Q0 e (λi j ac a8 e=> ?_) (λl m ac a8 i3 e=> ?_) λi j l m ac a8 i3 an hm e'=> ?_
 ·subst ac a8;have fG:∀{n:Int} {tk:Tok} {t:Nat},some (I.int n,C)=some (z,S)->Q (.int n tk) {s with toks:=t}:=λe=>h _ M _ ((dC e).2▸.jA O _) ((dC e).1▸.int _ _)
  clear h
  cases b9;cases dE;cases op with
  |add=>exact add_int<|fG e
  |sub=>exact sub_int<|fG e
  |mul=>exact d1 e λaj e=>PyProof.Rows.mul_int (fG e)<|.of_left<|QY ⟨aj.1,aj.2.1⟩
  |fdiv=>exact d1 e λaj e=>PyProof.Rows.floordiv_int (by lia) (fG e) (.inl<|PyProof.noPylong_of_log2<|c7 (IM ⟨by delta lim;lia,aj.2⟩<|by lia)<|by decide)
  |mF=>exact d1 e λaj e=>PyProof.Rows.mod_int' (by lia)<|fG e
  |dj=>exact and_int<|fG e
  |io=>exact or_int<|fG e
  |oe=>exact d1 e λaj e=>rshift_int aj<|fG e
 ·subst ac a8 i3;refine d1 e λhz e=> ?_;obtain⟨rfl,rfl⟩:=dC e;exact Q1 O b9 dE hz h
 ·subst ac a8 i3;refine d1 e' λfs e=> ?_;obtain⟨rfl,rfl⟩:=dC e;obtain⟨p,vs,n,ab,rfl,B,hi,aV,cq,aD⟩:=bJ.list O an b9;obtain⟨qC,ws,eH,pD,rfl,B,vC,xz,cq,aF⟩:=bJ.list O hm dE;have N:=Dn (W:=[]) O (vs:=vs.toList++ws.toList) (l:=l++m) (aV.append xz) (V er fs) s.toks 0 (o:={cls:=.type "list",data:=.seq<|vs++ws}) (by simp);exact P.add_list (n:=n) (n2:=eH) hi vC (h _ _ _ N.1 N.2)<|HY aD aF fs j0
end
end
variable{c:Ctx}
section
section
variable{a b:Value}{x:I}
def Q3{i:Int}(O:bJ c.w c.N c.au s.heap M C)(b9:bb s.heap M a (.int i))(h:eO c s M C (.int<|-i) Q):wpAny (model c.prog c.w) A (unaryOp .USub a) Q aB s:=by
 cases b9;exact PyProof.Rows.neg_int<|h _ M _ (.jA O _)<|.int _ _
def Q4{i:Int}(O:bJ c.w c.N c.au s.heap M C)(b9:bb s.heap M a (.int i))(h:eO c s M C (.int<|PySem.Builtin.bitNot i) Q):wpAny (model c.prog c.w) A (unaryOp .Invert a) Q aB s:=by
 cases b9;exact invert_int<|h _ M _ (.jA O _)<|.int _ _
def tR{Q:Bool->Shared->Prop}(O:bJ c.w c.N c.au s.heap M C)(r:bb s.heap M v x)(e:g4 C x=some t)(h:∀aY bt,bX c [] s M aY bt C->Q t aY):wpAny (model c.prog c.w) A (truthy v) Q aB s:=Iw O r e λaY g=>h aY M<|.ou O g
def Q5(O:bJ c.w c.N c.au s.heap M C)(r:bb s.heap M v x)(e:g4 C x=some t)(h:eO c s M C (.bool<|!t) Q):wpAny (model c.prog c.w) A (unaryOp .Not v) Q aB s:=not_of<|Iw O r e λaY g=>h aY M _ (.ou O g)<|.bool _
def IR{o:Operator}{i j:Int}(O:bJ c.w c.N c.au s.heap M C)(b9:bb s.heap M a (.int i))(dE:bb s.heap M b (.int j))(aT:op=.add\/op=.sub)(e:iF op (.int i) (.int j) C=some (z,S))(aA:tD o=some op)(h:eO c s M S z Q):wpAny (model c.prog c.w) A (inplaceOp o a b) Q aB s:=by
 rw[IN aA];have fG:∀{n:Int} {tk:Tok} {t:Nat},some (I.int n,C)=some (z,S)->Q (.int n tk) {s with toks:=t}:=λe=>h _ M _ ((dC e).2▸.jA O _)<|(dC e).1▸.int _ _
 clear h
 cases b9;cases dE;rcases aT with rfl|rfl
 ·exact AutoIntOps.iadd_0<|fG e
 ·exact AutoIntOps.isub_0<|fG e
def IS{e:Value->Bool}:vs.toArray.any e=vs.any e:=by simp
def z2{β:Type}{o:Option b5}{f:List I->Option β}{r:β}(e:(match o with|some (.list l)=>f l|_=>none)=some r)(k:∀l,o=some (.list l)->f l=some r->R):R:=by
 cases o with
 |none=>exact bj e
 |some o=>
  cases o with
  |list l=>exact k l rfl e
  |_=>exact bj e
def Du{β:Type}{o:Option b5}{f:List I->Option β}{g:List (I×I)->Option β}{r:β}(e:(match o with|some (.list l)=>f l|some (.dict l)=>g l|_=>none)=some r)(k:∀l,o=some (.list l)->f l=some r->R)(fk:∀l,o=some (.dict l)->g l=some r->R):R:=by
 cases o with
 |none=>exact bj e
 |some o=>
  cases o with
  |list l=>exact k l rfl e
  |dict l=>exact fk l rfl e
  |cO B cq=>exact bj e
def xF{β:Type}{f:List I->Option β}{g:Nat->List I->Option β}{r:β}(e:(match x with|.ak l=>f l|.L a=>(match C[a]?with|some (.list l)=>g a l|_=>none)|_=>none)=some r)(kt:∀l,x=.ak l->f l=some r->R)(lr:∀a l,x=.L a->C[a]? =some (.list l)->g a l=some r->R):R:=by
 cases x with
 |ak l=>exact kt l rfl e
 |L a=>exact z2 e λl an e=>lr a l rfl an e
 |_=>exact bj e
def Q6(e:l4 C x y=some t)(kt:∀l,y=.ak l->I.key x->I.iW l->decide (x∈l)=t->R)(lr:∀k l,y=.L k->C[k]? =some (.list l)->I.key x->I.iW l->decide (x∈l)=t->R)(ks:∀k l,y=.L k->C[k]? =some (.dict l)->e2 l x->(cD l x).isSome=t->R):R:=by
 cases y with
 |ak l=>exact d1 e λk q=>kt l rfl (bP k) (cN k)<|br q
 |L k=>exact Du e (λl an e=>d1 e λq w=>lr k l rfl an (bP q) (cN q)<|br w) λl an e=>d1 e λq w=>ks k l rfl an q<|br w
 |_=>exact bj e
def IT{o:CmpOp}(aJ:∃o,c.au.get? sysModules=some o)(K:eo d A)(O:bJ c.w c.N c.au s.heap M C)(b9:bb s.heap M a x)(dE:bb s.heap M b y)(e:l4 C x y=some t)(aA:o=.In\/o=.NotIn)(h:eO c s M C (.bool<|if o=.In then t else !t) Q):wpAny (model c.prog c.w) A (compareOp o a b) Q aB s:=by
 refine Q6 e (λl a8 k cx aP=> ?_) (λi l a8 an k cx aP=> ?_) λi l a8 an k aP=> ?_
 ·subst a8 aP;obtain⟨gv,vs,rfl,jD,n2,d3,bf,aF⟩:=dE.oz;obtain⟨e,Y,ae⟩:=IA (A:=A) (Q:=Q) b9 bf k cx K.qD;have ah:∀y,y∈vs.toArray->EqAt A.in1 s y a (e y):=λy a8=>Y y<|List.mem_toArray.mp a8;rcases aA with rfl|rfl
  ·exact in_tupleAt e jD ah<|V IS<|V ae<|h _ M _ (.refl O)<|.bool _
  ·exact notIn_tupleAt e jD ah<|V IS<|V ae<|h _ M _ (.refl O)<|.bool _
 ·subst a8 aP;obtain⟨p,vs,n,ab,rfl,B,hi,aV,cq⟩:=bJ.list O an dE;obtain⟨e,Y,ae⟩:=IA (A:=A) (Q:=Q) b9 aV k cx K.qD;have ah:∀y,y∈vs->EqAt A.in1 s y a (e y):=λy a8=>Y y<|Array.mem_toList_iff.mpr a8;rw[Array.any_toList]at ae;rcases aA with rfl|rfl
  ·exact in_listAt e ⟨_,hi,rfl,n,rfl⟩ ah<|V ae<|h _ M _ (.refl O)<|.bool _
  ·exact notIn_listAt e ⟨_,hi,rfl,n,rfl⟩ ah<|V ae<|h _ M _ (.refl O)<|.bool _
 ·subst a8 aP;obtain⟨p,ax,n,ab,rfl,B,hi,ed,hn,cq⟩:=bJ.dict O an dE;have bC:=zW aJ<|O.fR _<|tG ab;rcases aA with rfl|rfl
  ·exact wpAny_bind (m:=contains _ _)<|II (eo.qD K) b9 k bC hi ed hn<|wpAny_pure<|h _ M _ (.jA O _)<|.bool _
  ·exact wpAny_bind (m:=contains _ _)<|II (eo.qD K) b9 k bC hi ed hn<|wpAny_pure<|h _ M _ (.jA O _)<|.bool _
noncomputable def Q7:tv->CmpOp
 |.eq=>.Eq|.bw=>.NotEq|.lt=>.Lt|.le=>.LtE|.gt=>.Gt|.ge=>.GtE|.is=>.Is|.xk=>.IsNot|.dU=>.In|.je=>.NotIn
def Q8{o:CmpOp}{op:tv}(aA:xt o=some op):o=Q7 op:=by
 cases o<;>exact br aA▸rfl
def z3{f:Int->Int->Bool}(e:(match x,y with|.int a,.int b=>some (f a b)|_,_=>none)=some t)(k:∀i j,x=.int i->y=.int j->f i j=t->R):R:=by
 cases x with
 |int i=>
  cases y with
  |int j=>exact k i j rfl rfl<|br e
  |_=>exact bj e
 |_=>exact bj e
def xG{p:Bool}(e:(match y with|.none=>some p|_=>none)=some t)(k:y=.none->p=t->R):R:=by
 cases y with
 |none=>exact k rfl<|br e
 |_=>exact bj e
def vD{op:tv}{o:CmpOp}(aJ:∃o,c.au.get? sysModules=some o)(K:eo d A)(O:bJ c.w c.N c.au s.heap M C)(b9:bb s.heap M a x)(dE:bb s.heap M b y)(e:d0 C op x y=some t)(aA:xt o=some op)(h:eO c s M C (.bool t) Q):wpAny (model c.prog c.w) A (compareOp o a b) Q aB s:=by
 have d2:∀{ib},ib=t->Q (.bool ib) s:=λe=>V e<|h _ M _ (.refl O)<|.bool _;rw[Q8 aA];cases op with
 |eq=>exact Qz K O b9 dE e<|d2 rfl
 |bw=>exact dt e λib e e'=>QA K O b9 dE e<|d2 e'
 |dU=>exact IT aJ K O b9 dE e (.inl rfl) h
 |je=>exact dt e λib e e'=>IT aJ K O b9 dE e (.inr rfl)<|e'▸h
 |lt=>exact z3 e λi j ac a8 aP=>by subst ac a8;clear h;cases b9;cases dE;exact PyProof.Rows.lt_int<|d2 aP
 |le=>exact z3 e λi j ac a8 aP=>by subst ac a8;clear h;cases b9;cases dE;exact PyProof.Rows.le_int<|d2 aP
 |gt=>exact z3 e λi j ac a8 aP=>by subst ac a8;clear h;cases b9;cases dE;exact PyProof.Rows.gt_int<|d2 aP
 |ge=>exact z3 e λi j ac a8 aP=>by subst ac a8;clear h;cases b9;cases dE;exact PyProof.Rows.ge_int<|d2 aP
 |is=>
  exact xG e λa8 aP=>by
   subst a8;clear h;cases dE;cases b9 with
   |none=>exact is_none_gen<|d2 aP
   |_=>exact is_none_ne nofun (d2 aP)
 |xk=>
  exact xG e λa8 aP=>by
   subst a8;clear h;cases dE;refine isNot_none ?_;cases b9<;>exact d2 aP
theorem IU(i:Int)(n:Nat):seqIndex? i n=jY i n:=by
 delta seqIndex? jY;by_cases h:i<0
 ·simp only[h,if_true];by_cases ae:0<=i+n
  ·have:¬(0<=i/\i<(n:Int)):=by exactλae=>HV h ae.1
   simp only[this,if_false,ae,true_and,if_true,decide_true,Bool.true_and];exact V (bg (by simp;lia)) rfl
  ·have:¬(0<=i/\i<(n:Int)):=by exactλae=>HV h ae.1
   simp [this,ae]
 ·simp only[h,if_false,false_and];by_cases ae:i<(n:Int)
  ·have:0<=i:=by lia
   simp [this,ae]
  ·simp [ae]
def IV{i:Int}{n:Nat}(h:jY i n=some k):(0<=i/\i<n/\k=i.toNat)\/i<0/\0<=i+n/\k=(i+n).toNat:=by
 delta jY at h;by_cases q:0<=i/\i<n
 ·rw[bg q]at h;exact .inl ⟨q.1,q.2,(br h).symm⟩
 ·rw[bI q]at h;exact d1 h λq e=>.inr ⟨q.1,q.2,(br e).symm⟩
def IW(e:fj C x y=some z)(kt:∀l i,x=.ak l->y=.int i->(jY i l.length).bind (l[·]?)=some z->R)(dP:∀(s:Str) (i:Int),x=.str s->y=.int i->0<=i/\i<s.cps.size/\i<16000000->(s.cps[i.toNat]?).map (λc=>I.str ⟨#[c]⟩)=some z->R)(lr:∀k l i,x=.L k->C[k]? =some (.list l)->y=.int i->(jY i l.length).bind (l[·]?)=some z->R)(ks:∀k l,x=.L k->C[k]? =some (.dict l)->e2 l y->cD l y=some z->R):R:=by
 cases x with
 |ak l=>
  cases y with
  |int i=>exact kt l i rfl rfl e
  |_=>exact bj e
 |str s=>
  cases y with
  |int i=>exact d1 e λq e=>dP s i rfl rfl q e
  |_=>exact bj e
 |L k=>
  refine Du e (λl an e=> ?_) λl an e=>d1 e λq w=>ks k l rfl an q w;cases y with
  |int i=>exact lr k l i rfl an rfl e
  |_=>exact bj e
 |_=>exact bj e
theorem Q9(K:eo d A)(O:bJ c.w c.N c.au s.heap M C)(b9:bb s.heap M a x)(dE:bb s.heap M b y)(e:fj C x y=some z)(h:eO c s M C z Q):wpAny (model c.prog c.w) A (getItem a b) Q aB s:=by
 refine IW e (λl i ac a8 e'=> ?_) (λt i ac a8 q e'=> ?_) (λk l i ac an a8 e'=> ?_) λk l ac an q e'=> ?_
 ·subst ac a8
  clear e;refine bW e' λk ao hz=> ?_
  obtain⟨gv,vs,rfl,jD,n2,d3,bf,aF⟩:=b9.oz;cases dE;obtain⟨v,aR,aH⟩:=bf.get hz;have p:=IV ao;have j0:=j0;exact PyProof.Rows.getItem_tuple (j:=k) (x:=v) jD (by lia) (by lia) (V (IU _ _)<|(ai (jY i) aF).trans ao) ((List.getElem?_toArray).trans aR)<|h _ M _ (.refl O) aH
 ·subst ac a8
  clear e;refine dt e' λr aH e=> ?_
  subst e;cases b9;cases dE;exact PyProof.Rows.getItem_str (c:=r) (Bool.or_eq_false_iff.mpr ⟨co<|by lia,co<|by lia⟩) (V ((IU i t.length).trans<|bg ⟨q.1,q.2.1⟩) aH)<|h _ M _ (.jA O _)<|.str _ _
 ·subst ac a8
  clear e;refine bW e' λcx ao hz=> ?_
  obtain⟨p,vs,n,ab,rfl,B,hi,aV,fs,aD⟩:=bJ.list O an b9;cases dE;obtain⟨v,aR,aH⟩:=aV.get hz;have aR:vs[cx]? =some v:=bu Array.getElem?_toList aR;have xH:s.heap.IsList p.1 vs:=⟨_,hi,rfl,n,rfl⟩;rcases IV ao with q|q
  ·exact wpAny_getItem_list xH q.1 (by lia) (q.2.2▸aR)<|h _ M _ (.refl O) aH
  ·exact wpAny_getItem_list_neg xH q.1 (by lia) (by lia) (by rw[aD,<-q.2.2];exact aR)<|h _ M _ (.refl O) aH
 ·subst ac;obtain⟨p,ax,n,ab,rfl,B,hi,ed,hn,cq⟩:=bJ.dict O an b9;exact QQ (eo.qD K) dE q hi ed hn e' λu aH=>h _ M _ (.jA O _) aH
end
end
section
section
variable{a b:Value}{x:I}
def tS(h:Heap)(M:c6)(v:Value):Option I->Prop
 |none=>v=.none
 |some p=>bb h M v p
def tS.keep(k:g5 h M aO bt){p:Option I}(r:tS h M v p):tS aO bt v p:=by
 cases p with
 |none=>exact r
 |some B=>exact bb.keep k r
def z4{ce:Option I}{i:Option Int}(e:l5 ce=some i)(r:tS h M v ce):IsPart v i:=by
 cases ce with
 |none=>exact br e▸(show v=.none from r)▸.none
 |some p=>
  cases p with
  |int j=>exact d1 e λB e=>by cases e;cases(show bb h M v _ from r);exact .int _ _
  |_=>exact bj e
def Dv{i:Option Int}{Q:Option Int->Shared->Prop}(aR:IsPart v i)(h:Q i s):wpAny (model c.prog c.w) A (Builtin.Slice.slicePartIndex v) Q aB s:=by
 cases aR with
 |none=>exact wpAny_pure h
 |int i t=>refine(show wpAny _ _ (if(Value.int i t==Value.none)=true then _ else _) _ _ _ from V (bI Bool.false_ne_true)<|wpAny_bind<|wpAny_specialOf (T:="int") (typeIs_int s i t) int_index ?_);exact wpAny_bind<|wpAny_of_eq (a:=i) rfl<|wpAny_pure h
noncomputable def kZ(ce:Option Int)(n:Nat):Nat:=match ce with|none=>0|some i=>ni i n
noncomputable def l6(ah:Option Int)(n:Nat):Nat:=match ah with|none=>n|some i=>ni i n
def IX(i:Int)(n:Nat):(if i<0 then max (i+n) 0 else min i n)=(ni i n:Int):=by
 delta ni;by_cases h:i<0
 ·exact V (bg h)<|V (bg h) (Int.ofNat_toNat _).symm
 ·refine V (bI h)<|V (bI h) ?_;obtain⟨k,rfl⟩:=xI<|Int.not_lt.mp h;exact(Lean.Omega.Int.ofNat_min k n).symm
def Ra(ce ah:Option Int)(n:Nat):Builtin.Slice.sliceAdjust ce ah 1 n=((kZ ce n:Int),(l6 ah n:Int)):=Prod.ext (by
  cases ce with
  |none=>rfl
  |some i=>exact IX i n) (by
  cases ah with
  |none=>rfl
  |some i=>exact IX i n)
theorem Rb(a b:Nat):Builtin.Slice.slicePlaces (a:Int) (b:Int) 1=b-a:=by
 unfold Builtin.Slice.slicePlaces;have Y:(1:Int)>0:=by exact by decide
 simp only[Y,if_true,Int.ediv_one]
 split<;>lia
def Rc{eI:Addr}{n:Nat}{ce ah:Option Int}{Q:Int×Int×Nat->Shared->Prop}(aJ:s.heap.IsSliceOf eI qG tT .none)(f9:IsPart qG ce)(pu:IsPart tT ah)(h:Q ((kZ ce n:Int),1,l6 ah n-kZ ce n) s):
  wpAny (model c.prog c.w) A (Builtin.Slice.sliceApplied (.ref eI)<|pure (n:Int)) Q aB s:=by
 obtain⟨os,pF,z5,oA⟩:=aJ;refine wpAny_bind (m:=Builtin.Slice.sliceFields _)<|wpAny_bind<|wpAny_field pF oA (x:=qG) rfl<|wpAny_bind<|wpAny_field pF oA (x:=tT) rfl<|wpAny_bind<|wpAny_field pF oA (x:=.none) rfl<|wpAny_pure ?_;refine wpAny_bind (m:=Builtin.Slice.slicePartIndex _)<|Dv .none ?_;refine(show wpAny _ _ (if((1:Int)==0)=true then _ else _) _ _ s from V (bI<|by decide) ?_);refine wpAny_bind (m:=Builtin.Slice.slicePartIndex _)<|Dv f9<|wpAny_bind (m:=Builtin.Slice.slicePartIndex _)<|Dv pu<|wpAny_bind<|wpAny_pure ?_;show wpAny _ _ (match Builtin.Slice.sliceAdjust ce ah 1 (n:Int)with|(ce,ah)=>pure (ce,(1:Int),Builtin.Slice.slicePlaces ce ah 1)) _ _ s;refine V (Ra _ _ _)<|show wpAny _ _ (pure ((kZ ce n:Int),(1:Int),Builtin.Slice.slicePlaces (kZ ce n:Int) (l6 ah n:Int) 1)) _ _ s from V (Rb _ _)<|wpAny_pure h
theorem Rd(xs:Array Value)(a b:Nat):((List.range<|b-a).filterMap λ(k:Nat)=>xs[((a:Int)+(k:Int)*1).toNat]?)=(xs.toList.take b).drop a:=by
 have e:(λ(k:Nat)=>xs[((a:Int)+(k:Int)*1).toNat]?)=λk=>xs[a+k]? :=by
  funext k
  have:((a:Int)+(k:Int)*1).toNat=a+k:=by lia
  exact V this rfl
 refine V e ?_;have:=pick_run xs a<|b-a;rw[List.filterMap_map]at this;have aF:((λx=>xs[x]?)∘λx=>a+x)=λk=>xs[a+k]? :=rfl;rw[aF]at this;exact V this<|V List.drop_take rfl
def Re{t eI:Addr}{ce ah:Option Int}(aP:s.heap.IsTuple t vs.toArray)(fs:vs.length<=sizeLine)(aJ:s.heap.IsSliceOf eI qG tT .none)(f9:IsPart qG ce)(pu:IsPart tT ah)(Y:kZ ce vs.length=0->l6 ah vs.length=vs.length->Q (.ref t) s)(h:Q (.ref s.heap.objs.size) {s with heap:=s.heap.push {cls:=.type "tuple",data:=.seq ((vs.take<|l6 ah vs.length).drop<|kZ ce vs.length).toArray}}):wpAny (model c.prog c.w) A (getItem (.ref t)<|.ref eI) Q aB s:=by
 obtain⟨os,pF,z5,oA⟩:=id aJ;obtain⟨mM,rW,Dw,fL,Rf⟩:=id aP;have eD:s.TypeIs (.ref t) "tuple":=⟨mM,rW,Dw⟩;refine wpAny_holding (vs:=[_,_])<|wpAny_bind<|wpAny_sequenceKey eD rfl ?_;refine wpAny_bind (m:=callSpecial? _ _ _) (wpAny_callSpecial?_slot (name:=aa "__getitem__") eD F.slot_tuple_getitem
  (wpAny_call_entry F.slot_tuple_getitem eD F.entry_tuple_getitem ?_ (F.args_tuple_getitem_2 _ _)))
 refine wpAny_bind (m:=Builtin.Tuple.tupleItemsOf _)<|wpAny_tupleItemsOf rW Rf ?_;refine wpAny_bind (m:=typeOf _)<|wpAny_typeOf ⟨os,pF,z5⟩ ?_;refine V (bg<|by decide)<|wpAny_bind<|Rc aJ f9 pu ?_;have key:wpAny (model c.prog c.w) A.in1 (Builtin.Tuple.tupleExact (List.filterMap (λ(k:Nat)=>vs.toArray[((kZ ce vs.length:Int)+(k:Int)*1).toNat]?)<|List.range<|l6 ah vs.length-kZ ce vs.length).toArray>>=λr=>ret r)
   (λfin aY=>∃v,fin=.done (.ret v)/\wpAny (model c.prog c.w) A (pure v) Q aB aY) aB s:=
  V (Rd _ _ _) (wpAny_bind (m:=Builtin.Tuple.tupleExact _)<|wpAny_newObj_type (wpAny_pure ⟨_,rfl,wpAny_pure h⟩)<|show((vs.take _).drop _).length<=sizeLine from V List.length_drop<|a3 (Nat.sub_le _ _)<|a3 (vE _ _) fs)
 dsimp only[List.size_toArray]
 split
 ·rename_i hw
  have IY:kZ ce vs.length=0:=k0<|eq_of_beq<|bP<|bP hw;have dW:l6 ah vs.length-kZ ce vs.length=vs.length:=eq_of_beq<|cN hw;refine wpAny_bind (m:=Builtin.Tuple.tupleIsExact _)<|wpAny_bind (m:=typeOf _)<|wpAny_typeOf eD<|wpAny_pure ?_;exact V (bg<|by decide)<|wpAny_bind<|wpAny_rule<|wpAny_pure ⟨_,rfl,wpAny_pure<|Y IY<|(IY▸dW:l6 ah vs.length-0=vs.length)⟩
 ·exact key
def IZ(i:Int)(n:Nat):clipAt n i=ni i n:=by
 have t:∀x:Int,(max 0 x).toNat=x.toNat:=λx=>(Int.le_total 0 x).elim (λh=>ai Int.toNat<|Int.max_eq_right h) λh=>(ai Int.toNat<|Int.max_eq_left h).trans (Int.toNat_of_nonpos h).symm;delta clipAt ni;refine(t _).trans ?_;by_cases h:i<0
 ·exact V (bg h)<|V (bg h)<|ai Int.toNat<|Int.min_eq_left<|Int.le_trans (Int.add_le_add_right (Int.le_of_lt h) n)<|Int.le_of_eq<|Int.zero_add _
 ·refine V (bI h)<|V (bI h) ?_;obtain⟨k,rfl⟩:=xI<|Int.not_lt.mp h;exact ai Int.toNat (Lean.Omega.Int.ofNat_min k n).symm
def Rg(i:Option Int)(n:Nat):i.elim 0 (clipAt n)=kZ i n:=by
 cases i with
 |none=>rfl
 |some i=>exact IZ i n
def Rh(i:Option Int)(n:Nat):i.elim n (clipAt n)=l6 i n:=by
 cases i with
 |none=>rfl
 |some i=>exact IZ i n
def I0{n:Nat}{i j:Option Int}(r:b7 h M vs l)(e:n=l.length):b7 h M ((vs.take<|l6 j n).drop<|kZ i n) (pz l i j):=e▸(r.take _).drop _
def I1{i j:Option Int}{n:Nat}(h:l.length<=n):(pz l i j).length<=n:=a3 (a3 (show((l.take<|l6 j l.length).drop<|kZ i l.length).length<=(l.take<|l6 j l.length).length from V List.length_drop<|Nat.sub_le _ _)<|vE _ _) h
def I2{ce ah:Option I}{r:I×St}(e:nj x ce ah C=some r)(kt:∀l i j,x=.ak l->l5 ce=some i->l5 ah=some j->some (I.ak<|pz l i j,C)=some r->R)(lr:∀o l i j,x=.L o->C[o]? =some (.list l)->l5 ce=some i->l5 ah=some j->some (I.L C.length,C++[b5.list<|pz l i j])=some r->R):R:=by
 delta nj at e;cases ku:l5 ce with
 |none=>rw[ku]at e;exact bj e
 |some i=>
  cases aQ:l5 ah with
  |none=>rw[ku,aQ]at e;exact bj e
  |some j=>rw[ku,aQ]at e;exact xF e (λl ac e=>kt l i j ac ku aQ e) λo l ac an e=>lr o l i j ac an ku aQ e
def Ri{ce ah:Option I}{eI:Addr}(O:bJ c.w c.N c.au s.heap M C)(b9:bb s.heap M a x)(aJ:s.heap.IsSliceOf eI qG tT .none)(rX:tS s.heap M qG ce)(tO:tS s.heap M tT ah)(e:nj x ce ah C=some (z,S))(h:eO c s M S z Q):wpAny (model c.prog c.w) A (getItem a<|.ref eI) Q aB s:=by
 refine I2 e (λl i j ac ku Dx e'=> ?_) λo l i j ac an ku Dx e'=> ?_
 ·clear e;subst ac
  obtain⟨rfl,rfl⟩:=dC e';obtain⟨gv,vs,rfl,jD,n2,d3,bf,aF⟩:=b9.oz;refine Re jD (tC aF d3 j0) aJ (z4 ku rX) (z4 Dx tO) (λh0 Y=>h _ M _ (.refl O) ?_) ?_
  ·refine V (ai I.ak<|show pz l i j=l from ?_) b9;show(l.take<|l6 j l.length).drop (kZ i l.length)=l;rw[<-aF,h0,Y,aF,List.take_length,List.drop_zero]
  ·have N:=zZ (W:=[]) O (I0 (i:=i) (j:=j) bf aF) (I1 d3) s.toks 0 rfl;exact h _ _ _ N.1 N.2
 ·clear e;subst ac
  obtain⟨rfl,rfl⟩:=dC e';obtain⟨p,vs,n,ab,rfl,B,hi,bf,fs,aF⟩:=bJ.list O an b9;refine wpAny_getItem_list_slice ⟨_,hi,rfl,n,rfl⟩ aJ (z4 ku rX) (z4 Dx tO) .none (by decide) ?_<|tC aF fs j0;have eq:slicePick vs i j none=((vs.toList.take<|l6 j vs.size).drop<|kZ i vs.size).toArray:=(slicePick_plain _ _ _).trans<|V (Rg i _)<|V (Rh j _)<|V List.drop_take rfl;have N:=Dn (W:=[]) O (I0 (i:=i) (j:=j) bf aF) (I1 fs) s.toks 0 rfl;exact V eq<|h _ _ _ N.1 N.2
def Rj(O:bJ c.w c.N c.au s.heap M C)(b9:bb s.heap M a x)(e:kS .len x C=some (z,S))(h:eO c s M S z Q):wpAny (model c.prog c.w) A (call (.builtin "len") [a]) Q aB s:=by
 refine xF e (λl ac e'=> ?_) λo l ac an e'=> ?_
 ·clear e;subst ac
  obtain⟨rfl,rfl⟩:=dC e';obtain⟨gv,vs,rfl,jD,n2,d3,bf,aF⟩:=b9.oz;exact PyProof.Rows.len_tuple jD (hx<|c1 (cP aF)<|c1 d3<|by decide)<|h _ M _ (.jA O _)<|V (ai (λn:Nat=>I.int n) aF.symm)<|.int _ _
 ·clear e;subst ac
  obtain⟨rfl,rfl⟩:=dC e';obtain⟨p,vs,n,ab,rfl,B,hi,bf,fs,aF⟩:=bJ.list O an b9;exact Calls.call_len_list ⟨_,hi,rfl,n,rfl⟩ (hx<|c1 (cP aF)<|c1 fs<|by decide)<|h _ M _ (.jA O _)<|V (ai (λn:Nat=>I.int n) aF.symm)<|.int _ _
def Rk(O:bJ c.w c.N c.au s.heap M C)(b9:bb s.heap M a x)(e:kS .tuple x C=some (z,S))(h:eO c s M S z Q):wpAny (model c.prog c.w) A (call (.type "tuple") [a]) Q aB s:=by
 refine xF e (λl ac e'=> ?_) λo l ac an e'=> ?_
 ·clear e;subst ac
  obtain⟨rfl,rfl⟩:=dC e';obtain⟨gv,vs,rfl,jD,n2,d3,bf,aF⟩:=b9.oz;exact call_tuple_same jD<|h _ M _ (.refl O)<|.ak jD ⟨n2,d3⟩ bf
 ·clear e;subst ac
  obtain⟨rfl,rfl⟩:=dC e';obtain⟨p,vs,n,ab,rfl,B,hi,bf,fs,aF⟩:=bJ.list O an b9;refine call_tuple_list ⟨_,hi,rfl,n,rfl⟩ (λaO ao=> ?_)<|tC aF fs j0;have g:=bX.ou (W:=[]) O ⟨aO,s.toks,rfl,ao⟩;have N:=zZ (c:=c) (s:={s with heap:=aO}) (W:=[]) g.ok (bf.keep g.keep) fs s.toks 0 (o:={cls:=.type "tuple",data:=.seq vs}) rfl;exact h _ _ _ (g.trans N.1) N.2
end
end
section
def Rl{α β:Type}(f:α->β){l:List α}(h:(l.map f).Nodup):l.Nodup:=(List.pairwise_map.mp h).imp λn e=>n<|ai f e
def I3(x:Int)(l:List Int):(qu x l).Perm (x::l):=by
 induction l with
 |nil=>exact .refl _
 |cons y r ay=>
  by_cases h:x<=y
  ·exact V (show qu x (y::r)=_ from bg h)<|.refl _
  ·exact V (show qu x (y::r)=_ from bI h)<|(ay.cons y).trans<|.swap ..
def I4(l:List Int):(vo l).Perm l:=by
 induction l with
 |nil=>exact .refl _
 |cons x r ay=>exact(I3 x _).trans<|ay.cons x
def Rm(x:Int){l:List Int}:l.Pairwise (·<=·)->(qu x l).Pairwise (·<=·):=by
 induction l with
 |nil=>exactλB=>tN _ _
 |cons y r ay=>
  intro h;have q:=List.pairwise_cons.mp h;by_cases ac:x<=y
  ·exact V (show qu x (y::r)=_ from bg ac)<|List.pairwise_cons.mpr ⟨mL.mpr ⟨ac,λz hz=>Int.le_trans ac<|q.1 z hz⟩,h⟩
  ·exact V (show qu x (y::r)=_ from bI ac)<|List.pairwise_cons.mpr ⟨λz hz=>(cR<|(I3 x r).mem_iff.mp hz).elim (λe=>e▸Int.le_of_lt (pG.mp ac))<|q.1 z,ay q.2⟩
def Rn(l:List Int):(vo l).Pairwise (·<=·):=by
 induction l with
 |nil=>exact .nil
 |cons x r ay=>exact Rm x ay
def Ro{z6:List Int}(ab:z6.Perm ns)(aJ:z6.Pairwise (·<=·)):z6=vo ns:=List.Perm.eq_of_pairwise (λB B B B a b=>Int.le_antisymm a b) aJ (Rn ns)<|ab.trans (I4 ns).symm
def oB(a b:Str):Prop:=¬b.cps.toList<a.cps.toList
def Rp{a b c:Str}(h:oB a b)(k:oB b c):oB a c:=List.not_lt.mpr<|List.le_trans (List.not_lt.mp h)<|List.not_lt.mp k
def Rq{a b:Str}(h:oB a b)(k:oB b a):a=b:=ai Str.mk<|Array.toList_inj.mp<|List.le_antisymm (List.not_lt.mp h)<|List.not_lt.mp k
def I5{a b:Str}{r:List Str}(h:oB a b)(k:(b::r).Pairwise oB):(a::b::r).Pairwise oB:=List.pairwise_cons.mpr ⟨mL.mpr ⟨h,λz hz=>Rp h<|List.rel_of_pairwise_cons k hz⟩,k⟩
def Rr{l:List Str}:∀a,risingS a l->(a::l).Pairwise oB:=by
 induction l with
 |nil=>exactλB B=>tN _ _
 |cons b r ay=>exactλa h=>I5 (of_decide_eq_false<|(PyProof.Rows.ltCps_eq _ _).symm.trans<|(oC _).mp<|bP h)<|ay b<|cN h
def Rs{l:List Str}(h:sortedS l):l.Pairwise oB:=by
 cases l with
 |nil=>exact .nil
 |cons a r=>exact Rr a h
def Rt{l:List Str}:∀a,zB (a::l)=true->(a::l).Pairwise oB:=by
 induction l with
 |nil=>exactλB B=>tN _ _
 |cons b r ay=>exactλa h=>I5 (List.not_lt.mpr<|List.le_of_lt<|dw<|bP h)<|ay b<|cN h
def Ru{ss z7:List Str}(ab:z7.Perm ss)(aJ:sortedS z7)(aH:zB ss):z7=ss:=
 List.Perm.eq_of_pairwise (λB B B B a b=>Rq a b) (Rs aJ) (by
  cases ss with
  |nil=>exact .nil
  |cons a r=>exact Rt a aH) ab
def Rv:∀{is:List Int},xo l=some is->l=is.map .int:=by
 induction l with
 |nil=>exactλe=>br e▸rfl
 |cons x r ay=>
  intro is e;cases x with
  |int i=>exact dt e λqH aQ e=>e▸ai (I.int i::·) (ay aQ)
  |_=>exact bj e
def Rw:∀{is:List Str},C3 l=some is->l=is.map .str:=by
 induction l with
 |nil=>exactλe=>br e▸rfl
 |cons x r ay=>
  intro is e;cases x with
  |str i=>exact dt e λqH aQ e=>e▸ai (I.str i::·) (ay aQ)
  |_=>exact bj e
def b7.Rx{is:List Int}:∀{vs:List Value},b7 h M vs (is.map .int)->IntsAre vs is:=by
 induction is with
 |nil=>intro vs r;cases r;exact .nil
 |cons i is ay=>
  intro vs r;cases r with
  |cons a r=>cases a;exact .cons _ _<|ay r
def b7.Ry{is:List Int}(r:IntsAre vs is):b7 h M vs (is.map .int):=by
 induction r with
 |nil=>exact .nil
 |cons B cq eE ay=>exact .cons (.int _ _) ay
def b7.Rz{is:List Str}:∀{vs:List Value},b7 h M vs (is.map .str)->StrsAre vs is:=by
 induction is with
 |nil=>intro vs r;cases r;exact .nil
 |cons i is ay=>
  intro vs r;cases r with
  |cons a r=>cases a;exact .cons _ _<|ay r
def b7.RA{is:List Str}(r:StrsAre vs is):b7 h M vs (is.map .str):=by
 induction r with
 |nil=>exact .nil
 |cons B cq eE ay=>exact .cons (.str _ _) ay
section
variable{a b:Value}{x:I}
def bX.add(O:bJ c.w c.N c.au s.heap M C){D:Addr}{x:b5}{t:Nat}(k:∀b y,s.heap.get? b=some y->aO.get? b=some y)(nx:s.heap.get? D=none)(r:g5 s.heap M aO (M++[(D,none)])->ot c.w c.N aO (M++[(D,none)]) (D,none) x):
  bX c W s M {s with heap:=aO,toks:=t} (M++[(D,none)]) (C++[x]):=by
 have hn:∀b∈foot [(D,(none:Option Addr))],s.heap.get? b=none:=λb aj=>V (bT aj) nx;exact⟨⟨⟨_,rfl,λb aj=>.inl<|hn b aj⟩,λb y e B B=>k b y e,λb y e B=>⟨y,k b y e⟩,λB b y B B e=>k b y e⟩,O.push hn (tN _ _) k r O.alive,rfl,rfl,rfl⟩
def RB{K:Type}[DecidableEq K]{knd:KeyKind prog w K}{mk:K->I}(ao:∀{v k},bb h M v (mk k)->knd.is k v)(dp:∀m,kl w (mk m)=knd.hash m){l:List (I×I)}(r:fa w h M ax l):
  ∀dP:List K,l.map (·.1)=dP.map mk->∃kvs:List (K×Value),Pairs knd ax kvs/\kvs.map (·.1)=dP/\∀e∈ax,∃k,knd.is k e.key/\e.hash=knd.hash k:=by
 induction r with
 |nil=>
  intro dP e;cases dP with
  |nil=>exact⟨[],.nil,rfl,λB h=>absurd h b4⟩
  |cons B cq=>exact absurd e nofun
 |@cons fC ax k v l Y B ba cq r ay=>
  intro dP e;cases dP with
  |nil=>exact absurd e nofun
  |cons i dP=>obtain⟨aD,aF⟩:=List.cons.inj e;obtain⟨kvs,p,q,f⟩:=ay dP aF;have ah:knd.is i fC.key:=ao<|show bb h M fC.key (mk i)from(show k=mk i from aD)▸ba;exact⟨(i,fC.val)::kvs,.cons ah rfl p,ai (i::·) q,mL.mpr ⟨⟨i,ah,Y.trans<|(ai (kl w) aD).trans<|dp i⟩,f⟩⟩
def RC{r:Addr}{n:Nat}{P:Nat->Value->Prop}{I6:Heap->Prop}(K:KdlSrc c.prog c.w "dict" r r n P I6)(dp:A.handled=none)(qI:I6 s.heap)(hn:n<=sizeLine)(tU:n<64)(h:∀(aO:Heap) (tk:Nat) (vs:List Value),(∀b o,s.heap.get? b=some o->aO.get? b=some o)->vs.length=n->(∀(j:Nat) (v:Value),vs[j]? =some v->P j v)->
   wpAny (model c.prog c.w) A.in1.in1 (Builtin.«list.sort» ⟨[.ref aO.objs.size],[]⟩) (λfin aY=>fin=.done (.ret .none)/\Q (.ref aO.objs.size) aY) aB {s with heap:=aO.push (seqObj "list" vs.toArray 0),toks:=tk}):
  wpAny (model c.prog c.w) A (call (.builtin "sorted") [.ref r]) Q aB s:=by
 refine Calls.call_function_entry kind_sorted plain_sorted entry_sorted (args_sorted1 _)<|wpAny_bind (m:=checkCount "sorted" 1 1 _)<|wpAny_pure ?_;refine wpAny_bind<|kdu_collect (A:=A.in1) K dp qI hn λaO tk acc ao I7=> ?_;have an:acc.toList.length=n:=I7.1;refine wpAny_bind<|wpAny_newList ?_<|Qc an hn;refine wpAny_bind<|wpAny_holding<|wpAny_call_entry slot_list_sort ⟨_,Heap.get?_push_size _ rfl,rfl⟩ entry_list_sort (wpAny_mono (h aO tk acc.toList ao an λj v e=>I7.2 j v<|bu Array.getElem?_toList e) (λfin aY x=> ?_) λB B e=>e)<|args_list_sort _;exact⟨_,x.1,wpAny_pure ⟨_,rfl,x.2⟩⟩
def I8{ax:Array DictEntry}{n:Nat}{l:List (I×I)}{K:Type}[DecidableEq K](knd:KeyKind c.prog c.w K)(mk:K->I){dP:List K}(aX:A.handled=none)(bC:(p.1==sysModules)=false)(aA:s.heap.get? p.1=some {cls:=.type "dict",data:=.dict ax n})(ed:fa c.w s.heap M ax.toList l)(hn:(l.map (·.1)).Nodup)(oD:l.map (·.1)=dP.map mk)(tU:l.length<64)(ao:∀{v k},bb s.heap M v (mk k)->knd.is k v)(aj:∀{v k},knd.is k v->bb s.heap M v (mk k))(dp:∀m,kl c.w (mk m)=knd.hash m)(h:∀(aO:Heap) (tk:Nat) (vs:List Value),(∀b o,s.heap.get? b=some o->aO.get? b=some o)->vs.length<64->b7 s.heap M vs (dP.map mk)->
   wpAny (model c.prog c.w) A.in1.in1 (Builtin.«list.sort» ⟨[.ref aO.objs.size],[]⟩) (λfin aY=>fin=.done (.ret .none)/\Q (.ref aO.objs.size) aY) aB {s with heap:=aO.push (seqObj "list" vs.toArray 0),toks:=tk}):
  wpAny (model c.prog c.w) A (call (.builtin "sorted") [.ref p.1]) Q aB s:=by
 obtain⟨kvs,vF,z8,RD⟩:=RB ao dp ed dP oD;have hlen:kvs.length=l.length:=(c2 (f:=(·.1)) (as:=kvs)).symm.trans<|(ai List.length z8).trans<|(c2 mk).symm.trans<|(ai List.length oD).symm.trans<|c2 _;have RE:s.heap.DictAt knd p.1 kvs n:=⟨_,ax,aA,⟨rfl,rfl,rfl⟩,rfl,λe he=>RD e<|Array.mem_toList_iff.mpr he,vF,z8▸Rl mk (oD▸hn)⟩;have Dy:kvs.length<64:=hlen▸tU;refine RC (kdl_dict (knd:=knd) (kvs:=kvs) (ep:=n) bC) aX RE (a3 (hj Dy)<|by decide) Dy λaO tk vs ao oE aR=>h aO tk vs ao (oE▸Dy)<|b7.Ij ?_ λj v d aQ vG=> ?_
 ·exact oE.trans ((c2 (f:=(·.1)) (as:=kvs)).symm.trans<|(ai List.length z8).trans (c2 mk).symm)
 ·obtain⟨k,qF,RF,i4⟩:=aR j v aQ;have q:(dP.map mk)[j]? =some (mk k):=V nw<|z8▸V nw (V RF rfl);exact br (bu q vG)▸aj i4
def I9{r:List I}(O:bJ c.w c.N c.au s.heap M C)(h:eO c s M (C++[.list r]) (.L C.length) Q){out:Array Value}(ao:∀b o,s.heap.get? b=some o->aO.get? b=some o)(aV:b7 (sortedHeap (aO.push<|seqObj "list" vs.toArray 0) aO.objs.size vs out) (M++[(aO.objs.size,none)]) out.toList r)(RG:r.length<=16000000):
  Q (.ref aO.objs.size) {s with heap:=sortedHeap (aO.push<|seqObj "list" vs.toArray 0) aO.objs.size vs out,toks:=tk}:=by
 obtain⟨aF,he⟩:=sortedHeap_at (a:=aO.objs.size) (vs:=vs) (out:=out) (h:=aO.push<|seqObj "list" vs.toArray 0) (n:=0)<|Heap.get?_push_size _ rfl;have k:∀b y,s.heap.get? b=some y->(sortedHeap (aO.push<|seqObj "list" vs.toArray 0) aO.objs.size vs out).get? b=some y:=λb y e=>(sortedHeap_old (dV<|Heap.lt_size<|ao b y e)<|V (size_push' _ _)<|oy<|Heap.lt_size<|ao b y e).trans<|Heap.get?_push_of_some _<|ao b y e
 have nx:s.heap.get? aO.objs.size=none:=by
  cases q:s.heap.get? aO.objs.size with
  |none=>rfl
  |some o=>exact absurd (Heap.lt_size<|ao _ _ q)<|Nat.lt_irrefl _
 exact h _ (M++[(aO.objs.size,none)]) _ (bX.add O (D:=aO.objs.size) k nx λK=>⟨rfl,out,aF,he,aV,RG⟩)<|bb.last (p:=(aO.objs.size,none)) O
def Dz{β:Type}{o:Option b5}{f:List (I×I)->Option β}{r:β}(e:(match o with|some (.dict l)=>f l|_=>none)=some r)(k:∀l,o=some (.dict l)->f l=some r->R):R:=by
 cases o with
 |none=>exact bj e
 |some o=>
  cases o with
  |dict l=>exact k l rfl e
  |_=>exact bj e
def RH(aJ:∃o,c.au.get? sysModules=some o)(K:eo d A)(O:bJ c.w c.N c.au s.heap M C)(b9:bb s.heap M a x)(e:kS .sorted x C=some (z,S))(h:eO c s M S z Q):
  wpAny (model c.prog c.w) A (call (.builtin "sorted") [a]) Q aB s:=by
 cases x with
 |L o=>
  refine Dz e λl an e=> ?_;refine dt e λr aH e=> ?_;obtain⟨rfl,rfl⟩:=kQ e;obtain⟨p,ax,n,ab,rfl,B,hi,ed,hn,fs⟩:=bJ.dict O an b9;have bC:=zW aJ<|O.fR _<|tG ab;refine d1 aH λtU aH=> ?_;have tU:l.length<64:=(c2 (f:=(·.1)) (as:=l))▸tU;cases ah:xo (l.map (·.1))with
  |some is=>rw[ah]at aH;cases aH;have oD:=Rv ah;refine I8 (intKind c.prog c.w) .int K.handled bC hi ed hn oD tU (λr=>by cases r;exact intKind_is _ _ _ _) (λq=>(Value.isInt_shape q).elim λt e=>e▸.int _ _) (λB=>rfl) λaO tk vs ao oE aV=> ?_;refine list_sort_tree (Heap.get?_push_size _ rfl) aV.Rx oE λout z6 Y ae ba=>⟨rfl,I9 O h ao (Ro ae ba▸b7.Ry Y) ?_⟩;refine a3 (cP ?_) fs;exact(c2 _).trans<|(I4 is).length_eq.trans<|(c2 I.int).symm.trans<|(ai List.length oD).symm.trans<|c2 _
  |none=>rw[ah]at aH;refine bW aH λss RI aH=>d1 aH λRJ aH=> ?_;cases aH;have oD:=Rw RI;refine I8 (PySem.strKind c.prog c.w) .str K.handled bC hi ed hn oD tU (λr=>by cases r;exact PySem.strKind_is _ _ _ _) (λq=>(Value.isStrOf_shape q).elim λt e=>e▸.str _ _) (λB=>rfl) λaO tk vs ao oE aV=> ?_;have fG:=aV.Rz;refine list_sort_treeK strKind_oneLt (Heap.get?_push_size _ rfl) fG.keysOf (λacv acw rest e=>keyKind_strs<|e▸fG) oE λacx pD xJ=>⟨rfl,?_⟩;obtain⟨z7,Y,ae,ba⟩:=sorted_out_str fG pD xJ;exact I9 O h ao (oD▸Ru ae ba RJ▸b7.RA Y)<|V (c2 _) fs
 |_=>exact bj e
end
end
section
section
variable{a b:Value}{x:I}
def RK(b:Bool):decide (I.bool b=.bool true)=b:=by
 cases b with
 |true=>exact cj rfl
 |false=>exact co λe=>Bool.noConfusion<|I.bool.inj e
def b7.RL(r:b7 h M vs l):(l.all λv=>match v with|.bool _=>true|_=>false)=true->LSm.BoolsAre vs (l.map λv=>decide<|v=.bool true):=
 r.pB (P:=λvs l=>(l.all λv=>match v with|.bool _=>true|_=>false)=true->LSm.BoolsAre vs (l.map λv=>decide<|v=.bool true)) (λB=>.nil) λv vs d ds a B ay e=>by
  have cH:=ay<|cN e;have aD:=bP e;cases a with
  |bool b=>exact V (show(I.bool b::ds).map (λv=>decide<|v=.bool true)=b::ds.map (λv=>decide<|v=.bool true)from ai (·::_)<|RK b)<|.cons _ cH
  |_=>exact b8 aD
def RM(K:eo d A)(O:bJ c.w c.N c.au s.heap M C)(b9:bb s.heap M a x)(e:kS .all x C=some (z,S))(h:eO c s M S z Q):
  wpAny (model c.prog c.w) A (call (.builtin "all") [a]) Q aB s:=by
 cases x with
 |L o=>
  refine z2 e λl an e=>d1 e λaj e=> ?_;obtain⟨rfl,rfl⟩:=dC e;obtain⟨p,vs,n,ab,rfl,B,hi,bf,fs,aF⟩:=bJ.list O an b9;have fG:s.heap.IsList p.1 vs.toList.toArray:=⟨_,hi,rfl,n,rfl⟩;have pH:=bf.RL aj;refine call_all_walk<|wpAny_pyIter_list fG ?_;refine⟨s.heap.objs.size,[s.heap.objs.size,p.1],[s.heap.objs.size],vs.toList.toArray.size,_,_,λi=>((l.map λv=>decide<|v=.bool true)[i]?).getD true,rfl,Walks.list (A:=A.in1) K.handled _ p.1 (dV<|Heap.lt_size hi) vs.toList.toArray,
   ⟨⟨_,Heap.get?_push_size _ rfl,rfl,rfl⟩,fG.push _⟩,λi v aY tV rY vF et=> ?_,λaO tk ao=> ?_⟩
  ·obtain⟨b,e,rfl⟩:=pH.get i v<|bu List.getElem?_toArray vF;dsimp only at et;rw[e]at et;exact wpAny_truthy_bool et
  ·have e:((List.range vs.toList.toArray.size).all λi=>((l.map λv=>decide<|v=.bool true)[i]?).getD true)=l.all λv=>v==.bool true:=V (show vs.toList.toArray.size=(l.map λv=>decide<|v=.bool true).length from aF.trans (c2 _).symm) ((LSm.range_all<|l.map λv=>decide<|v=I.bool true).trans List.all_map)
   exact V e<|h _ M _ (bX.ou O ⟨aO,tk,rfl,LSm.kept_iter ao⟩)<|.bool _
 |_=>exact bj e
def DA{p:Addr}{vs:Array Value}{n:Nat}{id:String}{Q:Value×List Value->Shared->Prop}(aA:s.heap.get? p=some {cls:=.type "list",data:=.seq vs n})(slot:Slot "list" name id)(DB:typeOf (.builtin id)=pure (.type "method_descriptor"))(h:Q (.builtin id,[.ref p]) s):wpAny (model c.prog c.w) A (getMethod (.ref p) name f9) Q aB s:=getMethod_builtin ⟨_,aA,rfl⟩ PySem.F.plainAttrs_list slot DB (λa e=>by cases e;exact⟨_,aA,rfl⟩) h
def RN{p:Addr}{ax:Array DictEntry}{n:Nat}{id:String}{Q:Value×List Value->Shared->Prop}(aA:s.heap.get? p=some {cls:=.type "dict",data:=.dict ax n})(slot:Slot "dict" name id)(DB:typeOf (.builtin id)=pure (.type "method_descriptor"))(h:Q (.builtin id,[.ref p]) s):wpAny (model c.prog c.w) A (getMethod (.ref p) name f9) Q aB s:=getMethod_builtin ⟨_,aA,rfl⟩ PySem.F.plainAttrs_dict slot DB (λa e=>by cases e;exact⟨_,aA,rfl⟩) h
def vH{d:Addr}{vs:Array Value}{n:Nat}{f:Array Value->Array Value}(aA:h.get? d=some {cls:=.type "list",data:=.seq vs n}):
  (∃eH,(h.update d<|Obj.mapSeq f).get? d=some {cls:=.type "list",data:=.seq (f vs) eH})/\Heap.SameBut d h (h.update d<|Obj.mapSeq f):=
 ⟨⟨_,get?_update_seq aA f⟩,Heap.SameBut.update ..⟩
def bX.xK(O:bJ c.w c.N c.au s.heap M C){o:Nat}{vs ws:Array Value}{n:Nat}(ab:M[o]? =some p)(RO:o≠0)(ae:p.2=none)(aA:s.heap.get? p.1=some {cls:=.type "list",data:=.seq vs n})(he:aO.get? p.1=some {cls:=.type "list",data:=.seq ws eH})(aJ:Heap.SameBut p.1 s.heap aO)(r:g5 s.heap M aO M->b7 aO M ws.toList l)(an:l.length<=16000000)(t:Nat):
  bX c W s M {s with heap:=aO,toks:=t} M (C.set o<|.list l):=
 bX.de O ab RO (.inl rfl) aJ ⟨_,he⟩ (λq aC=>br (bu aA aC)▸(show¬Value.type "list"=.type "tuple" by decide)) λK=>⟨ae,ws,eH,he,r K,an⟩
def RP{o:Nat}(O:bJ c.w c.N c.au s.heap M C)(b9:bb s.heap M a (.L o))(an:C[o]? =some (.list l))(dE:bb s.heap M b y)(oF:o≠0)(hz:l.length<16000000)(h:eO c s M (C.set o<|.list<|l++[y]) .none Q):
  wpAny (model c.prog c.w) A (call (.builtin "list.append") [a,b]) Q aB s:=by
 obtain⟨p,vs,n,ab,rfl,lw,aA,bf,fs,aF⟩:=bJ.list O an b9;obtain⟨⟨eH,aD⟩,aJ⟩:=vH (f:=(·.push b)) aA;have oG:(l++[y]).length<=16000000:=a3 (cP er) hz;refine wpAny_call_entry slot_list_append ⟨_,aA,rfl⟩ entry_list_append ?_<|args_list_append _ _;exact wpAny_bind (m:=updateSeq p.1 (·.push b)) (wpAny_updateSeq aA rfl (hz:=tC aF fs j0) (_hz':=a3 (cP ((Array.size_push _).trans (ai (·+1) aF)))<|rZ<|a3 hz j0)<|wpAny_pure ⟨.none,rfl,h _ M _ (bX.xK O ab oF lw aA aD aJ (λK=>V Array.toList_push<|b7.keep K<|b7.zM bf dE) oG _) .none⟩)
def b7.dropLast(r:b7 h M vs l):b7 h M vs.dropLast l.dropLast:=V List.dropLast_eq_take<|V List.dropLast_eq_take<|V r.length<|r.take _
def RQ{o:Nat}(O:bJ c.w c.N c.au s.heap M C)(b9:bb s.heap M a (.L o))(an:C[o]? =some (.list l))(oF:o≠0)(hz:l.getLast?=some z)(h:eO c s M (C.set o<|.list l.dropLast) z Q):
  wpAny (model c.prog c.w) A (call (.builtin "list.pop") [a]) Q aB s:=by
 obtain⟨p,vs,n,ab,rfl,lw,aA,bf,fs,aF⟩:=bJ.list O an b9;obtain⟨v,aR,aH⟩:=bf.get<|bu List.getLast?_eq_getElem? hz;obtain⟨⟨eH,aD⟩,aJ⟩:=vH (f:=λxs=>xs.eraseIdxIfInBounds<|vs.size-1) aA;have K:g5 s.heap M (s.heap.update p.1<|Obj.mapSeq λxs=>xs.eraseIdxIfInBounds<|vs.size-1) M:=⟨⟨[],(ew _).symm⟩,λb o e c B n=>⟨(aJ.2 b λq=>n<|q▸tG ab).trans e,n⟩⟩
 exact call_meets F.slot_list_pop ⟨_,aA,rfl⟩ F.entry_list_pop (F.args_list_pop_1 _) (MeetsSeq.list_pop_last p.1 vs n v (V aF<|bu Array.getElem?_toList aR)<|tC aF fs j0) ⟨aA,h _ M _ (bX.xK O ab oF lw aA aD aJ
  (λK=>V Array.toList_eraseIdxIfInBounds<|V (show vs.toList.eraseIdx (vs.size-1)=_ from List.eraseIdx_length_sub_one) (bf.keep K).dropLast)
  (a3 (cP List.length_dropLast) (a3 (Nat.sub_le _ _) fs)) _) (aH.keep K)⟩
theorem RR{o o':Nat}{r:List I}(O:bJ c.w c.N c.au s.heap M C)(b9:bb s.heap M a (.L o))(an:C[o]? =some (.list l))(dE:bb s.heap M b (.L o'))(aH:C[o']? =some (.list r))(oF:o≠0)(f7:o≠o')(hz:l.length+r.length<16000000)(h:eO c s M (C.set o<|.list<|l++r) .none Q):wpAny (model c.prog c.w) A (call (.builtin "list.extend") [a,b]) Q aB s:=by
 obtain⟨p,vs,n,ab,rfl,lw,aA,bf,fs,aF⟩:=bJ.list O an b9;obtain⟨qC,ws,eH,pD,rfl,acy,kY,RS,acz,DC⟩:=bJ.list O aH dE;obtain⟨⟨Ja,aD⟩,aJ⟩:=vH (f:=λx=>x++ws) aA;have j0:=j0;refine call_meets F.slot_list_extend ⟨_,aA,rfl⟩ F.entry_list_extend (F.args_list_extend_2 _ _) (AutoSeq1.list_extend_list_list_0 p.1 vs n qC.1 ws eH (λq=> ?_) (tC aF fs j0)<|by lia)
  ⟨aA,kY,h _ M _ (bX.xK O ab oF lw aA aD aJ (λK=>V Array.toList_append<|(bf.keep K).append<|RS.keep K) (a3 (cP er)<|hj hz) _) .none⟩
 have eW:(decide _)=true:=cN q;have eW:=dw eW;lia
def RT(e:pA C y z x=some S)(lr:∀o l i,x=.L o->C[o]? =some (.list l)->y=.int i->o≠0/\0<=i/\i<l.length->C.set o (.list<|l.set i.toNat z)=S->R)(ks:∀o l,x=.L o->C[o]? =some (.dict l)->e2 l y->l.length<16000000->o≠0->C.set o (.dict<|fB l y z)=S->R):R:=by
 cases x with
 |L o=>
  refine Du e (λl an e=> ?_) λl an e=>d1 e λq w=>ks o l rfl an (bP<|bP q) (dw<|cN<|bP q) (dw<|cN q)<|br w;cases y with
  |int i=>exact d1 e λq w=>lr o l i rfl an rfl q<|br w
  |_=>exact bj e
 |_=>exact bj e
theorem RU{p:Addr}{vs:Array Value}{n:Nat}{i:Int}{t:Tok}{Q:Unit->Shared->Prop}(aA:s.heap.get? p=some {cls:=.type "list",data:=.seq vs n})(eh:0<=i)(ah:i<vs.size)(hz:vs.size<=16000000)(h:∀eH,(s.heap.update p (Obj.mapSeq (·.setIfInBounds i.toNat v))).get? p=some {cls:=.type "list",data:=.seq (vs.setIfInBounds i.toNat v) eH}->Heap.SameBut p s.heap (s.heap.update p (Obj.mapSeq (·.setIfInBounds i.toNat v)))->Q () {s with heap:=s.heap.update p (Obj.mapSeq (·.setIfInBounds i.toNat v))}):
  wpAny (model c.prog c.w) A (setItem (.ref p) (.int i t) v) Q aB s:=by
 have eD:s.TypeIs (.ref p) "list":=⟨_,aA,rfl⟩;obtain⟨⟨eH,aD⟩,aJ⟩:=vH (f:=(·.setIfInBounds i.toNat v)) aA;have h:=h eH aD aJ
 clear aD aJ
 refine wpAny_holding (vs:=[_,_,_])<|wpAny_bind<|wpAny_sequenceKey eD rfl ?_;refine wpAny_bind<|wpAny_callSpecial?_slot (name:=aa "__setitem__") eD slot_list_setitem<|wpAny_call_entry slot_list_setitem eD entry_list_setitem ?_<|args_list_setitem _ _ _;show wpAny _ _ (Builtin.List.listSubscript? (.int i _)>>=_) _ _ s;refine wpAny_bind (wpAny_listSubscript_int (fitsIndex_of eh<|by lia) ?_);obtain⟨j,rfl⟩:=xI eh;show wpAny _ _ ((seqItemAt p j>>=λr=>pure (r.map (j,·)))>>=_) _ _ s;refine wpAny_bind<|wpAny_bind<|wpAny_seqItemAt aA rfl<|wpAny_pure<|V (Array.getElem?_eq_getElem<|qJ.mp ah) ?_;exact wpAny_bind (m:=setSeqItemAt p j v)<|wpAny_setSeqItemAt aA rfl<|wpAny_pure ⟨.none,rfl,wpAny_pure h⟩
def RV{Q:Unit->Shared->Prop}(K:eo d A)(O:bJ c.w c.N c.au s.heap M C)(b9:bb s.heap M a x)(dE:bb s.heap M b y)(jE:bb s.heap M v z)(e:pA C y z x=some S)(h:∀aY bt,bX c [] s M aY bt S->Q () aY):
  wpAny (model c.prog c.w) A (setItem a b v) Q aB s:=by
 refine RT e (λo l i ac an a8 q e'=> ?_) λo l ac an k fk gi e'=> ?_
 ·clear e;subst ac a8 e'
  obtain⟨p,vs,n,ab,rfl,lw,aA,bf,fs,aF⟩:=bJ.list O an b9;cases dE;exact RU aA q.2.1 (V aF q.2.2) (V aF fs) λeH aD aJ=>h _ M<|bX.xK (t:=s.toks) O ab q.1 lw aA aD aJ (l:=l.set i.toNat z) (λK=>V Array.toList_setIfInBounds<|b7.keep K<|b7.set _ bf jE)<|a3 (cP List.length_set) fs
 ·clear e;subst ac e'
  obtain⟨p,ax,n,ab,rfl,lw,aA,ed,hn,fs⟩:=bJ.dict O an b9;exact QU (eo.qD K) dE jE k aA ed hn fk λaO jj lu t Y ae ba=>h _ M (bX.de O ab gi (.inl rfl) ba ⟨_,Y⟩ (λq aC=>br (bu aA aC)▸(show¬Value.type "dict"=.type "tuple" by decide)) λK=>⟨lw,jj,lu,Y,ae,QM hn,a3 (QO l y z) fk⟩)
def RW{Q:Unit->Shared->Prop}(K:eo d A)(O:bJ c.w c.N c.au s.heap M C)(b9:bb s.heap M a x)(dE:bb s.heap M b y)(e:tA C y x=some S)(h:∀aY bt,bX c [] s M aY bt S->Q () aY):
  wpAny (model c.prog c.w) A (delItem a b) Q aB s:=by
 cases x with
 |L o=>refine Dz e λl an e=>d1 e λq e=> ?_;obtain rfl:=br e;obtain⟨p,ax,n,ab,rfl,lw,aA,ed,hn,fs⟩:=bJ.dict O an b9;exact QW (eo.qD K) dE (bP<|bP q) (cN<|bP q) aA ed hn fs λaO jj lu t Y ae ba=>h _ M (bX.de O ab (dw<|cN q) (.inl rfl) ba ⟨_,Y⟩ (λq aC=>br (bu aA aC)▸(show¬Value.type "dict"=.type "tuple" by decide)) λK=>⟨lw,jj,lu,Y,ae,QN hn,a3 (QP l y) fs⟩)
 |_=>exact bj e
noncomputable def ny(start stop step:Int)(i:Nat):Bool:=
 if step>0 then start<=i&&i<stop&&(i-start)%step==0
 else stop<i&&i<=start&&(start-i)%(-step)==0
def Jb(h:k<i):i-k=(i-(k+1))+1:=(Nat.succ_pred_eq_of_pos<|Nat.sub_pos_of_lt h).symm
def RX(i:Nat)(n:Nat){l:List Value}:∀(k:Nat),k+l.length=n->(l.zipIdx k).filterMap (λ(x,k)=>if ny i n 1 k then none else some x)=l.take (i-k):=by
 induction l with
 |nil=>exactλB B=>(List.take_nil).symm
 |cons x r ay=>
  intro k h;have ay:=ay (k+1)<|(vI k r.length).trans h;have ao:ny i n 1 k=decide (i<=k):=by delta ny;have:((k:Int)<(n:Int)):=hx<|h▸nz (pI _);simp [this,Int.emod_one]
  refine V List.zipIdx_cons<|V List.filterMap_cons ?_;by_cases xL:i<=k
  ·simp only[ao,xL,decide_true,if_true];refine V ay<|V (Nat.sub_eq_zero_of_le xL)<|V (Nat.sub_eq_zero_of_le<|rZ xL) rfl
  ·simp only[ao,xL,decide_false,Bool.false_eq_true,if_false];exact V ay<|V (Jb<|Nat.not_le.mp xL) rfl
theorem RY{p:Addr}{vs:Array Value}{n:Nat}{t:Tok}{eI:Addr}{Q:Unit->Shared->Prop}(aA:s.heap.get? p=some {cls:=.type "list",data:=.seq vs n})(aJ:s.heap.IsSliceOf eI (.int k t) .none .none)(ao:k<=vs.size)(hz:vs.size<=16000000)(h:∀aO eH,aO.get? p=some {cls:=.type "list",data:=.seq (vs.toList.take k).toArray eH}->Heap.SameBut p s.heap aO->Q () {s with heap:=aO}):wpAny (model c.prog c.w) A (delItem (.ref p)<|.ref eI) Q aB s:=by
 obtain⟨os,pF,z5,oA⟩:=aJ;have Jc:s.TypeIs (.ref eI) "slice":=⟨os,pF,z5⟩;refine wpAny_delItem_slot (T:="list") ⟨_,aA,rfl⟩ rfl F.slot_list_delitem<|wpAny_call_entry F.slot_list_delitem ⟨_,aA,rfl⟩ F.entry_list_delitem ?_<|F.args_list_delitem_2 _ _;refine wpAny_bind (m:=Builtin.List.listSubscript?<|.ref eI)<|wpAny_bind<|wpAny_specialOf Jc slice_no_index<|wpAny_pure ?_;refine wpAny_bind (m:=typeOf<|.ref eI) (wpAny_typeOf Jc<|V (bI<|by decide)<|V (listSliceParts_eq _) ?_);refine wpAny_bind<|wpAny_bind<|wpAny_field pF oA (x:=.none) rfl<|wpAny_bind<|wpAny_listPart .none<|V (bI<|show¬((rawPart none==rawInt 0)=true)from Bool.false_ne_true) ?_;refine wpAny_bind<|wpAny_field pF oA (x:=.int k t) rfl<|wpAny_bind<|wpAny_listPart (.int _ _) ?_;refine wpAny_bind<|wpAny_field pF oA (x:=.none) rfl<|wpAny_bind<|wpAny_listPart .none<|wpAny_pure ?_;refine wpAny_bind (m:=Builtin.List.listItems<|.ref p)<|wpAny_bind<|wpAny_seqItems aA rfl<|wpAny_pure ?_;refine wpAny_bind (wpAny_of_eq (sliceIndices_raw (some (k:Int)) none none vs.size<|by decide) ?_);have DD:sliceBounds (some (k:Int)) none none vs.size=((k:Int),(vs.size:Int),1):=by simp only[sliceBounds,Option.getD_none];refine V (bg<|show(1:Int)>0 by decide) (V (bI<|by lia) ?_);exact Prod.ext (show max 0 (min (k:Int) vs.size)=k by lia) rfl
 refine V DD<|wpAny_bind<|wpAny_rule ?_;have hf:(vs.toList.zipIdx.filterMap<|λ(x,j)=>if ny k vs.size 1 j then none else some x).toArray=(vs.toList.take k).toArray:=ai List.toArray<|RX k vs.size 0<|ow _;obtain⟨⟨eH,aD⟩,xJ⟩:=vH (f:=λxs=>(xs.toList.zipIdx.filterMap<|λ(x,j)=>if ny k vs.size 1 j then none else some x).toArray) aA;refine wpAny_bind (m:=Builtin.List.listUpdate (.ref p) _) ?_;show wpAny _ _ (updateSeq p λxs=>(xs.toList.zipIdx.filterMap<|λ(x,j)=>if ny k vs.size 1 j then none else some x).toArray) _ _ s;exact wpAny_updateSeq aA rfl (hz:=a3 hz j0) (_hz':=V hf<|a3 (vE _ _)<|a3 hz<|rZ j0)<|wpAny_bind<|wpAny_letGo<|wpAny_pure ⟨.none,rfl,h _ eH (hf▸aD) xJ⟩
def RZ(e:rM C z x=some S)(k:∀o l i,x=.L o->C[o]? =some (.list l)->z=.int i->o≠0/\0<=i/\i<=l.length->C.set o (.list<|l.take i.toNat)=S->R):R:=by
 cases x with
 |L o=>
  delta rM at e;dsimp only at e;cases an:C[o]?with
  |none=>rw[an]at e;exact bj e
  |some q=>
   rw[an]at e;cases q with
   |list l=>
    cases z with
    |int i=>exact d1 e λq w=>k o l i rfl an rfl q<|br w
    |_=>exact bj e
   |_=>exact bj e
 |_=>exact bj e
def R0{Q:Unit->Shared->Prop}{eI:Addr}(O:bJ c.w c.N c.au s.heap M C)(b9:bb s.heap M a x)(aJ:s.heap.IsSliceOf eI v .none .none)(jE:bb s.heap M v z)(e:rM C z x=some S)(h:∀aY bt,bX c [] s M aY bt S->Q () aY):
  wpAny (model c.prog c.w) A (delItem a<|.ref eI) Q aB s:=by
 refine RZ e λo l i ac an hz ah e'=> ?_
 clear e
 subst ac hz e';obtain⟨p,vs,n,ab,rfl,lw,aA,bf,fs,aF⟩:=bJ.list O an b9;obtain⟨oF,eh,h9⟩:=ah;obtain⟨k,rfl⟩:=xI eh;cases jE;exact RY aA aJ (V aF<|Int.ofNat_le.mp h9) (V aF fs) λaO eH aD xJ=>h _ M<|bX.xK (t:=s.toks) O ab oF lw aA aD xJ (λK=>(bf.keep K).take k)<|a3 (vE _ _) fs
structure DE(K:Frag)(aI:Addr):Prop where
 get:plainGet K aI ""=true
 bC:hasDictIn K aI=true
 set:findIn K (.ref aI) "__setattr__"=some (some<|.builtin "object.__setattr__")
 R1:plainOver K aI=true
def vJ{l:List Str}{x y:Str}(Y:l.idxOf? x=some i)(ae:l.idxOf? y=some i):x=y:=by rw[List.idxOf?,xC]at Y ae;obtain⟨a,b,B⟩:=Y;obtain⟨B,d,cq⟩:=ae;simp only[beq_iff_eq]at b d;exact eF b<|eF d rfl
def R2{l:List Str}{x:Str}(Y:l.idxOf? x=some i):i<l.length:=by rw[List.idxOf?,xC]at Y;exact Y.1
def z9{e:DictEntry}{r:List DictEntry}{y:Str}(h:e.key.isStr y):lq y (e::r)=some e.val:=ai (Option.map λe:DictEntry=>e.val)<|vK (p:=λe:DictEntry=>e.key.isStr y) h
def tW{e:DictEntry}{r:List DictEntry}{y:Str}(h:e.key.isStr y=false):lq y (e::r)=lq y r:=ai (Option.map λe:DictEntry=>e.val)<|List.find?_cons_of_neg (p:=λe:DictEntry=>e.key.isStr y)<|mJ.mp h
def Jd{x y:Str}(h:v.isStr x)(n:y≠x):v.isStr y=false:=by
 cases v with
 |str z B=>exact beq_eq_false_iff_ne.mpr λe=>n<|bu e<|eq_of_beq h
 |_=>exact b8 h
section
variable{t:Tok}
def xM{e:DictEntry}(h:e.key.isStr name):putL name oH (.str name t) v (e::ax)=⟨e.hash,e.key,v⟩::ax:=bg h
def xN{e:DictEntry}(h:e.key.isStr name=false):putL name oH (.str name t) v (e::ax)=e::putL name oH (.str name t) v ax:=bI<|mJ.mp h
def R3:lq name (putL name oH (.str name t) v ax)=some v:=by
 induction ax with
 |nil=>exact z9 (e:=⟨oH,.str name t,v⟩)<|beq_self_eq_true name
 |cons e r ay=>
  cases ao:e.key.isStr name with
  |true=>exact V (xM ao)<|z9 (e:=⟨e.hash,e.key,v⟩) ao
  |false=>exact V (xN ao)<|(tW ao).trans ay
def Je{y:Str}(n:y≠name):lq y (putL name oH (.str name t) v ax)=lq y ax:=by
 induction ax with
 |nil=>exact tW (e:=⟨oH,.str name t,v⟩)<|beq_eq_false_iff_ne.mpr n.symm
 |cons e r ay=>
  cases ao:e.key.isStr name with
  |true=>exact V (xM ao)<|(tW (e:=⟨e.hash,e.key,v⟩)<|Jd ao n).trans (tW<|Jd ao n).symm
  |false=>
   refine V (xN ao) ?_;cases a8:e.key.isStr y with
   |true=>exact(z9 a8).trans (z9 a8).symm
   |false=>exact(tW a8).trans<|ay.trans (tW a8).symm
def R4(h:rQ ax):rQ (putL name oH (.str name t) v ax):=by
 induction ax with
 |nil=>exactλe he=>bT he▸⟨_,_,rfl⟩
 |cons e r ay=>
  have q:=mL.mp h;cases ao:e.key.isStr name with
  |true=>exact V (xM ao)<|mL.mpr ⟨q.1,q.2⟩
  |false=>exact V (xN ao)<|mL.mpr ⟨q.1,ay q.2⟩
def Jf:(putL name oH (.str name t) v ax).length<=ax.length+1:=by
 induction ax with
 |nil=>exact gF _
 |cons e r ay=>
  cases ao:e.key.isStr name with
  |true=>exact V (xM ao)<|j1 _
  |false=>exact V (xN ao)<|kX ay
def R5(h:lq name ax=some u):(putL name oH (.str name t) v ax).length=ax.length:=by
 induction ax with
 |nil=>exact bj h
 |cons e r ay=>
  cases ao:e.key.isStr name with
  |true=>exact V (xM ao) rfl
  |false=>exact V (xN ao) (ai (·+1)<|ay<|(tW ao).symm.trans h)
end
def R6{p q:Nat->Bool}(h:∀x,p x->q x){f:Nat}(ab:p f=false)(aC:q f){l:List Nat}:f∈l->l.countP p<l.countP q:=by
 induction l with
 |nil=>exactλh=>absurd h b4
 |cons x r ay=>
  intro hm;have ci:r.countP p<=r.countP q:=List.countP_mono_left λx B=>h x;refine V List.countP_cons<|V List.countP_cons ?_;rcases cR hm with rfl|hm
  ·rw[ab,aC];exact pJ ci
  ·cases ac:p x with
   |true=>rw[h x ac];exact tX<|ay hm
   |false=>exact c7 (ay hm)<|cT _ _
def Jg{F:Nat->Option I}{f:Nat}{v:I}(i:Nat)(h:(F i).isSome=true):(ar F f v i).isSome=true:=by
 delta ar
 split
 ·rfl
 ·exact h
def R7{n f:Nat}{F:Nat->Option I}{v:I}:rP n F<=rP n (ar F f v):=List.countP_mono_left λi B=>Jg i
def R8{n f:Nat}{F:Nat->Option I}{v:I}(hf:f<n)(h:F f=none):rP n F+1<=rP n (ar F f v):=R6 (p:=λi=>(F i).isSome) (q:=λi=>(ar F f v i).isSome) Jg (ai Option.isSome h) (ai Option.isSome<|bg rfl)<|pK.mpr hf
def R9(n:Nat)(F:Nat->Option I):rP n F<=n:=a3 List.countP_le_length<|cP tY
def bJ.cO(O:bJ c.w c.N c.au s.heap M C){F:Nat->Option I}(e:C[k]? =some (.cO cl F))(r:bb s.heap M v (.L k)):
  ∃(p:Addr×Option Addr) (aI gK:Addr) (ax:List DictEntry) (n:Nat),M[k]? =some p/\v=.ref p.1/\c.N.ca[cl]? =some aI/\p.2=some gK/\s.heap.get? p.1=some (instObj aI gK)/\s.heap.get? gK=some (dictOf ax n)/\rQ ax/\ax.length<=rP c.N.fr.length F/\
   (∀x,lp s.heap M (lq x ax)<|(c.N.fr.idxOf? x).bind F)/\(∀x,(lq x ax).isSome=true->(c.N.fr.idxOf? x).isSome=true):=by
 cases r with
 |L ab=>have R:=O.objs k _ _ ab e;obtain⟨aI,gK,ax,n,h⟩:=R;exact⟨_,aI,gK,ax,n,ab,rfl,h⟩
structure Aa(c:Ctx)(K:Frag)(b1:Nat->Nat->Option Nat):Prop where
 xO:K.In c.au
 cls:∀(k:Nat) (aI:Addr),c.N.ca[k]? =some aI->DE K aI
 Jh:∀(k:Nat) (aI:Addr) (x:Str) (i:Nat),c.N.ca[k]? =some aI->c.N.fr.idxOf? x=some i->b1 k i=none->findIn K (.ref aI) x=some none
def bb.Sa(r:bb h M v z):handedIn v:=by cases r<;>rfl
def Ab{p:Addr}{n:Nat}(Y:h.get? p=some (instObj aI gK))(ae:h.get? gK=some (dictOf ax n)):InstAt h p (instObj aI gK) aI (some<|dictOf ax n):=⟨Y,rfl,rfl,ae⟩
def Ji{β:Type}{o:Option b5}{f:Nat->(Nat->Option I)->Option β}{r:β}(e:(match o with|some (.cO c F)=>f c F|_=>none)=some r)(k:∀c F,o=some (.cO c F)->f c F=some r->R):R:=by
 cases o with
 |none=>exact bj e
 |some o=>
  cases o with
  |cO c F=>exact k c F rfl e
  |_=>exact bj e
def Jj{f:Nat}{expr:Bool}(T:Aa c K b1)(O:bJ c.w c.N c.au s.heap M C)(b9:bb s.heap M a x)(hf:c.N.fr.idxOf? name=some f)(e:hd b1 C f x=some z)(h:eO c s M C z Q):wpAny (model c.prog c.w) A (getAttr a name expr) Q aB s:=by
 cases x with
 |L o=>refine Ji e λcl F kW e=>d1 e λhm e=> ?_;obtain⟨p,aI,gK,ax,n,ab,rfl,eX,bC,Y,ae,ao,an,aH,ac⟩:=bJ.cO O kW b9;have R:=aH name;rw[hf,tZ,e]at R;obtain⟨u,bD,Jk⟩:=R.Df;exact get_value (T.xO.keeps O.keep) (Ab Y ae) (plainGet_of (T.cls _ _ eX).get).1 (findObj_own (T.cls _ _ eX).bC (T.Jh _ _ _ _ eX hf hm) rfl<|bD▸Ik ao) Jk.Sa<|h _ M _ (.jA O _) Jk
 |_=>exact bj e
def Sb{m:Nat}{F:Nat->Option I}{cV:Addr}{Q:Value×List Value->Shared->Prop}{o:Nat}(T:Aa c K b1)(O:bJ c.w c.N c.au s.heap M C)(b9:bb s.heap M a (.L o))(kW:C[o]? =some (.cO cl F))(hf:c.N.fr.idxOf? name=some m)(ir:F m=none)(eX:c.N.ca[cl]? =some aI)(r0:findIn K (.ref aI) name=some (some<|.ref cV))(r1:isFn K (.ref cV)=true)(h:Q (.ref cV,[a]) s):
  wpAny (model c.prog c.w) A (getMethod a name f9) Q aB s:=by
 obtain⟨p,gG,gK,ax,n,ab,rfl,Sd,bC,Y,ae,ao,an,aH,ac⟩:=bJ.cO O kW b9;obtain rfl:=br<|bu eX Sd;have R:=aH name;rw[hf,tZ,ir]at R;exact method_fn (T.xO.keeps O.keep) (Ab Y ae) (plainGet_of (T.cls _ _ eX).get).1 (plainGet_of (T.cls _ _ eX).get).2 r0 (beq_iff_eq.mp r1) (show(lookIn name<|dictOf ax n).map _=_ from V (lookIn_dict _ _ _)<|V (Ik ao)<|V R.Ql rfl) h
def Se{f:Nat}{F:Nat->Option I}{t:Tok}(eX:N.ca[cl]? =some aI)(bC:p.2=some gK)(Y:aO.get? p.1=some (instObj aI gK))(ae:aO.get? gK=some (dictOf (putL name oH (.str name t) v ax) eH))(ao:rQ ax)(an:ax.length<=rP N.fr.length F)(aH:∀x,lp h M (lq x ax)<|(N.fr.idxOf? x).bind F)(ac:∀x,(lq x ax).isSome=true->(N.fr.idxOf? x).isSome=true)(hf:N.fr.idxOf? name=some f)(K:g5 h M aO M)(jE:bb h M v z):ot w N aO M p (.cO cl<|ar F f z):=by
 refine⟨aI,gK,_,_,eX,bC,Y,ae,R4 ao,?_,λy=> ?_,λy a8=> ?_⟩
 ·have R:=aH name;rw[hf,tZ]at R;cases Jl:F f with
  |none=>exact a3 Jf<|a3 (kX an)<|R8 (R2 hf) Jl
  |some q=>rw[Jl]at R;obtain⟨u,bD,B⟩:=R.Df;exact a3 (cP<|R5 bD)<|a3 an R7
 ·by_cases a8:y=name
  ·subst a8;exact V R3 (V (show(N.fr.idxOf? y).bind (ar F f z)=some z from(ai (·.bind (ar F f z)) hf).trans<|bg rfl)<|jE.keep K)
  ·have e:(N.fr.idxOf? y).bind (ar F f z)=(N.fr.idxOf? y).bind F:=by
    cases ah:N.fr.idxOf? y with
    |none=>rfl
    |some i=>exact bI λq=>a8<|vJ (q▸ah) hf
   exact V (Je a8)<|V e<|(aH y).keep K
 ·by_cases Jm:y=name
  ·subst Jm;exact V hf rfl
  ·exact ac y<|Je Jm▸a8
def Sf{p:Addr}{n:Nat}{Q:Unit->Shared->Prop}(a4:K.In s.heap)(DF:DE K aI)(aP:takerIn K aI name=some none)(Y:s.heap.get? p=some (instObj aI gK))(ae:s.heap.get? gK=some (dictOf ax n))(ao:rQ ax)(an:ax.length<=1000)(h:∀aO t ib,aO.get? gK=some (dictOf (putL name (PyData.keyHash c.w.params name) (.str name ib) v ax)<|putN name ax n)->Heap.SameBut gK s.heap aO->Q () {s with heap:=aO,toks:=t}):wpAny (model c.prog c.w) A (setAttr (.ref p) name v) Q aB s:=by
 refine set_plain a4 (Ab Y ae) DF.set<|osa_open (s:={s with toks:=s.toks+1}) a4 (Ab Y ae) DF.R1 aP λb=> ?_;obtain⟨cd,ag,Ac⟩:=any_some DF.bC;have xP:(s.heap.update gK<|Obj.putName name (PyData.keyHash c.w.params name) (.str name<|s.toks+1) v).get? gK=some (dictOf (putL name (PyData.keyHash c.w.params name) (.str name<|s.toks+1) v ax)<|putN name ax n):=by rw[<-putName_dict];exact Heap.get?_update_self _ ae (by rw[putName_dict];rfl)
 refine wpAny_bind<|wpAny_pure<|wpAny_bind<|wpAny_bind<|wpAny_loadPart Y<|wpAny_bind<|(looks_clsIn a4 ag).at (V Ac ?_);refine wpAny_pure (a:=some gK)<|wpAny_bind<|wpAny_pure<|wpAny_bind (m:=nsSet _ _ _) ?_;refine wpAny_bind<|wpAny_bind<|wpAny_askSetting<|wpAny_pure<|wpAny_bind<|wpAny_mkText<|wpAny_bind<|wpAny_loadPart ae ?_;dsimp only;have rU:ax.toArray.any (·.refKey)=false:=by rw[Array.any_toList.symm];exact List.any_eq_false.mpr λe he q=>(ao e he).elim λn eW=>eW.elim λt nA=>by simp [DictEntry.refKey,nA]at q
 refine V (aRefKeyMayBeTheName_at _ _) (V (show(!ax.toArray.any (·.key.isStr name)&&ax.toArray.any (·.refKey))=false from V rU<|Bool.and_false _) ?_);exact wpAny_updatePart ae (wpAny_bind<|wpAny_lookBehind xP (pastItsLine_dict<|a3 Jf<|kX<|a3 an<|by decide)<|wpAny_pure<|h _ _ _ xP<|Heap.SameBut.update ..)
def Jn{f:Nat}{Q:Unit->Shared->Prop}(T:Aa c K b1)(Sg:c.N.fr.length<=1000)(O:bJ c.w c.N c.au s.heap M C)(b9:bb s.heap M a x)(jE:bb s.heap M v z)(hf:c.N.fr.idxOf? name=some f)(e:jZ b1 C f z x=some S)(h:∀aY bt,bX c [] s M aY bt S->Q () aY):wpAny (model c.prog c.w) A (setAttr a name v) Q aB s:=by
 cases x with
 |L o=>
  refine Ji e λcl F kW e=>d1 e λhm e=> ?_;obtain rfl:=br e;obtain⟨p,aI,gK,ax,n,ab,rfl,eX,bC,Y,ae,ao,an,aH,ac⟩:=bJ.cO O kW b9;have aP:takerIn K aI name=some none:=by delta takerIn;exact V (T.Jh _ _ _ _ eX hf hm.2) rfl
  refine Sf (T.xO.keeps O.keep) (T.cls _ _ eX) aP Y ae ao (a3 an<|a3 (R9 _ _) Sg) λaO t ib xP vL=> ?_;refine h _ M (bX.de O ab hm.1 (.inr bC) vL ⟨_,xP⟩ (λq aC=>br (bu ae aC)▸(show¬Value.type "dict"=.type "tuple" by decide)) λdR=> ?_);exact Se eX bC ((vL.2 _ λq=>absurd (show Value.ref aI=.type "dict" from ai Obj.cls<|br<|bu Y<|(ai s.heap.get? q).trans ae) nofun).trans Y) xP ao an aH ac hf dR jE
 |_=>exact bj e
end
end
section
structure dS(c:Ctx)(W:List Addr)(aW:Nat)(aL:jz)(sc:Sc)(aN:Env)(h:Heap)(M:c6)(H:bS):Prop where
 kind:aN.scope.kind=.function
 glob:aN.globals=mainGlobals
 blt:aN.builtins=builtinsNs
 kinds:∀x k,sc.lookup x=some k->aN.kindOf x=some k\/(k=.free/\aN.kindOf x=some .cell)
 nodict:∀x k,sc.lookup x=some k->(x==("__classdict__":Str))=false
 lt:∀x i,aL.lookup x=some i->i<aW
 top:∀i,aW<=i->H i=none
 dot:aL.lookup (".0":Str)=none
 inj:∀x y i,aL.lookup x=some i->aL.lookup y=some i->x=y
 ns:∃m,h.Ns aN.locals m/\∀x i d,sc.lookup x=some .local->aL.lookup x=some i->H i=some d->∃v,m x=some v/\bb h M v d
 cells:∀x i,sc.lookup x=some .cell\/sc.lookup x=some .free->aL.lookup x=some i->∃ca u,aN.cells.lookup x=some ca/\h.IsCell ca u/\∀d,H i=some d->∃v,u=some v/\bb h M v d
 r2:aN.locals∉foot M/\c.au.get? aN.locals=none
 nB:∀x ca,aN.cells.lookup x=some ca->ca∉foot M/\c.au.get? ca=none/\ca≠aN.locals
 lx:∀x ca,aN.cells.lookup x=some ca->∃u,h.IsCell ca u
 apart:∀x y ca,aN.cells.lookup x=some ca->aN.cells.lookup y=some ca->x=y
 xQ:aN.locals∈W
 DG:∀x ca,sc.lookup x=some .cell->aN.cells.lookup x=some ca->ca∈W
 ly:∀b∈W,b∉foot M/\c.au.get? b=none/\∃o,h.get? b=some o/\¬∃dQ n,o.data=.seq dQ n
section
variable{a b:Value}{x:I}
def Heap.Ns.Jo{a:Addr}(n:h.Ns a m)(e:∀o,h.get? a=some o->aO.get? a=some o):aO.Ns a m:=let⟨o,ax,ep,aA,r⟩:=n;⟨o,ax,ep,e _ aA,r⟩
def dS.xR(F:dS c W aW aL sc aN s.heap M H)(g:bX c kn s M aY bt S)(fL:nt s.heap kn)(bC:∀b∈kn,b≠aN.locals/\b∉W/\∀x ca,aN.cells.lookup x=some ca->ca≠b):dS c W aW aL sc aN aY.heap bt H:=by
 have K:=g.tr.keep fL;have Jp:aN.locals∉kn:=λq=>(bC _ q).1 rfl;have Ad:∀{x ca},aN.cells.lookup x=some ca->ca∉kn:=λh q=>(bC _ q).2.2 _ _ h rfl;have cell:∀{x ca u},aN.cells.lookup x=some ca->s.heap.IsCell ca u->aY.heap.IsCell ca u:=λh ⟨o,q⟩=>⟨o,g.tr.km _ _ q.1 (F.nB _ _ h).1<|Ad h,q.2⟩;obtain⟨m,hm,aR⟩:=F.ns;obtain⟨Sh,B,cq,DH,eE⟩:=id hm;exact{F with
  ns:=⟨m,Heap.Ns.Jo hm λo e=>g.tr.km _ _ e F.r2.1 Jp,λx i d Y ae ba=>(aR x i d Y ae ba).elim λv q=>⟨v,q.1,q.2.keep K⟩⟩
  cells:=λx i Y ae=>(F.cells x i Y ae).elim λca q=>q.elim λu q=>⟨ca,u,q.1,cell q.1 q.2.1,λd vG=>(q.2.2 d vG).elim λv r=>⟨v,r.1,r.2.keep K⟩⟩
  r2:=⟨g.tr.fR DH F.r2.1 Jp,F.r2.2⟩
  nB:=λx ca h=>(F.lx x ca h).elim λu q=>q.elim λo q=>⟨g.tr.fR q.1 (F.nB _ _ h).1<|Ad h,(F.nB _ _ h).2⟩
  lx:=λx ca h=>(F.lx x ca h).elim λu q=>⟨u,cell h q⟩
  ly:=λb aj=>have nb:b∉kn:=λq=>(bC _ q).2.1 aj
   (F.ly b aj).2.2.elim λo q=>⟨g.tr.fR q.1 (F.ly b aj).1 nb,(F.ly b aj).2.1,o,g.tr.km _ _ q.1 (F.ly b aj).1 nb,q.2⟩}
def dS.step(F:dS c W aW aL sc aN s.heap M H)(g:bX c [] s M aY bt S):dS c W aW aL sc aN aY.heap bt H:=F.xR g (λB h=>absurd h b4) λB h=>absurd h b4
def dS.nC(F:dS c W aW aL sc aN s.heap M H):nt s.heap W:=λb aj o e B q=>(F.ly b aj).2.2.elim λo' r=>r.2<|br (bu e r.1)▸q
def bX.ext(O:bJ c.w c.N c.au s.heap M C){a:Addr}{t:Nat}(aT:a∉foot M/\c.au.get? a=none)(k:∀b o,s.heap.get? b=some o->b≠a->aO.get? b=some o)(fL:∀o,s.heap.get? a=some o->o.cls=.type "tuple"->(∃dQ n,o.data=.seq dQ n)->False):
  bX c [a] s M {s with heap:=aO,toks:=t} M C/\g5 s.heap M aO M:=
 have bw:∀{b},b∈foot M->b≠a:=λaj q=>aT.1<|q▸aj;have aD:∀{b},b∈[a]->b=a:=λh=>bT h
 ⟨⟨⟨⟨[],(ew _).symm,λB h=>absurd h b4⟩,λb o e B m=>k b o e λq=>m<|q▸pL _,λb o e aj=>⟨o,k b o e<|bw aj⟩,λp b o ab aj e=>k b o e<|bw<|zL ab aj⟩,
  O.tK (W:=[a]) (λb aj o e cl q=>fL o (aD aj▸e) cl q) (λb aj=>aD aj▸aT) λb o e m=>k b o e λq=>m (q▸pL _),rfl,rfl,rfl⟩,⟨⟨[],(ew _).symm⟩,λb o e cl q n=>⟨k b o e λm=>fL o (m▸e) cl q,n⟩⟩⟩
def bX.cell(O:bJ c.w c.N c.au s.heap M C){a:Addr}{t:Nat}(aT:a∉foot M/\c.au.get? a=none)(aJ:Heap.SameBut a s.heap aO)(fL:∀o,s.heap.get? a=some o->o.cls=.type "tuple"->(∃dQ n,o.data=.seq dQ n)->False):
  bX c [a] s M {s with heap:=aO,toks:=t} M C/\g5 s.heap M aO M:=bX.ext O aT (λb B e n=>(aJ.2 b n).trans e) fL
def xS{x:Str}(h:oh aL sc x=some i):(sc.lookup x=some .local\/sc.lookup x=some .cell)/\aL.lookup x=some i:=by
 delta oh at h;cases q:sc.lookup x with
 |none=>rw[q]at h;exact bj h
 |some k=>
  rw[q]at h;cases k with
  |«local»=>exact⟨.inl rfl,h⟩
  |cell=>exact⟨.inr rfl,h⟩
  |_=>exact bj h
def Jq{j:Nat}{d:I}{o:Option I}(h:j≠i)(e:H j=o):ar H i d j=o:=(bI h).trans e
def dS.Jr{x:Str}{d:I}(F:dS c W aW aL sc aN s.heap M H)(aR:aL.lookup x=some i):∀j,aW<=j->ar H i d j=none:=λj aQ=>Jq (dd<|c7 (F.lt _ _ aR) aQ)<|F.top j aQ
def dS.Js{a:Addr}(F:dS c W aW aL sc aN s.heap M H)(aJ:Heap.SameBut a s.heap aO)(aT:∃o,aO.get? a=some o/\¬∃dQ n,o.data=.seq dQ n):∀b∈W,b∉foot M/\c.au.get? b=none/\∃o,aO.get? b=some o/\¬∃dQ n,o.data=.seq dQ n:=λb aj=>⟨(F.ly b aj).1,(F.ly b aj).2.1,if e:b=a then e▸aT else(F.ly b aj).2.2.elim λo aA=>⟨o,(aJ.2 _ e).trans aA.1,aA.2⟩⟩
def Ae{a:Addr}{u:Option Value}(aJ:Heap.SameBut a h aO)(n:ca≠a)(ag:h.IsCell ca u):aO.IsCell ca u:=ag.elim λo q=>⟨o,(aJ.2 _ n).trans q.1,q.2⟩
def dS.Si{x:Str}{d:I}{Q:Unit->Shared->Prop}(F:dS c W aW aL sc aN s.heap M H)(O:bJ c.w c.N c.au s.heap M C)(ao:sc.lookup x=some .local)(l7:aL.lookup x=some i)(jE:bb s.heap M v d)(h:∀aY,dS c W aW aL sc aN aY.heap M (ar H i d)->bX c W s M aY M C->Q () aY):wpAny (model c.prog c.w) A (bindName aN x v) Q aB s:=by
 obtain⟨m,hm,aR⟩:=F.ns;obtain⟨Sh,acA,acB,DH,Sj,B⟩:=id hm;refine wpAny_bindName (wpAny_storeName_local ((F.kinds x _ ao).elim id λq=>nomatch q.1) hm (λaO hn aJ=> ?_)<|V F.kind rfl);obtain⟨g,K⟩:=bX.cell (t:=s.toks+1) O F.r2 aJ λo e B ⟨cq,eE,q⟩=>nomatch (br (bu DH e)▸Sj).symm.trans q;obtain⟨Sk,B,cq,Sl,Sm,eE⟩:=id hn;refine h _ {F with
  top:=F.Jr l7
  ns:=⟨_,hn,λy j e Y ae ba=> ?_⟩
  cells:=λy j Y ae=> ?_
  lx:=λy ca h=>(F.lx y ca h).elim λu q=>⟨u,Ae aJ (F.nB _ _ h).2.2 q⟩
  ly:=F.Js aJ ⟨Sk,Sl,λ⟨B,cq,q⟩=>nomatch Sm.symm.trans q⟩} (g.ci λb aj=>bT aj▸F.xQ)
 ·by_cases a8:y=x
  ·subst a8;obtain rfl:=br<|bu l7 ae;exact⟨v,bg rfl,(br ((bg rfl).symm.trans ba)▸jE).keep K⟩
  ·exact(aR y j e Y ae<|(bI λq=>a8<|F.inj _ _ _ (q▸ae) l7).symm.trans ba).elim λu q=>⟨u,(bI a8).trans q.1,q.2.keep K⟩
 ·have aQ:j≠i:=λq=>by
   obtain rfl:=F.inj _ _ _ (q▸ae) l7;rw[ao]at Y;exact Y.elim (λq=>nomatch q) λq=>nomatch q
  exact(F.cells y j Y ae).elim λca q=>q.elim λu q=>⟨ca,u,q.1,Ae aJ (F.nB _ _ q.1).2.2 q.2.1,λe he=>(q.2.2 e<|(bI aQ).symm.trans he).elim λw r=>⟨w,r.1,r.2.keep K⟩⟩
def dS.Af{x:Str}{d:I}{Q:Unit->Shared->Prop}(F:dS c W aW aL sc aN s.heap M H)(O:bJ c.w c.N c.au s.heap M C)(ac:oh aL sc x=some i)(jE:bb s.heap M v d)(h:∀aY,dS c W aW aL sc aN aY.heap M (ar H i d)->bX c W s M aY M C->Q () aY):wpAny (model c.prog c.w) A (bindName aN x v) Q aB s:=by
 obtain⟨ao,l7⟩:=xS ac;refine ao.elim (λao=>F.Si O ao l7 jE h) λao=> ?_;obtain⟨m,hm,aR⟩:=F.ns;obtain⟨ca,u,aD,ag,cS⟩:=F.cells x i (.inl ao) l7;obtain⟨mN,Sn,Ag⟩:=id ag;refine wpAny_bindName<|wpAny_storeName_cell F.kind ((F.kinds x _ ao).elim id λq=>q.2) aD ag λaO DI aJ=> ?_;obtain⟨g,K⟩:=bX.cell (t:=s.toks) O ⟨(F.nB _ _ aD).1,(F.nB _ _ aD).2.1⟩ aJ λo e B ⟨cq,eE,q⟩=>nomatch (br (bu Sn e)▸Ag).symm.trans q;refine h _ {F with
  top:=F.Jr l7
  ns:=⟨m,Heap.Ns.Jo hm λo e=>(aJ.2 _<|Ne.symm (F.nB _ _ aD).2.2).trans e,λy j e Y ae ba=> ?_⟩
  cells:=λy j Y ae=> ?_
  lx:=λy Jt h=>if e:Jt=ca then e▸⟨_,DI⟩else(F.lx y Jt h).elim λu q=>⟨u,Ae aJ e q⟩
  ly:=F.Js aJ (DI.elim λo q=>⟨o,q.1,λ⟨B,cq,r⟩=>nomatch q.2.symm.trans r⟩)} (g.ci λb aj=>bT aj▸F.DG _ _ ao aD)
 ·have aQ:j≠i:=λq=>by
   obtain rfl:=F.inj _ _ _ (q▸ae) l7;exact nomatch ao.symm.trans Y
  exact(aR y j e Y ae<|(bI aQ).symm.trans ba).elim λu q=>⟨u,q.1,q.2.keep K⟩
 ·by_cases a8:y=x
  ·subst a8;obtain rfl:=br<|bu l7 ae;exact⟨ca,some v,aD,DI,λe he=>⟨v,rfl,(br ((bg rfl).symm.trans he)▸jE).keep K⟩⟩
  ·have aQ:j≠i:=λq=>a8<|F.inj _ _ _ (q▸ae) l7;exact(F.cells y j Y ae).elim λDJ q=>q.elim λu q=>⟨DJ,u,q.1,Ae aJ (λr=>a8<|F.apart _ _ _ (r▸q.1) aD) q.2.1,λe he=>(q.2.2 e<|(bI aQ).symm.trans he).elim λw r=>⟨w,r.1,r.2.keep K⟩⟩
def So{x:Str}(h:rN aL sc x=some i):(sc.lookup x=some .local\/sc.lookup x=some .cell\/sc.lookup x=some .free)/\aL.lookup x=some i:=by
 delta rN at h;cases q:sc.lookup x with
 |none=>rw[q]at h;exact bj h
 |some k=>
  rw[q]at h;cases k with
  |«local»=>exact⟨.inl rfl,h⟩
  |cell=>exact⟨.inr<|.inl rfl,h⟩
  |free=>exact⟨.inr<|.inr rfl,h⟩
  |_=>exact bj h
def dS.load{x:Str}{d:I}(F:dS c W aW aL sc aN s.heap M H)(ac:rN aL sc x=some i)(bC:H i=some d)(h:∀v,bb s.heap M v d->Q v s):wpAny (model c.prog c.w) A (loadName aN x) Q aB s:=by
 obtain⟨ao,l7⟩:=So ac;rcases ao with ao|ao
 ·obtain⟨m,hm,aR⟩:=F.ns;obtain⟨v,Y,ae⟩:=aR x i d ao l7 bC;exact wpAny_loadName_local F.kind ((F.kinds x _ ao).elim id λq=>nomatch q.1) hm Y<|h v ae
 ·obtain⟨ca,u,aD,ag,cS⟩:=F.cells x i ao l7;obtain⟨v,rfl,aH⟩:=cS d bC;rcases ao with ao|ao
  ·exact wpAny_loadName_cell F.kind ((F.kinds x _ ao).elim id λq=>q.2) aD ag<|h v aH
  ·exact(F.kinds x _ ao).elim (λoD=>wpAny_loadName_free F.kind oD aD ag (h v aH)<|F.nodict _ _ ao) λq=>wpAny_loadName_cell F.kind q.2 aD ag<|h v aH
def bb.au{d:I}(O:bJ c.w c.N c.au s.heap M C)(r:bb c.au [] v d):bb s.heap M v d:=r.keep ⟨⟨M,rfl⟩,λb o e B B B=>⟨O.keep _ _ e,λh=>bj<|(O.fR _ h).symm.trans e⟩⟩
def mO(h:Heap)(M:c6)(it:Addr)(cf:Option Nat)(cE:List I)(i:Nat):Prop:=
 (∃t vs,cf=none/\h.IsTupleIter it t i/\h.IsTuple t vs.toArray/\t∉foot M/\t≠it/\b7 h M vs cE)\/
 (∃k p,cf=some k/\M[k]? =some p/\h.IsListIter it p.1 i)\/
 (∃n:Int,cf=none/\cE=qw n/\n<16000000/\i<=n.toNat/\IsRangeIter h it i (n.toNat-i:Int) 1)
def mO.step{cE:List I}(bi:mO s.heap M it cf cE i)(hit:it∉foot M)(g:bX c W s M aY bt S)(hv:it∉W)(fL:nt s.heap W):mO aY.heap bt it cf cE i:=by
 have K:=g.tr.keep fL;have same:∀o,s.heap.get? it=some o->aY.heap.get? it=some o:=λo e=>g.tr.km _ _ e hit hv;rcases bi with⟨t,vs,e,⟨o,aA,r⟩,⟨mM,rW,ag,n,bC⟩,hn,f7,aV⟩|⟨k,p,e,ab,⟨o,aA,r⟩⟩|⟨n,e,aF,cS,dM,j2⟩
 ·have q:=K.ak t mM rW ag ⟨_,n,bC⟩ hn;exact .inl ⟨t,vs,e,⟨o,same _ aA,r⟩,⟨mM,q.1,ag,n,bC⟩,q.2,f7,aV.keep K⟩
 ·exact .inr<|.inl ⟨k,p,e,K.get ab,⟨o,same _ aA,r⟩⟩
 ·exact .inr<|.inr ⟨n,e,aF,cS,dM,same _ j2⟩
def Sp(n:Int)(i:Nat):(qw n)[i]? =if i<n.toNat then some (.int i)else none:=by
 refine nw.trans ?_;by_cases h:i<n.toNat
 ·exact V (List.getElem?_range h) (bg h).symm
 ·exact V (List.getElem?_eq_none<|a3 (cP tY)<|Nat.not_lt.mp h) (bI h).symm
def Sq{cE:List I}(h:hg C (some k) cE=true):C[k]? =some (.list cE):=by
 delta hg at h;dsimp only at h;cases an:C[k]?with
 |none=>rw[an]at h;exact b8 h
 |some o=>
  rw[an]at h;cases o with
  |list l=>exact ai (λl=>some<|b5.list l)<|dw h
  |_=>exact b8 h
theorem Ah{cE:List I}{Q:Option Value->Shared->Prop}(K:eo d A)(O:bJ c.w c.N c.au s.heap M C)(bi:mO s.heap M it cf cE i)(hit:it∉foot M/\c.au.get? it=none)(Ju:∃o,s.heap.get? it=some o/\¬∃dQ n,o.data=.seq dQ n)(hJ:hg C cf cE)(h:∀x v aY,cE[i]? =some x->bX c [it] s M aY M C->bb aY.heap M v x->mO aY.heap M it cf cE (i+1)->Q (some v) aY)(h0:∀aY,cE[i]? =none->bX c [it] s M aY M C->Q none aY):wpAny (model c.prog c.w) A (pyNext<|.ref it) Q aB s:=by
 have fL:∀o,s.heap.get? it=some o->o.cls=.type "tuple"->(∃dQ n,o.data=.seq dQ n)->False:=λo e B q=>Ju.elim λo' r=>r.2<|br (bu e r.1)▸q;have go:∀{aO} t,Heap.SameBut it s.heap aO->bX c [it] s M {s with heap:=aO,toks:=t} M C/\g5 s.heap M aO M:=λt aJ=>bX.cell O hit aJ fL;have jk:∀{aO},Heap.ExtBut it s.heap aO->bX c [it] s M {s with heap:=aO} M C:=λaJ=>(bX.ext (t:=s.toks) O hit (λb o e n=>aJ b o n e) fL).1
 clear fL Ju hit
 rcases bi with⟨t,vs,rfl,fG,aP,hn,f7,aV⟩|⟨k,p,rfl,ab,fG⟩|⟨n,rfl,rfl,hn,hle,fG⟩
 ·cases ac:cE[i]?with
  |some x=>obtain⟨v,aR,aH⟩:=aV.get ac;refine wpAny_pyNext_tuple_item fG aP (x:=v) (List.getElem?_toArray.trans aR) λaO xT aJ=> ?_;obtain⟨mM,rW,r⟩:=aP;exact h x v _ ac (go s.toks aJ).1 (aH.keep (go s.toks aJ).2)<|.inl ⟨t,vs,rfl,xT,⟨mM,(aJ.2 _ f7).trans rW,r⟩,hn,f7,aV.keep (go s.toks aJ).2⟩
  |none=>exact wpAny_pyNext_tuple_end K.handled fG aP (List.getElem?_toArray.trans<|List.getElem?_eq_none<|V aV.length<|List.getElem?_eq_none_iff.mp ac) λaO aJ=>h0 _ ac<|jk aJ
 ·obtain⟨qC,vs,n,pD,aR,lw,aA,bf,fs,aF⟩:=bJ.list O (Sq hJ)<|bb.L ab;obtain rfl:=br<|bu ab pD;have xH:s.heap.IsList p.1 vs:=⟨_,aA,rfl,n,rfl⟩;cases ac:cE[i]?with
  |some x=>obtain⟨v,aR,aH⟩:=bf.get ac;exact wpAny_pyNext_list_item fG xH (x:=v) (bu Array.getElem?_toList aR) λaO xT aJ=>h x v _ ac (go s.toks aJ).1 (aH.keep (go s.toks aJ).2)<|.inr<|.inl ⟨k,p,rfl,ab,xT⟩
  |none=>exact wpAny_pyNext_list_end K.handled fG xH (Array.getElem?_eq_none<|V aF<|List.getElem?_eq_none_iff.mp ac) λaO aJ=>h0 _ ac<|jk aJ
 ·rw[Sp]at h h0;by_cases ah:i<n.toNat
  ·rw[bg ah]at h;refine wpAny_pyNext_range_item fG (by lia) λaO xT aJ=> ?_;refine h _ _ _ rfl (go (s.toks+1) aJ).1 (.int _ _)<|.inr<|.inr ⟨n,rfl,rfl,hn,ah,?_⟩;exact(show(n.toNat-i:Int)-1=n.toNat-((i+1:Nat):Int) by lia)▸xT
  ·rw[bI ah]at h0;exact wpAny_pyNext_range_end K.handled fG (by lia) λaO aJ=>h0 _ rfl<|jk aJ
def Sr(O:bJ c.w c.N c.au s.heap M C)(b9:bb s.heap M a x)(e:nk C x=some (l,cf))(h:∀aY it,bX c [] s M aY M C->s.heap.get? it=none->it∉foot M->c.au.get? it=none->(∃o,aY.heap.get? it=some o/\¬∃dQ n,o.data=.seq dQ n)->mO aY.heap M it cf l 0->Q (.ref it) aY):wpAny (model c.prog c.w) A (pyIter a) Q aB s:=by
 have d8:=rV s.heap;obtain⟨l8,nb⟩:=O.tP d8;refine xF e (λl ac e'=> ?_) λo l ac an e'=> ?_
 ·clear e;subst ac
  obtain⟨rfl,rfl⟩:=dC e';obtain⟨gv,vs,rfl,jD,n2,d3,bf,aF⟩:=b9.oz;have g:=bX.push (W:=[]) O {cls:=.type "tuple_iterator",data:=.fields #[.ref gv,.int 0 0]} s.toks;exact wpAny_pyIter_tuple jD<|h _ _ g d8 l8 nb ⟨_,Heap.get?_push_size _ rfl,λ⟨B,cq,q⟩=>nomatch q⟩<|.inl ⟨gv,vs,rfl,⟨_,Heap.get?_push_size _ rfl,rfl,rfl⟩,jD.elim λo q=>⟨o,Heap.get?_push_of_some _ q.1,q.2⟩,n2,λq=>jD.elim λo r=>bj<|bu d8<|q▸r.1,bf.keep g.keep⟩
 ·clear e;subst ac
  obtain⟨rfl,rfl⟩:=dC e';obtain⟨p,vs,n,ab,rfl,lw,aA,bf,fs,aF⟩:=bJ.list O an b9;have g:=bX.push (W:=[]) O {cls:=.type "list_iterator",data:=.fields #[.ref p.1,.int 0 0]} s.toks;exact wpAny_pyIter_list (items:=vs) ⟨_,aA,rfl,n,rfl⟩<|h _ _ g d8 l8 nb ⟨_,Heap.get?_push_size _ rfl,λ⟨B,cq,q⟩=>nomatch q⟩<|.inr<|.inl ⟨o,p,rfl,ab,⟨_,Heap.get?_push_size _ rfl,rfl,rfl⟩⟩
end
end
section
noncomputable def t1:vl->Value
 |.len=>.builtin "len"
 |.tuple=>.type "tuple"
 |.sorted=>.builtin "sorted"
 |.all=>.builtin "all"
 |.range=>.type "range"
structure fY(c:Ctx)(P:jy)(G:gS)(K:Frag)(cV:Nat->Addr)(ei e4:Str->Option Value):Prop where
 cls:Aa c K P.b1
 fr:∀x k,G.xr x=some k->c.N.fr.idxOf? x=some k
 DK:c.N.fr.length<=1000
 sys:∃o,c.au.get? sysModules=some o
 lim:c.au.NoLimit
 g:c.au.Ns mainGlobals ei
 b:c.au.Ns builtinsNs e4
 Jv:∀x v,G.gl x=some (.val v)->∃u,ei x=some u/\bb c.au [] u v
 Jw:∀x f,G.gl x=some (.fn f)->ei x=some (.ref<|cV f)
 Jx:∀x k,G.gl x=some (.cls k)->∃aI,c.N.ca[k]? =some aI/\ei x=some (.ref aI)
 DL:∀x b,G.gl x=some (.cw b)->ei x=none/\e4 x=some (t1 b)
 Jy:∀x g,G.gl x=some g->(x==("__debug__":Str))=false/\(x==("super":Str))=false
 DM:∀f fn,P.px[f]? =some fn->keepIn K (.ref<|cV f)=true
 Jz:∀(k:Nat) (aI:Addr),c.N.ca[k]? =some aI->keepIn K (.ref aI)=true
 JA:∀k m f (x:Str) (aI:Addr),P.b1 k m=some f->c.N.fr.idxOf? x=some m->c.N.ca[k]? =some aI->findIn K (.ref aI) x=some (some<|.ref<|cV f)/\isFn K (.ref<|cV f)=true
 JB:c.N.fr.idxOf? (aa "append")=some py
 JC:c.N.fr.idxOf? (aa "pop")=some rL
 JD:c.N.fr.idxOf? (aa "extend")=some xn
 DN:c.N.fr.idxOf? (aa "get")=some zA
structure r3(c:Ctx)(P:jy)(cV:Nat->Addr)(O:ht)(d:Nat):Prop where
 b1:O.b1=P.b1
 fn:∀f args C z S,O.fn f args C=some (z,S)->(∃fn,P.px[f]? =some fn)/\
  ∀(A:Around) (aB:Value->Shared->Prop) (s:Shared) (M:c6) (vs:List Value) (Q:Value->Shared->Prop),eo d A->bJ c.w c.N c.au s.heap M C->b7 s.heap M vs args->eO c s M S z Q->wpAny (model c.prog c.w) A (call (.ref<|cV f) vs) Q aB s
 make:∀k args C z S (aI:Addr),O.make k args C=some (z,S)->c.N.ca[k]? =some aI->
  ∀(A:Around) (aB:Value->Shared->Prop) (s:Shared) (M:c6) (vs:List Value) (Q:Value->Shared->Prop),eo d A->bJ c.w c.N c.au s.heap M C->b7 s.heap M vs args->eO c s M S z Q->wpAny (model c.prog c.w) A (call (.ref aI) vs) Q aB s
section
variable{P:jy}{G:gS}
def dv(c:Ctx)(G:gS)(O:ht)(d:Nat)(e:Expr):Prop:=
 ∀(W:List Addr) (aW:Nat) (aL:jz) (sc:Sc) (aN:Env) (A:Around) (aB:Value->Shared->Prop) (s:Shared) (M:c6) (H:bS) (C S:St) (z:I) (dx:b2) (Q:Value->Shared->Prop),
  c9 G aL aW sc e=some dx->bq O dx H C=some (z,S)->eo d A->dS c W aW aL sc aN s.heap M H->bJ c.w c.N c.au s.heap M C->eO c s M S z Q->wpAny (model c.prog c.w) A (eval e aN) Q aB s
def hy(c:Ctx)(G:gS)(O:ht)(d:Nat)(e:Expr):Prop:=
 ∀(W:List Addr) (aW:Nat) (aL:jz) (sc:Sc) (aN:Env) (A:Around) (aB:Value->Shared->Prop) (s:Shared) (M:c6) (H:bS) (C S:St) (z:I) (t:Bool) (dx:b2) (Q:Bool->Shared->Prop),
  c9 G aL aW sc e=some dx->bq O dx H C=some (z,S)->g4 S z=some t->eo d A->dS c W aW aL sc aN s.heap M H->bJ c.w c.N c.au s.heap M C->(∀aY bt,bX c [] s M aY bt S->Q t aY)->wpAny (model c.prog c.w) A (isTrue e aN<|eval e aN) Q aB s
variable{x:I}{a b:Value}
def eO.gL(g:bX c [] s M aY bt aw)(h:eO c s M S z Q):eO c aY bt S z Q:=λzX tI v eP r=>h zX tI v (g.trans eP) r
def DO{e:Expr}(h:c9 G aL aW sc e=some dx)(rest:List Expr)(aN:Env):starEach (e::rest) aN=(false,eval e aN)::starEach rest aN:=by
 cases e<;>first|rfl|contradiction
def Ai{ax:List Expr}:∀{qK:List b2},hR G aL aW sc ax=some qK->∀pos,(backTo pos<|starEach ax aN).all (λx=> !x.1)=true:=by
 induction ax with
 |nil=>exactλB B=>rfl
 |cons e ax ay=>exactλh pos=>bW h λm hm h=>dt h λms eQ B=>V (DO hm _ _)<|ay eQ pos
def DP(T:fY c P G K cV ei e4){ax:List Expr}:(∀e∈ax,dv c G O d e)->∀{qK:List b2} {zs:List I} {s:Shared} {M:c6} {C S:St} (pos:Pos) {R:List Value->Shared->Prop},hR G aL aW sc ax=some qK->iX O qK H C=some (zs,S)->eo d A->
  dS c W aW aL sc aN s.heap M H->bJ c.w c.N c.au s.heap M C->(∀aY bt vs,bX c [] s M aY bt S->b7 aY.heap bt vs zs->R vs aY)->wpAny (model c.prog c.w) A (spliced<|backTo pos<|starEach ax aN) R aB s:=by
 induction ax with
 |nil=>intro _ qK zs s M C S pos R h e aX F db fl;obtain rfl:=br h;obtain⟨rfl,rfl⟩:=dC e;exact Calls.spliced_nil<|fl _ _ _ (.refl db) .nil
 |cons aD ax ay=>intro l9 qK zs s M C S pos R h e aX F db fl;refine bW h λes ey h=>dt h λms eQ bM=> ?_;subst bM;refine c0 e λfb aw DQ e=>c0 e λSs bn Su e=> ?_;obtain⟨rfl,rfl⟩:=dC e;exact V (DO ey _ _)<|Calls.spliced_cons<|l9 aD bp _ _ _ _ _ _ _ _ _ _ _ _ _ _ _ ey DQ aX F db λbe dN ez g1 bh=>ay (λe he=>l9 e<|bQ _ he) pos eQ Su aX (F.step g1) g1.ok λaY bt vs bd bf=>fl aY bt _ (g1.trans bd)<|.cons (bh.keep bd.keep) bf
def Sv{l:List (Bool×Sem Value)}(h:l.all (λx=> !x.1)=true):l.any (·.1)=false:=List.any_eq_false.mpr λx ac=>mJ.mp<|(oC _).mp<|hh h x ac
def t2(T:fY c P G K cV ei e4){ax:List Expr}(l9:∀e∈ax,dv c G O d e){qK:List b2}{f:Value}{pos:Pos}(h:hR G aL aW sc ax=some qK)(e:iX O qK H C=some (zs,S))(aX:eo d A)(F:dS c W aW aL sc aN s.heap M H)(bV:bJ c.w c.N c.au s.heap M C)(ao:∀h,(∀b o,c.au.get? b=some o->h.get? b=some o)->∃k,(k=Keeper.frame\/k=Keeper.machine\/k=Keeper.boundFrame)/\Looks (model c.prog c.w) h (keeperOf f) k)(fl:∀aY bt vs,bX c [] s M aY bt S->b7 aY.heap bt vs zs->wpAny (model c.prog c.w) A (call f<|first++vs) Q aB aY):wpAny (model c.prog c.w) A (callWith pos f first (backTo pos<|starEach ax aN)<|backToKw pos<|keywordEach [] aN) Q aB s:=by
 have ba:=DP (A:=A) (aB:=aB) T l9 pos (R:=λvs aY=>(∀b o,c.au.get? b=some o->aY.heap.get? b=some o)/\wpAny (model c.prog c.w) A (call f<|first++vs) Q aB aY) h e aX F bV λaY bt vs g r=>⟨g.ok.keep,fl aY bt vs g r⟩;show wpAny _ _ (callWith pos f first (backTo pos<|starEach ax aN) []) _ _ _;refine callWith_of (P:=λh=>∀b o,c.au.get? b=some o->h.get? b=some o) (V (Sv<|Ai h pos) rfl) ao ?_;cases ax with
 |nil=>obtain rfl:=br h;obtain⟨rfl,rfl⟩:=dC e;exact evalArgs_nil3 ⟨bV.keep,fl _ _ _ (.refl bV) .nil⟩
 |cons aD ax=>have qL:starEach (aD::ax) aN=(false,eval aD aN)::starEach ax aN:=bW h λes ey B=>DO ey _ _;rw[qL]at ba⊢;exact Calls.evalArgs_plain ba
end
end
section
section
variable{P:jy}{G:gS}
variable{x:I}{a b:Value}
def Sw{ax:List Expr}:∀{ms:List b2},hR G aL aW sc ax=some ms->ms.length=ax.length:=by
 induction ax with
 |nil=>exactλh=>br h▸rfl
 |cons e ax ay=>exactλh=>bW h λes ey h=>dt h λqM j3 bM=>bM▸ai (·+1) (ay j3)
def Sx:∀{zs:List I} {C S:St},iX O ms H C=some (zs,S)->zs.length=ms.length:=by
 induction ms with
 |nil=>exactλh=>(dC h).1▸rfl
 |cons e ax ay=>exactλh=>c0 h λfb aw Y h=>c0 h λSs bn ae h=>(dC h).1▸ai (·+1) (ay ae)
def Sy(bK:PySem.Const)(k:Nat)(pos:Pos):dv c G O d (.Constant bK k pos):=by
 intro W aW aL sc aN A aB s M H C S z dx Q ag he aX F db h;refine dt ag λp ab bM=> ?_;subst bM;obtain⟨rfl,rfl⟩:=dC he
 clear ag he
 cases bK with
 |none=>exact wpAny_Constant_none<|h _ M _ (.refl db)<|br ab▸.none
 |bool b=>exact wpAny_Constant_bool<|h _ M _ (.refl db)<|br ab▸.bool _
 |int i=>exact wpAny_Constant_int<|h _ M _ (.jA db _)<|br ab▸.int _ _
 |str x=>exact wpAny_Constant_str<|h _ M _ (.jA db _)<|br ab▸.str _ _
 |_=>exact bj ab
def Sz(c:Ctx)(cV:Nat->Addr)(h:Heap)(M:c6)(v:Value):nl->Prop
 |.val d=>bb h M v d
 |.fn f=>v=.ref (cV f)
 |.cls k=>∃aI:Addr,c.N.ca[k]? =some aI/\v=.ref aI
 |.cw b=>v=t1 b
 |.qx=>False
def SA{x:Str}{g:nl}(h:no G sc x=some g):sc.lookup x=some .globalImplicit/\G.gl x=some g:=by
 delta no at h;cases q:sc.lookup x with
 |none=>rw[q]at h;exact bj h
 |some k=>
  rw[q]at h;cases k with
  |globalImplicit=>exact⟨rfl,h⟩
  |_=>exact bj h
def xU{x:Str}{g:nl}{pos:Pos}(T:fY c P G K cV ei e4)(F:dS c W aW aL sc aN s.heap M H)(db:bJ c.w c.N c.au s.heap M C)(ac:no G sc x=some g)(aP:g≠.qx)(h:∀v,Sz c cV s.heap M v g->Q v s):wpAny (model c.prog c.w) A (eval (.Name x pos) aN) Q aB s:=by
 obtain⟨ao,ac⟩:=SA ac;have bB:s.heap.Ns aN.globals ei:=V F.glob<|T.g.keeps db.keep;refine Calls.Name_function_global F.kind ((F.kinds x _ ao).elim id λq=>nomatch q.1) ?_ (T.Jy x g ac).1;cases g with
 |val d=>exact(T.Jv x d ac).elim λu q=>Calls.loadGlobal_global bB q.1<|h _<|q.2.au db
 |fn f=>exact Calls.loadGlobal_global bB (T.Jw x f ac)<|h _ rfl
 |cls k=>exact(T.Jx x k ac).elim λaI q=>Calls.loadGlobal_global bB q.2<|h _ ⟨aI,q.1,rfl⟩
 |cw b=>exact Calls.loadGlobal_builtin bB (T.DL x b ac).1 (show s.heap.Ns aN.builtins e4 from V F.blt<|T.b.keeps db.keep) (T.DL x b ac).2<|h _ rfl
 |qx=>exact absurd rfl aP
def SB(T:fY c P G K cV ei e4)(x:Str)(pos:Pos):dv c G O d (.Name x pos):=by
 intro W aW aL sc aN A aB s M H C S z dx Q ag he aX F db h;refine vt ag λSC ag=> ?_;cases ah:rN aL sc x with
 |some i=>rw[ah]at ag;obtain rfl:=br ag;refine dt he λp ab he=> ?_;obtain⟨rfl,rfl⟩:=kQ he;exact wpAny_Name (F.load ah ab λv aR=>h _ M v (.refl db) aR)<|mJ.mpr SC
 |none=>
  rw[ah]at ag;cases ab:no G sc x with
  |none=>rw[ab]at ag;exact bj ag
  |some g=>
   rw[ab]at ag;cases g with
   |val p=>obtain rfl:=br ag;obtain⟨rfl,rfl⟩:=dC he;exact xU T F db ab nofun λv aR=>h _ M v (.refl db) aR
   |_=>exact bj ag
def SD(T:fY c P G K cV ei e4){l r:Expr}(o:Operator)(pos:Pos)(j4:dv c G O d l)(qN:dv c G O d r):dv c G O d (.BinOp l o r pos):=by intro W aW aL sc aN A aB s M H C S z dx Q ag he aX F db h;refine bW ag λes ey ag=> ?_;refine bW ag λcU hS ag=> ?_;refine dt ag λop i3 bM=> ?_;subst bM;refine c0 he λfb aw Y he=> ?_;refine c0 he λoI bn ae he=> ?_;refine wpAny_BinOp<|j4 _ _ _ _ _ _ _ _ _ _ _ _ _ _ _ ey Y aX F db λbe dN ez g1 bh=>qN _ _ _ _ _ _ _ _ _ _ _ _ _ _ _ hS ae aX (F.step g1) g1.ok λbF ft ee bd bf=> ?_;exact Q2 aX bd.ok (bh.keep bd.keep) bf he i3<|(eO.gL g1 h).gL bd
def Aj{β:Type}{f:Int->Option β}{r:β}(e:(match x with|.int i=>f i|_=>none)=some r)(k:∀i,x=.int i->f i=some r->R):R:=by
 cases x with
 |int i=>exact k i rfl e
 |_=>exact bj e
def JE(T:fY c P G K cV ei e4){x:Expr}(o:UnaryOp)(pos:Pos)(Ix:dv c G O d x):dv c G O d (.UnaryOp o x pos):=by
 intro W aW aL sc aN A aB s M H C S z dx Q ag he aX F db h;refine bW ag λes ey ag=> ?_;cases o with
 |Invert=>obtain rfl:=br ag;refine c0 he λfb aw Y he=>Aj he λi ah he=> ?_;obtain⟨rfl,rfl⟩:=dC he;exact UnaryOp_<|Ix _ _ _ _ _ _ _ _ _ _ _ _ _ _ _ ey Y aX F db λbe dN ez g1 bh=>Q4 g1.ok (ah▸bh)<|eO.gL g1 h
 |Not=>obtain rfl:=br ag;refine c0 he λfb aw Y he=>bW he λt aP he=> ?_;obtain⟨rfl,rfl⟩:=dC he;exact UnaryOp_<|Ix _ _ _ _ _ _ _ _ _ _ _ _ _ _ _ ey Y aX F db λbe dN ez g1 bh=>Q5 g1.ok bh aP<|eO.gL g1 h
 |USub=>obtain rfl:=br ag;refine c0 he λfb aw Y he=>Aj he λi ah he=> ?_;obtain⟨rfl,rfl⟩:=dC he;exact UnaryOp_<|Ix _ _ _ _ _ _ _ _ _ _ _ _ _ _ _ ey Y aX F db λbe dN ez g1 bh=>Q3 g1.ok (ah▸bh)<|eO.gL g1 h
 |_=>exact bj ag
def SE(T:fY c P G K cV ei e4){t b o:Expr}(pos:Pos)(vM:hy c G O d t)(lz:dv c G O d b)(pM:dv c G O d o):dv c G O d (.IfExp t b o pos):=by
 intro W aW aL sc aN A aB s M H C S z dx Q ag he aX F db h;refine bW ag λes ey ag=> ?_;refine bW ag λcU hS ag=> ?_;refine dt ag λbl qO bM=> ?_;subst bM;refine c0 he λfb aw Y he=> ?_;refine bW he λtt aP he=> ?_;refine IfExp_<|vM _ _ _ _ _ _ _ _ _ _ _ _ _ _ _ _ ey Y aP aX F db λbe dN g1=> ?_;cases tt with
 |true=>exact lz _ _ _ _ _ _ _ _ _ _ _ _ _ _ _ hS he aX (F.step g1) g1.ok<|eO.gL g1 h
 |false=>exact pM _ _ _ _ _ _ _ _ _ _ _ _ _ _ _ qO he aX (F.step g1) g1.ok<|eO.gL g1 h
def SF(pos:Pos):dv c G O d (.Dict [] [] pos):=by intro W aW aL sc aN A aB s M H C S z dx Q ag he aX F db h;cases ag;cases he;refine wpAny_Dict_empty (h _ (M++[(s.heap.objs.size,none)]) _ (bX.new (t:=s.toks) db rfl λdR=>⟨rfl,#[],0,Heap.get?_push_size _ rfl,.nil,.nil,by simp⟩)<|bb.last (p:=(s.heap.objs.size,none)) db)
def gb{ax:List Expr}(h:hR G aL aW sc ax=some ms)(e:iX O ms H C=some (zs,S))(an:ax.length<1000):zs.length<=16000000:=a3 (hj<|c1 (cP<|(Sx e).trans<|Sw h) an) (by decide)
def SG(T:fY c P G K cV ei e4){ax:List Expr}(k:Nat)(pos:Pos)(bi:∀e∈ax,dv c G O d e):dv c G O d (.Tuple ax k pos):=by intro W aW aL sc aN A aB s M H C S z dx Q ag he aX F db h;refine d1 ag λhlen ag=>dt ag λms eQ bM=> ?_;subst bM;refine c0 he λzs aw Y he=> ?_;obtain⟨rfl,rfl⟩:=dC he;rw[arm_eval_Tuple];refine wpAny_bind<|wpAny_standAt<|wpAny_bind<|DP T bi pos eQ Y aX F db λbe dN vs g1 bh=> ?_;have N:=zZ (W:=[]) g1.ok bh (gb eQ Y hlen) be.toks 0 rfl;exact wpAny_newTuple (h _ _ _ (g1.trans N.1) N.2)<|V bh.length<|a3 (gb eQ Y hlen) j0
def SH(T:fY c P G K cV ei e4){ax:List Expr}(pos:Pos)(bi:∀e∈ax,dv c G O d e):dv c G O d (.List ax pos):=by intro W aW aL sc aN A aB s M H C S z dx Q ag he aX F db h;refine d1 ag λhlen ag=>dt ag λms eQ bM=> ?_;subst bM;refine c0 he λzs aw Y he=> ?_;obtain⟨rfl,rfl⟩:=dC he;refine V (arm_eval_List _ _ _)<|wpAny_bind<|wpAny_standAt<|wpAny_bind<|DP T bi pos eQ Y aX F db λbe dN vs g1 bh=> ?_;have N:=Dn (W:=[]) g1.ok bh (gb eQ Y hlen) be.toks 0 rfl;exact wpAny_newList (h _ _ _ (g1.trans N.1) N.2)<|V bh.length<|a3 (gb eQ Y hlen) j0
def DR{e:Expr}(op:CmpOp)(h:c9 G aL aW sc e=some dx):behindInMarks op e=false:=by
 cases e<;>first|rfl|contradiction
def SI(T:fY c P G K cV ei e4){l r:Expr}(o:CmpOp)(pos:Pos)(j4:dv c G O d l)(qN:dv c G O d r):dv c G O d (.Compare l [o] [r] pos):=by intro W aW aL sc aN A aB s M H C S z dx Q ag he aX F db h;refine bW ag λes ey ag=> ?_;refine bW ag λcU hS ag=> ?_;refine dt ag λop i3 bM=> ?_;subst bM;refine c0 he λfb aw Y he=> ?_;refine c0 he λoI bn ae he=> ?_;refine bW he λt aP he=> ?_;cases he;refine wpAny_Compare1 (j4 _ _ _ _ _ _ _ _ _ _ _ _ _ _ _ ey Y aX F db λbe dN ez g1 bh=>qN _ _ _ _ _ _ _ _ _ _ _ _ _ _ _ hS ae aX (F.step g1) g1.ok λbF ft ee bd bf=> ?_)<|DR o hS;exact vD T.sys aX bd.ok (bh.keep bd.keep) bf aP i3<|(eO.gL g1 h).gL bd
def SJ(T:fY c P G K cV ei e4){l r:Expr}(o:CmpOp)(pos:Pos)(j4:dv c G O d l)(qN:dv c G O d r):hy c G O d (.Compare l [o] [r] pos):=by intro W aW aL sc aN A aB s M H C S z t dx Q ag he j5 aX F db h;refine bW ag λes ey ag=> ?_;refine bW ag λcU hS ag=> ?_;refine dt ag λop i3 bM=> ?_;subst bM;refine c0 he λfb aw Y he=> ?_;refine c0 he λoI bn ae he=> ?_;refine bW he λib aP he=> ?_;cases he;refine wpAny_isTrue_Compare1 (j4 _ _ _ _ _ _ _ _ _ _ _ _ _ _ _ ey Y aX F db λbe dN ez g1 bh=>qN _ _ _ _ _ _ _ _ _ _ _ _ _ _ _ hS ae aX (F.step g1) g1.ok λbF ft ee bd bf=> ?_)<|DR o hS;exact vD T.sys aX bd.ok (bh.keep bd.keep) bf aP i3 λs3 iJ oJ cQ eA=>tR cQ.ok eA j5 λs4 k1 eu=>h s4 k1<|((g1.trans bd).trans cQ).trans eu
def JF{aD aF:Expr}{es cU:b2}(gT gD:CmpOp)(Y:c9 G aL aW sc aD=some es)(ae:c9 G aL aW sc aF=some cU):lastMarks [gT,gD] [aD,aF]=false:=by simp only[lastMarks];exact DR gD ae
def SK(T:fY c P G K cV ei e4){l r q:Expr}(gT gD:CmpOp)(pos:Pos)(j4:dv c G O d l)(qN:dv c G O d r)(DS:dv c G O d q):dv c G O d (.Compare l [gT,gD] [r,q] pos):=by
 intro W aW aL sc aN A aB s M H C S z dx Q ag he aX F db h;refine bW ag λes ey ag=> ?_;refine bW ag λcU hS ag=> ?_;refine bW ag λbl qO ag=> ?_;refine bW ag λog DT ag=> ?_;refine dt ag λng DU bM=> ?_;subst bM;refine c0 he λfb aw Y he=> ?_;refine c0 he λoI bn ae he=> ?_;refine bW he λt aP he=> ?_;refine Compare_chain (j4 _ _ _ _ _ _ _ _ _ _ _ _ _ _ _ ey Y aX F db λbe dN ez g1 bh=> ?_)<|JF gT gD hS qO;refine chain_link<|qN _ _ _ _ _ _ _ _ _ _ _ _ _ _ _ hS ae aX (F.step g1) g1.ok λbF ft ee bd bf=> ?_;refine vD T.sys aX bd.ok (bh.keep bd.keep) bf aP DT λs3 iJ oJ cQ eA=>tR cQ.ok eA (t:=t) rfl λs4 k1 eu=> ?_;cases t with
 |false=>
  cases he;exact h s4 k1 oJ (((g1.trans bd).trans cQ).trans eu)<|eA.keep eu.keep
 |true=>simp only[if_true]at he⊢;refine c0 he λvN cA ba he=> ?_;refine bW he λhK DV he=> ?_;cases he;refine chain_last<|DS _ _ _ _ _ _ _ _ _ _ _ _ _ _ _ qO ba aX ((((F.step g1).step bd).step cQ).step eu) eu.ok λs5 DW SL i5 xV=> ?_;exact vD T.sys aX i5.ok (((bf.keep cQ.keep).keep eu.keep).keep i5.keep) xV DV DU<|((((eO.gL g1 h).gL bd).gL cQ).gL eu).gL i5
def SM(T:fY c P G K cV ei e4){l r q:Expr}(gT gD:CmpOp)(pos:Pos)(j4:dv c G O d l)(qN:dv c G O d r)(DS:dv c G O d q):hy c G O d (.Compare l [gT,gD] [r,q] pos):=by
 intro W aW aL sc aN A aB s M H C S z tt dx Q ag he j5 aX F db h;refine bW ag λes ey ag=> ?_;refine bW ag λcU hS ag=> ?_;refine bW ag λbl qO ag=> ?_;refine bW ag λog DT ag=> ?_;refine dt ag λng DU bM=> ?_;subst bM;refine c0 he λfb aw Y he=> ?_;refine c0 he λoI bn ae he=> ?_;refine bW he λt aP he=> ?_;refine isTrue_chain (j4 _ _ _ _ _ _ _ _ _ _ _ _ _ _ _ ey Y aX F db λbe dN ez g1 bh=> ?_)<|JF gT gD hS qO;refine test_link<|qN _ _ _ _ _ _ _ _ _ _ _ _ _ _ _ hS ae aX (F.step g1) g1.ok λbF ft ee bd bf=> ?_;refine vD T.sys aX bd.ok (bh.keep bd.keep) bf aP DT λs3 iJ oJ cQ eA=>tR cQ.ok eA (t:=t) rfl λs4 k1 eu=> ?_;cases t with
 |false=>
  cases he;cases j5;exact h s4 k1<|((g1.trans bd).trans cQ).trans eu
 |true=>simp only[if_true]at he⊢;refine c0 he λvN cA ba he=> ?_;refine bW he λhK DV he=> ?_;cases he;refine test_last<|DS _ _ _ _ _ _ _ _ _ _ _ _ _ _ _ qO ba aX ((((F.step g1).step bd).step cQ).step eu) eu.ok λs5 DW SL i5 xV=> ?_;exact vD T.sys aX i5.ok (((bf.keep cQ.keep).keep eu.keep).keep i5.keep) xV DV DU λpN acC v6 r4 jF=>tR r4.ok jF j5 λAk SN DX=>h Ak SN<|(((((g1.trans bd).trans cQ).trans eu).trans i5).trans r4).trans DX
def SO(T:fY c P G K cV ei e4)(op:BoolOp)(pos:Pos){vs:List Expr}:(∀e∈vs,dv c G O d e)->dv c G O d (.BoolOp op vs pos):=by
 induction vs with
 |nil=>intro _ W aW aL sc aN A aB s M H C S z dx Q ag;exact bj ag
 |cons aD ax l9=>
  intro bi W aW aL sc aN A aB s M H C S z dx Q ag he aX F db h;cases ax with
  |nil=>refine bW ag λms eQ ag=>bW eQ λes ey eQ=> ?_;obtain rfl:=br eQ;obtain rfl:=br ag;exact BoolOp_one<|bi aD bp _ _ _ _ _ _ _ _ _ _ _ _ _ _ _ ey he aX F db h
  |cons aF ax=>
   have l9:=l9 λe he=>bi e<|bQ _ he;refine bW ag λms eQ ag=>bW eQ λes ey eQ=>dt eQ λqM j3 bM=> ?_;subst bM;refine bW j3 λcU hS aC=>dt aC λJG B bM=> ?_;subst bM
   clear aC hS eQ
   refine dt ag λDY xW bM=> ?_;have t3:c9 G aL aW sc (.BoolOp op (aF::ax) pos)=some DY:=cF j3 xW;subst bM
   clear ag j3 xW
   cases op with
   |And=>
    refine c0 he λfb aw Y he=>bW he λt aP he=> ?_;refine BoolOp_and<|bi aD bp _ _ _ _ _ _ _ _ _ _ _ _ _ _ _ ey Y aX F db λbe dN ez g1 bh=>tR g1.ok bh aP λbF ft bd=> ?_;cases t with
    |true=>exact l9 _ _ _ _ _ _ _ _ _ _ _ _ _ _ _ t3 he aX ((F.step g1).step bd) bd.ok<|(eO.gL g1 h).gL bd
    |false=>exact h bF ft ez ((dC he).2▸g1.trans bd)<|(dC he).1▸bh.keep bd.keep
   |Or=>
    refine c0 he λfb aw Y he=>bW he λt aP he=> ?_;refine BoolOp_or<|bi aD bp _ _ _ _ _ _ _ _ _ _ _ _ _ _ _ ey Y aX F db λbe dN ez g1 bh=>tR g1.ok bh aP λbF ft bd=> ?_;cases t with
    |false=>exact l9 _ _ _ _ _ _ _ _ _ _ _ _ _ _ _ t3 he aX ((F.step g1).step bd) bd.ok<|(eO.gL g1 h).gL bd
    |true=>exact h bF ft ez ((dC he).2▸g1.trans bd)<|(dC he).1▸bh.keep bd.keep
def DZ(c:Ctx)(G:gS)(O:ht)(d:Nat)(e:Expr):Prop:=
 ∀(W:List Addr) (aW:Nat) (aL:jz) (sc:Sc) (aN:Env) (A:Around) (aB:Value->Shared->Prop) (s:Shared) (M:c6) (H:bS) (C S:St) (z:I) (t:Bool) (dx:b2) (Q:Bool->Shared->Prop) (eY:Sem Value),
  c9 G aL aW sc e=some dx->bq O dx H C=some (z,S)->g4 S z=some t->eo d A->dS c W aW aL sc aN s.heap M H->bJ c.w c.N c.au s.heap M C->(∀aY bt,bX c [] s M aY bt S->Q t aY)->wpAny (model c.prog c.w) A (isTrue e aN eY) Q aB s
def SP(T:fY c P G K cV ei e4)(op:BoolOp)(pos:Pos){vs:List Expr}:(∀e∈vs,hy c G O d e)->DZ c G O d (.BoolOp op vs pos):=by
 induction vs with
 |nil=>intro _ W aW aL sc aN A aB s M H C S z t dx Q eY ag;exact bj ag
 |cons aD ax l9=>
  intro bi W aW aL sc aN A aB s M H C S z t0 dx Q eY ag he j5 aX F db h;cases ax with
  |nil=>
   refine bW ag λms eQ ag=>bW eQ λes ey eQ=> ?_;obtain rfl:=br eQ;obtain rfl:=br ag;cases op with
   |And=>
    refine isTrue_and<|bi aD bp _ _ _ _ _ _ _ _ _ _ _ _ _ _ _ _ ey he j5 aX F db λbe dN g1=> ?_;cases t0 with
    |true=>exact isTrue_and_nil<|h _ _ g1
    |false=>exact h _ _ g1
   |Or=>
    refine isTrue_or<|bi aD bp _ _ _ _ _ _ _ _ _ _ _ _ _ _ _ _ ey he j5 aX F db λbe dN g1=> ?_;cases t0 with
    |false=>exact isTrue_or_nil<|h _ _ g1
    |true=>exact h _ _ g1
  |cons aF ax=>
   have l9:=l9 λe he=>bi e<|bQ _ he;refine bW ag λms eQ ag=>bW eQ λes ey eQ=>dt eQ λqM j3 bM=> ?_;subst bM;refine bW j3 λcU hS aC=>dt aC λJG B bM=> ?_;subst bM
   clear aC hS eQ
   refine dt ag λDY xW bM=> ?_;have t3:c9 G aL aW sc (.BoolOp op (aF::ax) pos)=some DY:=cF j3 xW;subst bM
   clear ag j3 xW
   cases op with
   |And=>
    refine c0 he λfb aw Y he=>bW he λt aP he=> ?_;refine isTrue_and<|bi aD bp _ _ _ _ _ _ _ _ _ _ _ _ _ _ _ _ ey Y aP aX F db λbe dN g1=> ?_;cases t with
    |true=>exact l9 _ _ _ _ _ _ _ _ _ _ _ _ _ _ _ _ _ t3 he j5 aX (F.step g1) g1.ok λbF ft bd=>h _ _<|g1.trans bd
    |false=>obtain⟨rfl,rfl⟩:=dC he;obtain rfl:=br<|bu aP j5;exact h _ _ g1
   |Or=>
    refine c0 he λfb aw Y he=>bW he λt aP he=> ?_;refine isTrue_or<|bi aD bp _ _ _ _ _ _ _ _ _ _ _ _ _ _ _ _ ey Y aP aX F db λbe dN g1=> ?_;cases t with
    |false=>exact l9 _ _ _ _ _ _ _ _ _ _ _ _ _ _ _ _ _ t3 he j5 aX (F.step g1) g1.ok λbF ft bd=>h _ _<|g1.trans bd
    |true=>obtain⟨rfl,rfl⟩:=dC he;obtain rfl:=br<|bu aP j5;exact h _ _ g1
def SQ{e:Expr}(bi:dv c G O d e)(ab:∀aN eY,isTrue e aN eY=(do let v<-eY;standAt e.pos;holding [v]<|truthy v)):hy c G O d e:=by intro W aW aL sc aN A aB s M H C S z t dx Q ag he j5 aX F db h;exact isTrue_plain (bi _ _ _ _ _ _ _ _ _ _ _ _ _ _ _ ag he aX F db λbe dN ez g1 bh=>tR g1.ok bh j5 λbF ft bd=>h _ _<|g1.trans bd)<|ab _ _
def SR{x:Expr}(pos:Pos)(bi:hy c G O d x):hy c G O d (.UnaryOp .Not x pos):=by intro W aW aL sc aN A aB s M H C S z t dx Q ag he j5 aX F db h;refine bW ag λes ey ag=> ?_;simp only[Option.some.injEq]at ag;subst ag;refine c0 he λfb aw Y he=> ?_;refine bW he λg6 aP he=> ?_;cases he;cases j5;exact isTrue_not<|bi _ _ _ _ _ _ _ _ _ _ _ _ _ _ _ _ ey Y aP aX F db h
def SS{t b o:Expr}(pos:Pos)(vM:hy c G O d t)(lz:hy c G O d b)(pM:hy c G O d o):hy c G O d (.IfExp t b o pos):=by
 intro W aW aL sc aN A aB s M H C S z tr dx Q ag he j5 aX F db h;refine bW ag λes ey ag=> ?_;refine bW ag λcU hS ag=> ?_;refine dt ag λbl qO bM=> ?_;subst bM;refine c0 he λfb aw Y he=> ?_;refine bW he λtt aP he=> ?_;refine isTrue_IfExp<|vM _ _ _ _ _ _ _ _ _ _ _ _ _ _ _ _ ey Y aP aX F db λbe dN g1=> ?_;cases tt with
 |true=>exact lz _ _ _ _ _ _ _ _ _ _ _ _ _ _ _ _ hS he j5 aX (F.step g1) g1.ok λbF ft bd=>h _ _<|g1.trans bd
 |false=>exact pM _ _ _ _ _ _ _ _ _ _ _ _ _ _ _ _ qO he j5 aX (F.step g1) g1.ok λbF ft bd=>h _ _<|g1.trans bd
end
end
section
section
variable{P:jy}{G:gS}
variable{x:I}{a b:Value}
def JH{o:Expr}{aZ:Str}{t:Sem Value}(aj:C9 o)(h:wpAny df A t Q aB s):wpAny df A (attributeBase o aZ aN t) Q aB s:=by
 cases o with
 |Call f as dP p=>
  cases f with
  |Name id q=>
   cases as with
   |nil=>
    cases dP with
    |nil=>exact(show wpAny df A (if(id !=("super":Str)||aZ=="__class__"||aN.kindOf "super" !=some .globalImplicit||aN.kindOf "__class__" !=some .free)=true then t else _) Q aB s from V (bg (by rw[show(id !=("super":Str))=true from aj];rfl)) h)
    |cons B cq=>exact h
   |cons B cq=>exact h
  |_=>exact h
 |_=>exact h
def ST(T:fY c P G K cV ei e4)(ic:r3 c P cV O d){e:Expr}(n:Str)(pos:Pos)(bi:dv c G O d e):dv c G O d (.Attribute e n pos):=by
 intro W aW aL sc aN A aB s M H C S z dx Q ag he aX F db h;refine d1 ag λD0 ag=>bW ag λes ey ag=>dt ag λf hf bM=> ?_;subst bM;refine c0 he λfb aw Y he=>dt he λoI ae he=> ?_;obtain⟨rfl,rfl⟩:=kQ he;rw[ic.b1]at ae;show wpAny _ _ (do
   let o<-attributeBase e n aN (eval e aN)
   standAt pos.atName
   let r<-holding [o] (getAttr o n true)
   letTemporaryGo e o r
   pure r) Q aB s
 refine wpAny_bind<|JH D0<|bi _ _ _ _ _ _ _ _ _ _ _ _ _ _ _ ey Y aX F db λbe dN ez g1 bh=> ?_;exact wpAny_bind<|wpAny_standAt<|wpAny_bind<|wpAny_holding<|Jj T.cls g1.ok bh (T.fr _ _ hf) ae λbF ft ee bd bf=>wpAny_bind<|wpAny_letTemporaryGo<|wpAny_pure<|h _ _ _ (g1.trans bd) bf
def JI(bV:bJ c.w c.N c.au s.heap M C)(r:bb s.heap M v x)(ac:(∃l,x=.ak l)\/(∃t,x=.str t)\/∃k,x=.L k/\((∃l,C[k]? =some (.list l))\/∃l,C[k]? =some (.dict l))):
  ∃T id,s.TypeIs v T/\typeLookup (.type T) "__getitem__"=pure (some<|.builtin id):=by
 rcases ac with⟨l,rfl⟩|⟨t,rfl⟩|⟨k,rfl,⟨l,an⟩|⟨l,an⟩⟩
 ·obtain⟨gv,vs,rfl,⟨mM,rW,ag,B⟩,cq⟩:=r.oz;exact⟨"tuple",_,⟨mM,rW,ag⟩,slot_tuple_getitem.lookup⟩
 ·cases r;exact⟨"str",_,typeIs_str _ _ _,F.slot_str_getitem.lookup⟩
 ·obtain⟨p,vs,n,ab,rfl,B,aA,cq⟩:=bJ.list bV an r;exact⟨"list",_,⟨_,aA,rfl⟩,slot_list_getitem.lookup⟩
 ·obtain⟨p,vs,n,ab,rfl,B,aA,cq⟩:=bJ.dict bV an r;exact⟨"dict",_,⟨_,aA,rfl⟩,slot_dict_getitem.lookup⟩
def JJ{value jf:Expr}{T id:String}{o i:Value}(eD:s.TypeIs o T)(an:typeLookup (.type T) "__getitem__"=pure (some<|.builtin id))(h:wpAny (model c.prog c.w) A (getItem o i) Q aB s):
  wpAny (model c.prog c.w) A (subscriptTail value jf o i) Q aB s:=by
 unfold subscriptTail;refine wpAny_bind ?_;refine V (getitemInPython_of_ne eD.not_modules) ?_;refine wpAny_bind<|wpAny_specialOf eD an ?_;have fin:wpAny (model c.prog c.w) A (subscripted jf false o i) (λr Al=>wpAny (model c.prog c.w) A (letTemporaryGo value o r>>=λB=>pure r) Q aB Al) aB s:=by
  have aO:wpAny (model c.prog c.w) A (getItem o i) (λr Al=>wpAny (model c.prog c.w) A (letTemporaryGo value o r>>=λB=>pure r) Q aB Al) aB s:=wpAny_mono h (λr Al SU=>wpAny_bind<|wpAny_letTemporaryGo<|wpAny_pure SU) λB B x=>x
  cases jf with
  |Slice ce ah st p=>
   cases st with
   |none=>exact wpAny_operating aO
   |some B=>exact wpAny_operating aO
  |_=>exact wpAny_operating aO
 first
  |exact wpAny_pure (wpAny_bind fin)
  |exact wpAny_bind (wpAny_pure (wpAny_bind fin))
  |exact wpAny_bind fin
def SV(T:fY c P G K cV ei e4){e i:Expr}(pos:Pos)(bi:dv c G O d e)(pO:dv c G O d i)(ah:∀aW aL sc m,c9 G aL aW sc (.Subscript e i pos)=some m->∃es cU,c9 G aL aW sc e=some es/\c9 G aL aW sc i=some cU/\m=.av es cU):dv c G O d (.Subscript e i pos):=by intro W aW aL sc aN A aB s M H C S z dx Q ag he aX F db h;obtain⟨es,cU,ey,hS,rfl⟩:=ah _ _ _ _ ag;refine c0 he λfb aw Y he=>c0 he λoI bn ae he=>dt he λvN ba he=> ?_;obtain⟨rfl,rfl⟩:=kQ he;refine Subscript_<|bi _ _ _ _ _ _ _ _ _ _ _ _ _ _ _ ey Y aX F db λbe dN ez g1 bh=>pO _ _ _ _ _ _ _ _ _ _ _ _ _ _ _ hS ae aX (F.step g1) g1.ok λbF ft ee bd bf=> ?_;obtain⟨a7,id,eD,an⟩:=JI bd.ok (bh.keep bd.keep)<|IW ba (λl i e B B=>.inl ⟨l,e⟩) (λt i e B B B=>.inr<|.inl ⟨t,e⟩) (λk l i e q B B=>.inr<|.inr ⟨k,e,.inl ⟨l,q⟩⟩) λk l e q B B=>.inr<|.inr ⟨k,e,.inr ⟨l,q⟩⟩;exact JJ eD an<|Q9 aX bd.ok (bh.keep bd.keep) bf ba<|(eO.gL g1 h).gL bd
def JK{ce:Option Expr}{mo:Option b2}{t4:Option I}(bi:∀e,ce=some e->dv c G O d e)(ag:Da G aL aW sc ce=some mo)(he:vp O mo H C=some (t4,S))(aX:eo d A)(F:dS c W aW aL sc aN s.heap M H)(db:bJ c.w c.N c.au s.heap M C)(h:∀aY bt v,bX c [] s M aY bt S->tS aY.heap bt v t4->Q v aY):wpAny (model c.prog c.w) A (evalPart ce aN) Q aB s:=by
 cases ce with
 |none=>obtain rfl:=br ag;obtain⟨rfl,rfl⟩:=dC he;exact wpAny_pure<|h _ M _ (.refl db) rfl
 |some e=>refine dt ag λm hm bM=> ?_;subst bM;refine c0 he λfb aw Y he=> ?_;obtain⟨rfl,rfl⟩:=dC he;exact bi e rfl _ _ _ _ _ _ _ _ _ _ _ _ _ _ _ hm Y aX F db h
def SW(T:fY c P G K cV ei e4){e:Expr}{ce ah:Option Expr}(p pos:Pos)(bi:dv c G O d e)(j4:∀e,ce=some e->dv c G O d e)(SX:∀e,ah=some e->dv c G O d e):dv c G O d (.Subscript e (.Slice ce ah none p) pos):=by intro W aW aL sc aN A aB s M H C S z dx Q ag he aX F db h;refine bW ag λes ey ag=>bW ag λSY D1 ag=>dt ag λacD SZ bM=> ?_;subst bM;refine c0 he λfb aw Y he=>c0 he λoI bn ae he=>c0 he λvN cA ba he=> ?_;refine Subscript_<|bi _ _ _ _ _ _ _ _ _ _ _ _ _ _ _ ey Y aX F db λbe dN ez g1 bh=> ?_;refine wpAny_Slice<|JK j4 D1 ae aX (F.step g1) g1.ok λbF ft qG bd rX=>JK SX SZ ba aX ((F.step g1).step bd) bd.ok λs3 iJ S0 cQ S1=> ?_;refine V (evalPart_none _)<|wpAny_pure ?_;have eu:=bX.push (W:=[]) cQ.ok {cls:=.type "slice",data:=.fields #[qG,S0,.none]} s3.toks;have JL:=((bh.keep bd.keep).keep cQ.keep).keep eu.keep;obtain⟨a7,id,eD,an⟩:=JI eu.ok JL<|I2 he (λl B B e B B B=>.inl ⟨l,e⟩) λo l B B e q B B B=>.inr<|.inr ⟨o,e,.inl ⟨l,q⟩⟩;exact JJ eD an<|Ri eu.ok JL (Heap.IsSliceOf.new ..) ((rX.keep cQ.keep).keep eu.keep) (S1.keep eu.keep) he<|(((eO.gL g1 h).gL bd).gL cQ).gL eu
def D2{f:Value}(ao:keepIn K f)(T:fY c P G K cV ei e4):∀h:Heap,(∀b o,c.au.get? b=some o->h.get? b=some o)->∃k,(k=Keeper.frame\/k=Keeper.machine\/k=Keeper.boundFrame)/\Looks (model c.prog c.w) h (keeperOf f) k:=λh aj=>keeps_K ao h<|T.cls.xO.keeps aj
def JM(b:vl):∀h:Heap,(∀a o,c.au.get? a=some o->h.get? a=some o)->∃k,(k=Keeper.frame\/k=Keeper.machine\/k=Keeper.boundFrame)/\Looks (model c.prog c.w) h (keeperOf<|t1 b) k:=λh B=>⟨.machine,.inr<|.inl rfl,Looks.of_pure (by cases b<;>rfl)⟩
def JN(id:String):∀h:Heap,(∀a o,c.au.get? a=some o->h.get? a=some o)->∃k,(k=Keeper.frame\/k=Keeper.machine\/k=Keeper.boundFrame)/\Looks (model c.prog c.w) h (keeperOf<|.builtin id) k:=λh B=>⟨.machine,.inr<|.inl rfl,Looks.of_pure rfl⟩
def S2{cw:vl}(T:fY c P G K cV ei e4)(aX:eo d A)(bV:bJ c.w c.N c.au s.heap M C)(r:bb s.heap M v x)(e:kS cw x C=some (z,S))(h:eO c s M S z Q):wpAny (model c.prog c.w) A (call (t1 cw) [v]) Q aB s:=by
 cases cw with
 |len=>exact Rj bV r e h
 |tuple=>exact Rk bV r e h
 |sorted=>exact RH T.sys aX bV r e h
 |all=>exact RM aX bV r e h
 |range=>simp [kS]at e
def b7.aS(r:b7 h M vs [x]):∃v,vs=[v]/\bb h M v x:=by
 cases r with
 |cons a r=>cases r;exact⟨_,rfl,a⟩
def b7.j6(r:b7 h M vs [x,y]):∃v w,vs=[v,w]/\bb h M v x/\bb h M w y:=by
 cases r with
 |cons a r=>obtain⟨w,rfl,b⟩:=r.aS;exact⟨_,w,rfl,a,b⟩
def S3(T:fY c P G K cV ei e4)(ic:r3 c P cV O d)(f:Str)(k2:Pos)(pos:Pos)(bi:∀e∈args,dv c G O d e):dv c G O d (.Call (.Name f k2) args [] pos):=by
 intro W aW aL sc aN A aB s M H C S z dx Q ag he aX F db h;show wpAny _ _ (do callWith pos (<-eval (.Name f k2) aN) [] (backTo pos<|starEach args aN) (backToKw pos<|keywordEach [] aN)) Q aB s
 revert ag;refine H0 (λag=> ?_) (λk ao ag=> ?_) (λk ao ag=> ?_) λcw ao ag=> ?_
 ·obtain rfl:=br ag;exact bj he
 ·refine dt ag λms eQ bM=> ?_;subst bM;refine c0 he λzs aw Y he=> ?_;obtain⟨⟨fn,r1⟩,oK⟩:=ic.fn _ _ _ _ _ he;refine wpAny_bind<|xU T F db ao nofun λqP t5=>V (show qP=.ref (cV k)from t5) ?_;exact t2 T bi eQ Y aX F db (D2 (T.DM _ _ r1) T) λbe dN vs g1 bh=>oK _ _ _ _ _ _ aX g1.ok bh<|eO.gL g1 h
 ·refine dt ag λms eQ bM=> ?_;subst bM;refine c0 he λzs aw Y he=> ?_;refine wpAny_bind<|xU T F db ao nofun λqP t5=>(show∃aI:Addr,c.N.ca[k]? =some aI/\qP=.ref aI from t5).elim λaI q=>V q.2 ?_;exact t2 T bi eQ Y aX F db (D2 (T.Jz _ _ q.1) T) λbe dN vs g1 bh=>ic.make _ _ _ _ _ _ he q.1 _ _ _ _ _ _ aX g1.ok bh<|eO.gL g1 h
 ·refine bW ag λms eQ ag=> ?_;cases ms with
  |nil=>exact bj ag
  |cons es ms=>
  cases ms with
  |cons B cq=>exact bj ag
  |nil=>
  obtain rfl:=br ag;refine c0 he λfb aw Y he=> ?_;refine wpAny_bind<|xU T F db ao nofun λqP t5=>V (show qP=t1 cw from t5) ?_;refine t2 T bi eQ (show iX O [es] H C=some ([fb],aw)from cF Y rfl) aX F db (JM cw) λbe dN vs g1 bh=> ?_;obtain⟨v,rfl,hA⟩:=bh.aS;exact S2 T aX g1.ok hA he<|eO.gL g1 h
def D3{o:Expr}{n:Str}{apos pos:Pos}{f:Value}(S4:(backTo pos<|starEach args aN).all (λx=> !x.1)=true)(hlen:args.length<20)(S5:(apos.endLine==pos.line)=true)(S6:∀(f9:Sem Bool) (R:Value×List Value->Shared->Prop),R (f,first) s->wpAny (model c.prog c.w) A (getMethod v n f9) R aB s)(h:wpAny (model c.prog c.w) A (callWith pos f first (backTo pos<|starEach args aN)<|backToKw pos<|keywordEach [] aN) Q aB s):
  wpAny (model c.prog c.w) A (methodCall o n apos pos aN v (args.length+([]:List Keyword).length) (backTo pos<|starEach args aN)<|backToKw pos<|keywordEach [] aN) Q aB s:=by
 have S7:methodCallForm (args.length+([]:List Keyword).length) (backTo pos<|starEach args aN) (backToKw pos<|keywordEach [] aN)=true:=dJ (dJ S4 rfl) (cj<|ec hlen<|by decide);have qQ:methodCallPos true o aN apos pos=pure pos:=bg S5;delta methodCall;rw[S7];exact wpAny_bind<|wpAny_holding<|S6 _ _<|wpAny_bind<|wpAny_of_eq qQ h
def S8{m:Nat}(e:mH k m zs C=some (z,S))(dh:∀l v,C[k]? =some (.list l)->k≠0->m=py->zs=[v]->l.length<16000000->some (I.none,C.set k<|.list<|l++[v])=some (z,S)->R)(S9:∀l v,C[k]? =some (.list l)->k≠0->m=rL->zs=[]->l.getLast?=some v->some (v,C.set k<|.list l.dropLast)=some (z,S)->R)(Ta:∀l b r,C[k]? =some (.list l)->k≠0->m=xn->zs=[.L b]->k≠b->C[b]? =some (.list r)->l.length+r.length<16000000->some (I.none,C.set k<|.list<|l++r)=some (z,S)->R):R:=by
 refine z2 e λl an e=>vt e λoF e=> ?_;by_cases Y:m=py
 ·rw[bg Y]at e;cases zs with
  |nil=>exact bj e
  |cons v r=>
   cases r with
   |nil=>exact d1 e λhz e=>dh l v an oF Y rfl hz e
   |cons B cq=>exact bj e
 ·rw[bI Y]at e;by_cases ae:m=rL
  ·rw[bg ae]at e;cases zs with
   |nil=>
    cases bB:l.getLast? with
    |none=>rw[bB]at e;exact bj e
    |some v=>rw[bB]at e;exact S9 l v an oF ae rfl bB e
   |cons B cq=>exact bj e
  ·rw[bI ae]at e;refine d1 e λba e=> ?_;cases zs with
   |nil=>exact bj e
   |cons a r=>
    cases a with
    |L b=>
     cases r with
     |nil=>exact vt e λf7 e=>z2 e λr aH e=>d1 e λhz e=>Ta l b r an oF ba rfl f7 aH hz e
     |cons B cq=>exact bj e
    |_=>exact bj e
def Tb{m:Nat}(e:qv k m zs C=some (z,S))(dK:∀l a,C[k]? =some (.dict l)->m=zA->zs=[a]->e2 l a->some ((cD l a).getD .none,C)=some (z,S)->R)(fk:∀l a b,C[k]? =some (.dict l)->m=zA->zs=[a,b]->e2 l a->some ((cD l a).getD b,C)=some (z,S)->R):R:=by
 refine Dz e λl an e=>d1 e λY e=> ?_;cases zs with
 |nil=>exact bj e
 |cons a r=>
  cases r with
  |nil=>exact d1 e λae e=>dK l a an Y rfl ae e
  |cons b r=>
   cases r with
   |nil=>exact d1 e λae e=>fk l a b an Y rfl ae e
   |cons B cq=>exact bj e
def Tc{m:Nat}{n:Str}(T:fY c P G K cV ei e4)(ao:c.N.fr.idxOf? n=some m)(e:mH k m zs C=some (z,S)):
  ∃id,(∀(A:Around) (aB:Value->Shared->Prop) (s:Shared) (p:Addr) (vs:Array Value) (fH:Nat) (f9:Sem Bool) (R:Value×List Value->Shared->Prop),s.heap.get? p=some {cls:=.type "list",data:=.seq vs fH}->R (.builtin id,[.ref p]) s->wpAny (model c.prog c.w) A (getMethod (.ref p) n f9) R aB s)/\
   ∀(A:Around) (aB:Value->Shared->Prop) (s:Shared) (M:c6) (v:Value) (vs:List Value) (Q:Value->Shared->Prop),bJ c.w c.N c.au s.heap M C->bb s.heap M v (.L k)->b7 s.heap M vs zs->eO c s M S z Q->wpAny (model c.prog c.w) A (call (.builtin id) (v::vs)) Q aB s:=by
 refine S8 e (λl y an h0 hm hz r5 e'=> ?_) (λl y an h0 hm hz bB e'=> ?_) λl b q an h0 hm hz f7 aj r5 e'=> ?_
 ·clear e;subst hz hm
  obtain rfl:=vJ ao T.JB;obtain⟨rfl,rfl⟩:=dC e';exact⟨_,λA aB s p vs fH f9 R aA fl=>DA aA PySem.F.slot_list_append PySem.F.type_list_append fl,λA aB s M v vs Q g r bf h=>bf.aS.elim λw q=>V q.1<|RP g r an q.2 h0 r5 h⟩
 ·clear e;subst hz hm
  obtain rfl:=vJ ao T.JC;obtain⟨rfl,rfl⟩:=dC e';exact⟨_,λA aB s p vs fH f9 R aA fl=>DA aA PySem.F.slot_list_pop PySem.F.type_list_pop fl,λA aB s M v vs Q g r bf h=>V (xw bf.length)<|RQ g r an h0 bB h⟩
 ·clear e;subst hz hm
  obtain rfl:=vJ ao T.JD;obtain⟨rfl,rfl⟩:=dC e';exact⟨_,λA aB s p vs fH f9 R aA fl=>DA aA PySem.F.slot_list_extend PySem.F.type_list_extend fl,λA aB s M v vs Q g r bf h=>bf.aS.elim λw q=>V q.1<|RR g r an q.2 aj h0 f7 r5 h⟩
def JO{l:List (I×I)}{a JP:I}{w:Value}{u:Option Value}(r:lp h M u (cD l a))(rw:bb h M w JP):bb h M (u.getD w) ((cD l a).getD JP):=IH r (λv x e aF q=>by subst e;rw[aF];exact q) λe aF=>by subst e;rw[aF];exact rw
def Td{m:Nat}{n:Str}(T:fY c P G K cV ei e4)(ao:c.N.fr.idxOf? n=some m)(e:qv k m zs C=some (z,S)):
  n=aa "get"/\∀(A:Around) (aB:Value->Shared->Prop) (s:Shared) (M:c6) (v:Value) (vs:List Value) (Q:Value->Shared->Prop),eo d A->bJ c.w c.N c.au s.heap M C->bb s.heap M v (.L k)->b7 s.heap M vs zs->eO c s M S z Q->wpAny (model c.prog c.w) A (call (.builtin "dict.get") (v::vs)) Q aB s:=by
 refine Tb e (λl a an hm hz bC e'=> ?_) λl a b an hm hz bC e'=> ?_
 ·clear e;subst hz hm
  obtain⟨rfl,rfl⟩:=dC e';refine⟨vJ ao T.DN,λA aB s M v vs Q aX g r bf h=>bf.aS.elim λw q=>V q.1 ?_⟩;obtain⟨p,ax,fH,ab,rfl,B,aA,ed,hn,cq⟩:=bJ.dict g an r;exact call_meetsIn PySem.F.slot_dict_get ⟨_,aA,rfl⟩ PySem.F.entry_dict_get (PySem.F.args_dict_get_2 _ _) (QR<|zW T.sys<|g.fR _<|tG ab) ⟨eo.qD aX,M,_,l,ax,fH,q.2,bC,aA,ed,hn,λu bD=>h _ M _ (.jA g _)<|JO bD .none⟩
 ·clear e;subst hz hm
  obtain⟨rfl,rfl⟩:=dC e';refine⟨vJ ao T.DN,λA aB s M v vs Q aX g r bf h=>bf.j6.elim λw q=>q.elim λbo q=>V q.1 ?_⟩;obtain⟨p,ax,fH,ab,rfl,B,aA,ed,hn,cq⟩:=bJ.dict g an r;exact call_meetsIn PySem.F.slot_dict_get ⟨_,aA,rfl⟩ PySem.F.entry_dict_get (PySem.F.args_dict_get_3 _ _ _) (QS<|zW T.sys<|g.fR _<|tG ab) ⟨eo.qD aX,M,_,l,ax,fH,q.2.1,bC,aA,ed,hn,λu bD=>h _ M _ (.jA g _)<|JO bD q.2.2⟩
def Te(T:fY c P G K cV ei e4)(ic:r3 c P cV O d){o:Expr}(n:Str)(apos:Pos)(pos:Pos)(pM:dv c G O d o)(bi:∀e∈args,dv c G O d e):dv c G O d (.Call (.Attribute o n apos) args [] pos):=by
 intro W aW aL sc aN A aB s M H C S z dx Q ag he aX F db h;refine d1 ag λAm ag=>bW ag λes ey ag=>bW ag λms eQ ag=>dt ag λk ao bM=> ?_;subst bM;refine c0 he λfb aw Y he=> ?_;rw[arm_eval_Call];refine wpAny_bind<|JH (bP<|bP Am)<|pM _ _ _ _ _ _ _ _ _ _ _ _ _ _ _ ey Y aX F db λbe dN ez g1 bh=>wpAny_bind<|wpAny_standAt ?_;have ao:=T.fr _ _ ao;have an:=dw<|cN Am;have D4:=cN<|bP Am;have g7:=F.step g1;have h:=eO.gL g1 h;have g1:=g1.ok
 clear Am ag Y db F
 cases fb with
 |L L=>
  dsimp only at he;cases kW:aw[L]?with
  |none=>rw[kW]at he;exact bj he
  |some Tf=>
   rw[kW]at he;cases Tf with
   |cO cl Tg=>
    dsimp only at he;cases ir:Tg k with
    |some B=>rw[ir]at he;exact bj he
    |none=>
     cases An:O.b1 cl k with
     |none=>rw[ir,An]at he;exact bj he
     |some f=>rw[ir,An]at he;refine c0 he λzs bn ae he=> ?_;rw[ic.b1]at An;obtain⟨p,aI,gK,jj,eH,ab,acE,eX,B⟩:=bJ.cO g1 kW bh;obtain⟨Th,r1⟩:=T.JA _ _ _ _ _ An ao eX;obtain⟨⟨fn,Ti⟩,oK⟩:=ic.fn _ _ _ _ _ he;exact D3 (Ai eQ pos) an D4 (λf9 R fl=>Sb T.cls g1 bh kW ao ir eX Th r1 fl)<|t2 T bi eQ ae aX g7 g1 (D2 (T.DM _ _ Ti) T) λbF ft vs bd bf=>oK _ _ _ _ _ _ aX bd.ok (.cons (bh.keep bd.keep) bf)<|h.gL bd
   |list l=>refine c0 he λzs bn ae he=> ?_;obtain⟨p,Tj,fH,ab,rfl,B,aA,cq⟩:=bJ.list g1 kW bh;obtain⟨id,hA,eW⟩:=Tc T ao he;exact D3 (Ai eQ pos) an D4 (λf9 R fl=>hA _ _ _ _ _ _ _ _ aA fl)<|t2 T bi eQ ae aX g7 g1 (JN _) λbF ft vs bd bf=>eW _ _ _ _ _ _ _ bd.ok (bh.keep bd.keep) bf<|h.gL bd
   |dict l=>refine c0 he λzs bn ae he=> ?_;obtain⟨p,Tj,fH,ab,rfl,B,aA,cq⟩:=bJ.dict g1 kW bh;obtain⟨rfl,eW⟩:=Td (d:=d) T ao he;exact D3 (Ai eQ pos) an D4 (λf9 R fl=>RN aA PySem.F.slot_dict_get PySem.F.type_dict_get fl)<|t2 T bi eQ ae aX g7 g1 (JN _) λbF ft vs bd bf=>eW _ _ _ _ _ _ _ aX bd.ok (bh.keep bd.keep) bf<|h.gL bd
 |_=>exact bj he
end
end
section
section
variable{P:jy}{G:gS}
variable{x:I}{a b:Value}
def D5{e:Expr}{ax:List Expr}{is:List Nat}(h:tE aL sc (e::ax)=some is)(k:∀x p i qH,e=.Name x p->oh aL sc x=some i->tE aL sc ax=some qH->i::qH=is->R):R:=by
 cases e with
 |Name x p=>exact bW h λi ah h=>dt h λqH t6 bM=>k x p i qH rfl ah t6 bM
 |_=>exact bj h
def Tk{ax:List Expr}:∀{is:List Nat},tE aL sc ax=some is->(assignEach ax aN).length=ax.length/\(assignEach ax aN).findIdx? (·.1)=none/\ax.length=is.length:=by
 induction ax with
 |nil=>exactλh=>⟨rfl,rfl,br h▸rfl⟩
 |cons e ax ay=>intro is h;refine D5 h λx p i qH he B t6 bM=> ?_;subst he bM;have q:=ay t6;exact⟨ai (·+1) q.1,(List.findIdx?_cons (xs:=assignEach ax aN) (x:=(false,assign (.Name x p) aN))).trans (ai (Option.map (·+1)) q.2.1),ai (·+1) q.2.2⟩
def Tl{ax:List Expr}:∀{is:List Nat} {vs:List Value} {zs:List I} {s:Shared} {H:bS} {Q:Unit->Shared->Prop},tE aL sc ax=some is->b7 s.heap M vs zs->ax.length=vs.length->dS c W aW aL sc aN s.heap M H->bJ c.w c.N c.au s.heap M C->
  (∀aY,dS c W aW aL sc aN aY.heap M ((is.zip zs).foldl (λr p=>ar r p.1 p.2) H)->bX c W s M aY M C->Q () aY)->wpAny (model c.prog c.w) A (assignInOrder ((assignEach ax aN).map (·.2)) vs) Q aB s:=by
 induction ax with
 |nil=>exactλh r an F bV et=>assignInOrder_nil<|et _ (br h▸F)<|.refl bV
 |cons e ax ay=>
  intro is vs zs s H Q h r an F bV et;refine D5 h λx p i qH he ah t6 bM=> ?_;subst he bM;cases r with
  |nil=>exact absurd an<|qB _
  |cons bh bf=>exact assignInOrder_cons (t:=assign (.Name x p) aN) (ts:=(assignEach ax aN).map (·.2))<|wpAny_bind<|wpAny_standAt<|F.Af bV ah bh λbe g7 g1=>ay t6 (bf.keep<|g1.tr.keep F.nC) (nq an) g7 g1.ok λbF cC bd=>et bF cC<|g1.trans bd
def Ao{e:Expr}{cL:of}{Q:Unit->Shared->Prop}(aX:eo d A)(F:dS c W aW aL sc aN s.heap M H)(bV:bJ c.w c.N c.au s.heap M C)(aP:mI aL sc e=some cL)(r:bb s.heap M v z)(aJ:gq cL z H=some aU)(et:∀aY,dS c W aW aL sc aN aY.heap M aU->bX c W s M aY M C->Q () aY):wpAny (model c.prog c.w) A (assign e aN v) Q aB s:=by
 cases e with
 |Name x p=>refine dt aP λi ah bM=> ?_;subst bM;exact wpAny_bind<|wpAny_standAt<|F.Af bV ah r<|br aJ▸et
 |Tuple ax k p=>
  refine dt aP λis vO bM=> ?_;subst bM;cases z with
  |ak zs=>refine d1 aJ λhlen aJ=> ?_;obtain rfl:=br aJ;obtain⟨gv,vs,rfl,jD,n2,d3,bf,aF⟩:=r.oz;have q:=Tk (aN:=aN) vO;have an:ax.length=vs.length:=q.2.2.trans<|hlen.trans aF.symm;refine wpAny_assign_Tuple aX.handled jD (q.1.trans an) q.2.1 λaO he=> ?_;have g:∀{W},bX c W s M {s with heap:=aO} M C:=bX.ou bV ⟨aO,s.toks,rfl,λb o e=>he b o (dV<|Heap.lt_size e) e⟩;exact Tl vO (bf.keep (g (W:=[])).keep) an (F.step g) (g (W:=[])).ok λbF cC bd=>et bF cC<|g.trans bd
  |_=>exact bj aJ
 |_=>exact bj aP
set_option backward.match.sparseCases true in
def JQ{e:Expr}{cL:of}{cE:List I}{Q:Unit->Shared->Prop}(aP:mI aL sc e=some cL)(fG:mO s.heap M it cf cE i)(h:Q () s):wpAny (model c.prog c.w) A (letOwnedTupleGo e (.ref it) v) Q aB s:=by
 cases e with
 |Name=>exact wpAny_pure h
 |Tuple ax YF p=>
  have key:∀(o:Obj) (n:String) (ds:Array Value),s.heap.get? it=some o->o.cls=.type n->o.data=.fields ds->(["enumerate","zip","dict_itemiterator","dict_reverseitemiterator","odict_iterator","itertools.zip_longest","itertools.pairwise"]:List String).contains n=false->wpAny (model c.prog c.w) A (letOwnedTupleGo (.Tuple ax YF p) (.ref it) v) Q aB s:=λo n ds aA ag bC hn=>by
   cases v with
   |ref Tm=>refine wpAny_bind<|wpAny_load aA ?_;refine V ag<|V bC ?_;show wpAny _ _ (ite _ _ _) _ _ _;exact V (bI λq=>b8 ((ai (·&&_) hn).symm.trans q))<|wpAny_pure h
   |_=>exact wpAny_pure h
  rcases fG with⟨t,vs,B,⟨o,aA,ag,bC⟩,cq⟩|⟨k,p,eE,hc,⟨o,aA,ag,bC⟩⟩|⟨n,jV,jW,tn,tp,aA⟩
  ·exact key o "tuple_iterator" _ aA ag bC (by exact rfl)
  ·exact key o "list_iterator" _ aA ag bC (by exact rfl)
  ·exact key _ "range_iterator" _ aA rfl rfl (by exact rfl)
 |_=>exact bj aP
def Tn(ifs:List Expr){Q:Bool->Shared->Prop}(h:Q false s):
  wpAny df A (forIn ifs false λc r=>if r=true then do let ok<-isTrue c aN (eval c aN);pure (ForInStep.yield ok)else pure (ForInStep.yield r)) Q aB s:=by
 induction ifs with
 |nil=>refine V List.forIn_nil ?_;exact wpAny_pure h
 |cons c cs ay=>rw[List.forIn_cons];simp only[Bool.false_eq_true,if_false];exact wpAny_bind<|wpAny_pure ay
def To:(∀e∈ifs,hy c G O d e)->∀{ms:List b2} {t:Bool} {s:Shared} {M:c6} {C S:St} {Q:Bool->Shared->Prop},hR G aL aW sc ifs=some ms->gr O ms H C=some (t,S)->eo d A->dS c W aW aL sc aN s.heap M H->bJ c.w c.N c.au s.heap M C->
  (∀aY bt,bX c [] s M aY bt S->Q t aY)->
  wpAny (model c.prog c.w) A (forIn ifs true λc r=>if r=true then do let ok<-isTrue c aN (eval c aN);pure (ForInStep.yield ok)else pure (ForInStep.yield r)) Q aB s:=by
 induction ifs with
 |nil=>intro _ ms t s M C S Q h e aX F bV et;obtain rfl:=br h;obtain⟨rfl,rfl⟩:=dC e;exact V List.forIn_nil<|wpAny_pure<|et _ _<|.refl bV
 |cons a6 cs ay=>
  intro bi ms t s M C S Q h e aX F bV et;refine bW h λes ey h=>dt h λqM j3 bM=> ?_;subst bM;refine c0 e λfb aw Y e=>bW e λg6 Do e=> ?_;rw[List.forIn_cons];refine(wpAny_bind (m:=do let ok<-isTrue a6 aN (eval a6 aN);pure<|ForInStep.yield ok)<|wpAny_bind<|bi a6 bp _ _ _ _ _ _ _ _ _ _ _ _ _ _ _ _ ey Y Do aX F bV λbe dN g1=>wpAny_pure ?_);cases g6 with
  |true=>exact ay (λe he=>bi e<|bQ _ he) j3 e aX (F.step g1) g1.ok λbF ft bd=>et _ _<|g1.trans bd
  |false=>obtain⟨rfl,rfl⟩:=dC e;exact Tn cs<|et _ _ g1
noncomputable def r6(aN:Env)(names:Sc):List (Str×Addr):=names.foldl (λcs p=>if p.2==.free then(p.1,(aN.cells.lookup p.1).getD 0)::cs else cs) []
def Tp(h:∀p∈scope.names,p.2=.free->∃ca,aN.cells.lookup p.1=some ca):closureFor scope aN=pure (r6 aN scope.names):=by
 delta closureFor r6;have key:∀(l:Sc) (acc:List (Str×Addr)),(∀p∈l,p.2=.free->∃ca,aN.cells.lookup p.1=some ca)->
   (forIn (m:=Sem) l acc λx r=>match x with
    |(name,kind)=>if(kind==NameKind.free)=true then do let a<-cellOf aN name;pure (ForInStep.yield ((name,a)::r))else pure (ForInStep.yield r))=pure (l.foldl (λcs p=>if p.2==.free then(p.1,(aN.cells.lookup p.1).getD 0)::cs else cs) acc):=by
  intro l;induction l with
  |nil=>intro acc _;refine V List.forIn_nil ?_;rfl
  |cons p l ay=>
   intro acc an;obtain⟨n,k⟩:=p;rw[List.forIn_cons,List.foldl_cons];have zN:=λacc=>ay acc λq aC=>an q<|bQ _ aC;by_cases ao:(k==NameKind.free)=true
   ·obtain⟨ca,r7⟩:=an (n,k) bp (by simpa using ao);simp only at r7;simp only[ao,if_true,cellOf,r7,Option.getD_some,pure_bind];exact zN _
   ·simp only[ao,if_false,pure_bind];exact zN _
 have:=key scope.names [] h;simp only[bind_pure]at this⊢;exact this
section
variable{α:Type}{l m:List (Str×α)}{x k:Str}{a:α}
def nD(h:(x==k)=true):((k,a)::l).lookup x=some a:=by rw[List.lookup_cons,h]
def ma(h:(x==k)=false):((k,a)::l).lookup x=l.lookup x:=by rw[List.lookup_cons,h]
def vP(dK:l.lookup x=some a->R)(fk:l.lookup x=none->m.lookup x=some a->R):(l++m).lookup x=some a->R:=by
 induction l with
 |nil=>exact fk rfl
 |cons p l ay=>
  cases ac:x==p.1 with
  |true=>exactλh=>dK<|(nD ac).trans<|(nD (l:=l++m) ac).symm.trans h
  |false=>exactλh=>ay (λq=>dK<|(ma ac).trans q) (λq=>fk<|(ma ac).trans q)<|(ma (l:=l++m) ac).symm.trans h
def D6(h:l.lookup x=none):(l++m).lookup x=m.lookup x:=by
 induction l with
 |nil=>rfl
 |cons p l ay=>
  cases ac:x==p.1 with
  |true=>exact bj<|bu h<|nD ac
  |false=>exact(ma (l:=l++m) ac).trans<|ay<|(ma ac).symm.trans h
end
def Tq{names:Sc}{x:Str}:∀{acc:List (Str×Addr)},(names.foldl (λcs p=>if p.2==.free then(p.1,(aN.cells.lookup p.1).getD 0)::cs else cs) acc).lookup x=some ca->acc.lookup x=some ca\/(x,NameKind.free)∈names/\ca=(aN.cells.lookup x).getD 0:=by
 induction names with
 |nil=>exactλh=>.inl h
 |cons p l ay=>
  intro acc h;refine(ay h).elim (λq=> ?_) λq=>.inr ⟨bQ _ q.1,q.2⟩;by_cases ao:(p.2==NameKind.free)=true
  ·dsimp only at q;rw[bg ao]at q;cases ac:x==p.1 with
   |true=>exact .inr ⟨pE.mpr<|.inl<|Prod.ext (eq_of_beq ac) (eq_of_beq ao).symm,(br<|(nD ac).symm.trans q).symm.trans<|eq_of_beq ac▸rfl⟩
   |false=>exact .inl<|(ma ac).symm.trans q
  ·dsimp only at q;rw[bI ao]at q;exact .inl q
def Tr{names:Sc}{x:Str}:∀{acc:List (Str×Addr)},(x,NameKind.free)∈names\/acc.lookup x=some ((aN.cells.lookup x).getD 0)->(names.foldl (λcs p=>if p.2==.free then(p.1,(aN.cells.lookup p.1).getD 0)::cs else cs) acc).lookup x=some ((aN.cells.lookup x).getD 0):=by
 induction names with
 |nil=>exactλh=>h.elim (λq=>absurd q b4) id
 |cons p l ay=>
  intro acc h;refine ay ?_;by_cases ao:(p.2==NameKind.free)=true
  ·dsimp only;rw[bg ao];cases ac:x==p.1 with
   |true=>exact .inr<|(nD ac).trans<|eq_of_beq ac▸rfl
   |false=>exact h.imp (λq=>(cR q).resolve_left λe=>beq_eq_false_iff_ne.mp ac<|ai Prod.fst e) λq=>(ma ac).trans q
  ·dsimp only;rw[bI ao];exact h.imp_left λq=>(cR q).resolve_left λe=>ao<|beq_iff_eq.mpr (ai Prod.snd e).symm
def Ap{names:Sc}{x:Str}(h:(r6 aN names).lookup x=some ca):(x,NameKind.free)∈names/\ca=(aN.cells.lookup x).getD 0:=(Tq h).elim (λq=>bj q) id
def Ts{names:Sc}{x:Str}(h:(x,NameKind.free)∈names):(r6 aN names).lookup x=some ((aN.cells.lookup x).getD 0):=Tr<|.inl h
def Tt{Tu:Bool}{x:Str}{k:NameKind}:names.lookup x=some k->
  (names.map λ(n,k)=>if(k==NameKind.free&&aN.scope.kind==.function&&aN.kindOf n==some .cell)then(n,NameKind.cell)else(n,k)).lookup x=some k\/
  (k=.free/\(names.map λ(n,k)=>if(k==NameKind.free&&aN.scope.kind==.function&&aN.kindOf n==some .cell)then(n,NameKind.cell)else(n,k)).lookup x=some .cell):=by
 induction names with
 |nil=>exactλh=>bj h
 |cons p r ay=>
  obtain⟨n,gi⟩:=p;intro h;rw[List.map_cons];dsimp only;by_cases ag:(gi==NameKind.free&&aN.scope.kind==.function&&aN.kindOf n==some .cell)=true
  ·rw[bg ag];cases ac:x==n with
   |true=>exact .inr ⟨(br<|(nD ac).symm.trans h).symm.trans<|eq_of_beq<|bP<|bP ag,nD ac⟩
   |false=>rw[ma ac];exact ay<|(ma ac).symm.trans h
  ·rw[bI ag];cases ac:x==n with
   |true=>exact .inl<|(nD ac).trans<|(nD ac).symm.trans h
   |false=>rw[ma ac];exact ay<|(ma ac).symm.trans h
def Aq{l:List Str}{x:Str}:∀{n:Nat},(h4 l n).lookup x=some i->n<=i/\l[i-n]? =some x:=by
 induction l with
 |nil=>exactλh=>bj h
 |cons y l ay=>
  intro n h;cases ac:x==y with
  |true=>obtain rfl:=br<|(nD ac).symm.trans h;exact⟨gF _,V (Nat.sub_self n)<|ai some (eq_of_beq ac).symm⟩
  |false=>have q:=ay<|(ma ac).symm.trans h;exact⟨Nat.le_of_succ_le q.1,V (Jb q.1) q.2⟩
def vQ{l:List Str}{n:Nat}{x:Str}(h:(h4 l n).lookup x=some i):x∈l/\n<=i/\i<n+l.length:=by have q:=Aq h;have:=(h6 q.2).1;exact⟨dL q.2,q.1,(Nat.sub_lt_iff_lt_add' q.1).mp this⟩
def Ar{l:List Str}{n:Nat}{x:Str}(ac:x∉l):(h4 l n).lookup x=none:=by
 cases h:(h4 l n).lookup x with
 |none=>rfl
 |some i=>exact absurd (vQ h).1 ac
def JR{l:List Str}{x:Str}:∀{n:Nat},x∈l->∃i,(h4 l n).lookup x=some i:=by
 induction l with
 |nil=>exactλh=>absurd h b4
 |cons y l ay=>
  intro n h;cases ac:x==y with
  |true=>exact⟨n,nD ac⟩
  |false=>exact(ay (n:=n+1)<|(cR h).resolve_left<|beq_eq_false_iff_ne.mp ac).elim λi q=>⟨i,(ma ac).trans q⟩
def JS{l:List Str}{n:Nat}{x y:Str}(h:(h4 l n).lookup x=some i)(k:(h4 l n).lookup y=some i):x=y:=br<|(Aq h).2.symm.trans (Aq k).2
def xX{names:Sc}{x:Str}{k:NameKind}:(names.map (·.1)).Nodup->(x,k)∈names->names.lookup x=some k:=by
 induction names with
 |nil=>exactλB h=>absurd h b4
 |cons p l ay=>
  intro hn h;have hn:=hI hn;cases ac:x==p.1 with
  |true=>exact(cR h).elim (λe=>e▸nD (beq_self_eq_true _)) λhm=>absurd (i2 ⟨(x,k),hm,eq_of_beq ac⟩) hn.1
  |false=>exact(ma ac).trans<|ay hn.2<|(cR h).resolve_left λe=>beq_eq_false_iff_ne.mp ac<|ai Prod.fst e
def dS.comp(F:dS c W aW aL sc aN s.heap M H)(bV:bJ c.w c.N c.au s.heap M C)(ao:scope.kind=.function)(Y:zG scope.names)(ae:tF scope.names)(ba:zH aL sc scope.names)(cp:(scope.names.map (·.1)).Nodup)(eX:s.heap.get? aI=none)(hn:aO.Ns aI λB=>none)(g:bX c [] s M {s with heap:=aO} M C):
  dS c [aI] (aW+(h3 scope.names).length) (h4 (h3 scope.names) aW++aL) scope.names (compEnvC scope (r6 aN scope.names) aI aN) aO M H/\
   (∀p∈scope.names,p.2=.free->∃ca,aN.cells.lookup p.1=some ca):=by
 have lA:=F.step g;obtain⟨l8,nb⟩:=bV.tP eX;have free:∀{x},(x,NameKind.free)∈scope.names->(sc.lookup x=some .cell\/sc.lookup x=some .free)/\∃i,aL.lookup x=some i:=λac=>by
  have q:=hh ba _ ac;simp only[bne_self_eq_false,Bool.false_or,Bool.and_eq_true,qR,beq_iff_eq]at q;exact⟨q.1,hT q.2⟩
 have cellOf:∀{x},(x,NameKind.free)∈scope.names->∃ca,aN.cells.lookup x=some ca:=λac=>(free ac).2.elim λi ah=>(F.cells _ i (free ac).1 ah).elim λca q=>q.elim λu q=>⟨ca,q.1⟩;have JT:∀{x},x∈h3 scope.names->∃k,(x,k)∈scope.names/\(k==.local||k==.cell)=true/\x≠(".0":Str):=λhm=>by
  obtain⟨⟨y,k⟩,a8,rfl⟩:=e3 hm;have q:=pP a8;exact⟨k,q.1,bP q.2,bne_iff_ne.mp<|cN q.2⟩
 have JU:(".0":Str)∉h3 scope.names:=λhm=>(JT hm).elim λB q=>q.2.2 rfl;have As:∀{x},scope.names.lookup x≠some .cell:=λac=>absurd (hh Y _<|PySem.mem_of_lookup ac) (by simp);have cl:∀{x ca},(r6 aN scope.names).lookup x=some ca->aN.cells.lookup x=some ca:=λh=>(cellOf (Ap h).1).elim λDJ e=>e.trans<|ai some ((Ap h).2.trans<|V e rfl).symm;have ce:∀{x i},(h4 (h3 scope.names) aW).lookup x=some i->∀{y},aL.lookup y≠some i:=λh y q=>Nat.lt_irrefl _<|c7 (F.lt _ _ q) (vQ h).2.1;refine⟨{kind:=ao,glob:=F.glob,blt:=F.blt,kinds:=λx k h=>Tt (Tu:=true) h,nodict:=λx k h=>mJ.mpr<|bne_iff_ne.mp (hh ae _<|PySem.mem_of_lookup h)∘eq_of_beq,lt:=λx i=>vP (λq=>(vQ q).2.2) λB q=>Nat.lt_add_right _<|F.lt _ _ q,top:=λi ah=>F.top i<|k3 ah,dot:=(D6<|Ar JU).trans F.dot,inj:=λx y i ac a8=>vP (λq=>vP (λr=>JS q r) (λB r=>absurd r<|ce q) a8) (λB q=>vP (λr=>absurd q<|ce r) (λB r=>F.inj _ _ _ q r) a8) ac,ns:=⟨_,hn,λx i e ac aR he=> ?_⟩,cells:=λx i ac aR=> ?_,r2:=⟨l8,nb⟩,nB:=λx ca h=>have q:=F.nB x ca<|cl h;⟨q.1,q.2.1,λr=>(F.lx x ca<|cl h).elim λu q=>q.elim λo q=>bj<|bu eX<|(ai s.heap.get?<|show ca=aI from r).symm.trans q.1⟩,lx:=λx ca h=>lA.lx x ca<|cl h,apart:=λx y ca ac a8=>F.apart _ _ _ (cl ac)<|cl a8,xQ:=tQ.mpr rfl,DG:=λx ca ac B=>absurd ac As,ly:=λb aj=>(bT aj)▸⟨l8,nb,hn.elim λo q=>q.elim λB q=>q.elim λB q=>⟨o,q.1,λ⟨B,cq,r⟩=>nomatch q.2.1.symm.trans r⟩⟩},λp ab hf=>cellOf<|hf▸ab⟩
 ·by_cases bC:x=(".0":Str)
  ·exact bj<|bu F.dot<|(D6<|Ar JU).symm.trans<|bC▸aR
  ·obtain⟨j,aQ⟩:=JR (n:=aW) (i2 ⟨(x,.local),r8.mpr ⟨PySem.mem_of_lookup ac,dJ rfl<|bne_iff_ne.mpr bC⟩,rfl⟩:x∈h3 scope.names);exact vP (λq=>bj<|(F.top _ (vQ q).2.1).symm.trans he) (λq B=>bj<|bu q aQ) aR
 ·have vR:(x,NameKind.free)∈scope.names:=ac.elim (λac=>absurd ac As) PySem.mem_of_lookup;have Tv:x∉h3 scope.names:=λhm=>(JT hm).elim λk q=>by
   obtain rfl:=br<|(xX cp vR).symm.trans<|xX cp q.1;exact b8 q.2.1
  have aR:aL.lookup x=some i:=(D6<|Ar Tv).symm.trans aR;exact(lA.cells x i (free vR).1 aR).elim λca q=>q.elim λu q=>⟨ca,u,(Ts vR).trans<|ai some<|V q.1 rfl,q.2⟩
end
end
section
section
variable{P:jy}{G:gS}
variable{x:I}{a b:Value}
def dS.nE(F:dS c W aW aL sc aN s.heap M aU)(h:∀i d,H i=some d->aU i=some d):dS c W aW aL sc aN s.heap M H:=
 {F with
  top:=λi ah=>by
   cases q:H i with
   |none=>rfl
   |some d=>exact bj<|(F.top i ah).symm.trans<|h i d q
  ns:=F.ns.elim λm q=>⟨m,q.1,λx i d Y ae ba=>q.2 x i d Y ae<|h i d ba⟩
  cells:=λx i Y ae=>(F.cells x i Y ae).elim λca q=>q.elim λu q=>⟨ca,u,q.1,q.2.1,λd bC=>q.2.2 d (h i d bC)⟩}
def Tw{ax:List Expr}:∀{is:List Nat},tE aL sc ax=some is->∀i∈is,∃x,oh aL sc x=some i:=by
 induction ax with
 |nil=>exactλh i ah=>absurd (br h▸ah) b4
 |cons e ax ay=>exactλh i ah=>D5 h λx p j qH B aQ t6 bM=>(cR<|bM▸ah).elim (λe:i=j=>⟨x,e▸aQ⟩)<|ay t6 i
def Tx{j:Nat}{is:List Nat}:∀(zs:List I) (H:bS),j∉is->((is.zip zs).foldl (λr p=>ar r p.1 p.2) H) j=H j:=by
 induction is with
 |nil=>exactλB B B=>rfl
 |cons i is ay=>
  intro zs H h;cases zs with
  |nil=>rfl
  |cons z zs=>exact(ay zs (ar H i z) λq=>h<|bQ _ q).trans (bI λq:j=i=>h<|q▸bp)
def Ty{e:Expr}{cL:of}(aP:mI aL sc e=some cL)(vS:∀x i,oh aL sc x=some i->H i=none)(aJ:gq cL z H=some aU):∀j d,H j=some d->aU j=some d:=by
 intro j d aQ;cases e with
 |Name x p=>refine dt aP λi ah bM=> ?_;subst bM;obtain rfl:=br aJ;have bw:j≠i:=λq=>bj<|(vS _ _ ah).symm.trans<|q▸aQ;exact Jq bw aQ
 |Tuple ax k p=>
  refine dt aP λis vO bM=> ?_;subst bM;cases z with
  |ak zs=>exact d1 aJ λB aJ=>br aJ▸(Tx zs H λq=>(Tw vO j q).elim λx ac=>bj<|(vS _ _ ac).symm.trans aQ).trans aQ
  |_=>exact bj aJ
 |_=>exact bj aP
noncomputable def D7(O:ht)(dx:b2)(mt:of)(ie:List b2)(H:bS)(x:I)(s:St):Option (Option I×St):=(gq mt x H).bind λcg=>(gr O ie cg s).bind λq=>if q.1 then(bq O dx cg q.2).bind λu=>some (some u.1,u.2)else some (none,q.2)
def D8{α:Type}{l:List α}{x:α}{r:List α}:∀{i:Nat},l.drop i=x::r->l[i]? =some x/\l.drop (i+1)=r:=by
 induction l with
 |nil=>exactλ{i} h=>absurd ((List.drop_nil (i:=i)).symm.trans h) nofun
 |cons y l ay=>
  intro i h;cases i with
  |zero=>exact⟨ai some (List.cons.inj h).1,(List.cons.inj h).2⟩
  |succ i=>exact ay h
def Tz{de:I->St->Option (Option I×St)}{r:List I×St}(h:iq en de [] C=some r)(k:en C->([],C)=r->R):R:=d1 h λq e=>k q<|br e
def TA{de:I->St->Option (Option I×St)}{r:List I×St}(h:iq en de (x::xs) C=some r)(k:en C->∀y aw ys bn,de x C=some (y,aw)->iq en de xs aw=some (ys,bn)->(y.toList++ys,bn)=r->R):R:=by
 refine d1 h λq h=> ?_;cases aP:de x C with
 |none=>rw[aP]at h;exact bj h
 |some p=>
  rw[aP]at h;obtain⟨y,aw⟩:=p;dsimp only at h;cases ag:iq en de xs aw with
  |none=>rw[ag]at h;exact bj h
  |some w=>rw[ag]at h;exact k q y aw w.1 w.2 aP ag<|br h
structure nF(c:Ctx)(it:Addr)(cf:Option Nat)(cE:List I)(i:Nat)(s:Shared)(M:c6):Prop where
 d2:mO s.heap M it cf cE i
 fR:it∉foot M/\c.au.get? it=none
 pQ:∃o,s.heap.get? it=some o/\¬∃dQ n,o.data=.seq dQ n
def mO.pQ{cE:List I}(bi:mO h M it cf cE i):∃o,h.get? it=some o/\¬∃dQ n,o.data=.seq dQ n:=by
 rcases bi with⟨t,vs,B,⟨o,aA,cq,bC⟩,eE⟩|⟨k,p,hc,jV,⟨o,aA,jW,bC⟩⟩|⟨n,tn,tp,tq,tu,aA⟩
 ·exact⟨o,aA,λ⟨B,cq,q⟩=>nomatch bC.symm.trans q⟩
 ·exact⟨o,aA,λ⟨B,cq,q⟩=>nomatch bC.symm.trans q⟩
 ·exact⟨_,aA,λ⟨B,cq,q⟩=>nomatch q⟩
def nF.step{cE:List I}(X:nF c it cf cE i s M)(g:bX c W s M aY bt S)(hv:it∉W)(fL:nt s.heap W):nF c it cf cE i aY bt:=⟨X.d2.step X.fR.1 g hv fL,⟨X.pQ.elim λo q=>g.tr.fR q.1 X.fR.1 hv,X.fR.2⟩,X.pQ.elim λo q=>⟨o,g.tr.km _ _ q.1 X.fR.1 hv,q.2⟩⟩
def nF.nC{cE:List I}(X:nF c it cf cE i s M):nt s.heap [it]:=λb aj o e B q=>X.pQ.elim λo' r=>r.2<|br ((bT aj▸e).symm.trans r.1)▸q
structure xY(c:Ctx)(D:Addr)(vs:Array Value)(n:Nat)(zs:List I)(s:Shared)(M:c6):Prop where
 fR:D∉foot M/\c.au.get? D=none
 obj:s.heap.get? D=some {cls:=.type "list",data:=.seq vs n}
 At:b7 s.heap M vs.toList zs
def xY.step{D:Addr}{vs:Array Value}{n:Nat}(X:xY c D vs n zs s M)(g:bX c W s M aY bt S)(hv:D∉W)(fL:nt s.heap W):xY c D vs n zs aY bt:=⟨⟨g.tr.fR X.obj X.fR.1 hv,X.fR.2⟩,g.tr.km _ _ X.obj X.fR.1 hv,X.At.keep<|g.tr.keep fL⟩
def vT:nt h []:=λB h=>absurd h b4
def dS.D9{a:Addr}(F:dS c [aN.locals] aW aL sc aN s.heap M H)(g:bX c [a] s M aY bt S)(fL:nt s.heap [a])(h:a≠aN.locals)(ag:∀x ca,aN.cells.lookup x=some ca->ca≠a):dS c [aN.locals] aW aL sc aN aY.heap bt H:=F.xR g fL λb aj=>bT aj▸⟨h,λq=>h<|bT q,ag⟩
def JV{a b c:Addr}:∀x∈[b],x∈[a,b,c]:=λB h=>bT h▸bQ _ bp
def TB{a b c:Addr}:∀x∈[a],x∈[a,b,c]:=λB h=>bT h▸bp
def TC{a b c:Addr}:∀x∈[c],x∈[a,b,c]:=λB h=>bQ _<|bQ _ h
def du{a b:Addr}(h:a≠b):a∉[b]:=λq=>h<|bT q
def TD{pos:Pos}(vU:dv c G O d elt)(pO:∀e∈ifs,hy c G O d e)(he:c9 G aL aW sc elt=some dx)(ah:hR G aL aW sc ifs=some ie)(aP:mI aL sc cL=some mt)(vS:∀x i,oh aL sc x=some i->H i=none)(aX:eo d A){D:Addr}{cE:List I}(t7:cE.length<=16000000)(Ag:D≠aN.locals)(Ea:it≠aN.locals)(Eb:D≠it)(Ec:∀x ca,aN.cells.lookup x=some ca->ca≠D/\ca≠it){rest:List I}:
  ∀(i:Nat) (zs:List I) (s:Shared) (M:c6) (C:St) (ys:List I) (S:St) (R:Result->Shared->Prop) (vs:Array Value) (n:Nat),cE.drop i=rest->iq (λs=>hg s cf cE) (D7 O dx mt ie H) rest C=some (ys,S)->
   dS c [aN.locals] aW aL sc aN s.heap M H->bJ c.w c.N c.au s.heap M C->nF c it cf cE i s M->xY c D vs n zs s M->zs.length<=i->i<=cE.length->
   (∀aY bt mb eH,bX c [aN.locals,it,D] s M aY bt S->xY c D mb eH (zs++ys) aY bt->(zs++ys).length<=16000000->(∃m,aY.heap.Ns aN.locals m)->aN.locals∉foot bt->R (.ok .next) aY)->
   codeAny (model c.prog c.w) A (.compLoop (.ListComp elt [⟨cL,iter,ifs,0⟩] scope pos) 0 (.ref it) (.ref D) aN) R s:=by
 induction rest with
 |nil=>
  intro i zs s M C ys S R vs n bC ag F bV bi oL hz TE fl;refine Tz ag λhJ e=> ?_;obtain⟨rfl,rfl⟩:=kQ e;refine codeAny_of_tree ?_;show wpAny _ A ((compTurn _ 0 _ _ aN).onRaise (λx=>do noteFrame x aN;theTreesLotGoes x)) _ _ s;refine wpAny_noted<|V (compTurn_list ..)<|wpAny_bind<|wpAny_standAt<|wpAny_bind<|Ah aX bV bi.d2 bi.fR bi.pQ hJ (λx v be ac B B B=> ?_) λbe ac g1=> ?_
  ·exact bj<|(List.getElem?_eq_none_iff.mpr<|List.drop_eq_nil_iff.mp bC).symm.trans ac
  ·have g7:=F.D9 g1 bi.nC Ea λx ca h=>(Ec x ca h).2;exact wpAny_pure<|fl be M vs n (g1.ci JV) (V (ew _)<|oL.step g1 (du Eb) bi.nC) (V (ew _)<|a3 hz<|a3 TE t7) (g7.ns.elim λm q=>⟨m,q.1⟩) g7.r2.1
 |cons x rest ay=>
  intro i zs s M C ys S R vs n bC ag F bV bi oL hz _ fl;obtain⟨ac,vG⟩:=D8 bC;have Ed:i<cE.length:=(h6 ac).1;refine TA ag λhJ r9 aw Au bn oM JW e=> ?_;obtain⟨rfl,rfl⟩:=kQ e;refine bW oM λcg Ee oM=>c0 oM λt TF JX oM=> ?_;refine codeAny_of_tree ?_;show wpAny _ A ((compTurn _ 0 _ _ aN).onRaise (λx=>do noteFrame x aN;theTreesLotGoes x)) _ _ s;refine wpAny_noted<|V (compTurn_list ..)<|wpAny_bind<|wpAny_standAt<|wpAny_bind<|Ah aX bV bi.d2 bi.fR bi.pQ hJ (λqF v be oN g1 bh sa=> ?_) λbe oN B=>bj<|bu oN ac;obtain rfl:=br<|bu ac oN;have g7:=F.D9 g1 bi.nC Ea λx ca h=>(Ec x ca h).2;have fS:=oL.step g1 (du Eb) bi.nC;have Av:nF c it cf cE (i+1) be M:=⟨sa,bi.fR,sa.pQ⟩
  clear bi oL F ac oN bC ag
  dsimp only;refine wpAny_bind<|JQ aP sa<|wpAny_bind<|Ao aX g7 g1.ok aP bh Ee λbF cC bd=> ?_;have JY:=Av.step bd (du Ea) g7.nC;have hk:=fS.step bd (du Ag) g7.nC;have JZ:=Ty aP vS Ee
  clear Av fS g7 bh sa Ee
  refine wpAny_bind<|To pO ah JX aX cC bd.ok λs3 iJ cQ=> ?_;have lB:=cC.step cQ;have sb:=JY.step cQ b4 vT;have j7:=hk.step cQ b4 vT;have Ef:bX c [aN.locals,it,D] s M s3 iJ TF:=((g1.ci JV).trans<|bd.ci TB).trans cQ.ia;have cQ:=cQ.ok
  clear JY hk cC g1 bd JX
  cases t with
  |false=>obtain⟨rfl,rfl⟩:=dC oM;exact wpAny_pure ⟨rfl,ay (i+1) zs s3 iJ _ Au _ R vs n vG JW (lB.nE JZ) cQ sb j7 (rZ hz) Ed λaY bt mb eH eP=>fl aY bt mb eH<|Ef.trans eP⟩
  |true=>
   rw[bg rfl]at oM;refine c0 oM λfb acF DQ oM=> ?_;obtain⟨rfl,rfl⟩:=dC oM;refine wpAny_bind<|wpAny_bind<|vU _ _ _ _ _ _ _ _ _ _ _ _ _ _ _ he DQ aX lB cQ λs4 k1 v4 eu dX=> ?_;have Aw:=lB.step eu;have TG:=sb.step eu b4 vT;have iK:=j7.step eu b4 vT;have g:=Ef.trans eu.ia;have eu:=eu.ok
   clear lB sb j7 Ef cQ
   refine wpAny_bind<|wpAny_call_entry slot_list_append ⟨_,iK.obj,rfl⟩ entry_list_append ?_<|args_list_append _ _;obtain⟨⟨eH,aD⟩,aJ⟩:=vH (f:=(·.push v4)) iK.obj;have fs:vs.size+1<=sizeLine:=a3 (Nat.succ_le_of_lt<|c1 (a3 (cP iK.At.length) hz) Ed)<|a3 t7 j0;refine wpAny_bind (m:=updateSeq D (·.push v4))<|wpAny_updateSeq iK.obj rfl (hz:=Nat.le_of_succ_le fs) (_hz':=a3 (cP<|Array.size_push _)<|rZ fs)<|wpAny_pure ⟨.none,rfl,wpAny_pure<|wpAny_pure ⟨rfl,?_⟩⟩;have J0:∀o,s4.heap.get? D=some o->o.cls=.type "tuple"->(∃dQ n,o.data=.seq dQ n)->False:=λo e cl B=>(show¬Value.type "list"=.type "tuple" by decide)<|(ai Obj.cls<|br<|bu iK.obj e).trans cl;obtain⟨i5,J1⟩:=bX.cell (t:=s4.toks) eu iK.fR aJ J0;have J2:nt s4.heap [D]:=λb aj o e cl q=>J0 o (bT aj▸e) cl q;exact ay (i+1) (zs++[fb]) _ k1 _ Au _ R (vs.push v4) eH vG JW ((Aw.D9 i5 J2 Ag λx ca h=>(Ec x ca h).1).nE JZ) i5.ok (TG.step i5 (du<|Ne.symm Eb) J2)
    ⟨iK.fR,aD,V Array.toList_push<|(iK.At.keep J1).zM<|dX.keep J1⟩ (a3 (cP er)<|kX hz) Ed λaY bt mb Ja eP q=>iG zs [fb] Au▸λnA sd=>fl aY bt mb Ja ((g.trans<|i5.ci TC).trans eP) (iG zs [fb] Au▸q) nA sd
end
end
section
section
variable{P:jy}{G:gS}
variable{x:I}{a b:Value}
def Ax(c:Ctx)(A:Around)(s:Shared)(M:c6)(aw:St)(cf:Option Nat)(cE:List I)(iter:Expr)(aN:Env):Prop:=
 ∀(aB:Value->Shared->Prop) (Q:Value->Shared->Prop),(∀aY bt it,bX c [] s M aY bt aw->s.heap.get? it=none->it∉foot bt->c.au.get? it=none->(∃o,aY.heap.get? it=some o/\¬∃dQ n,o.data=.seq dQ n)->mO aY.heap bt it cf cE 0->cE.length<=16000000->Q (.ref it) aY)->
  wpAny (model c.prog c.w) A (eval iter aN) (λx be=>wpAny (model c.prog c.w) A (pyIter x) Q aB be) aB s
def bX.xZ(g:bX c [] s M aY bt S)(hf:it∉foot M)(h:aY.heap.get? it=none):s.heap.get? it=none:=by
 cases q:s.heap.get? it with
 |none=>rfl
 |some o=>exact bj<|bu h<|g.tr.km _ _ q hf b4
def Ay(g:bX c W s M aY bt S){b:Addr}(h:b∈foot M):b∈foot bt:=g.tr.pre.elim λh5 q=>q.1▸V (oo _ _) (jh _ h)
def TH(bV:bJ c.w c.N c.au s.heap M C)(r:bb s.heap M v z)(an:nk C z=some (l,cf)):l.length<=16000000:=by
 refine xF an (λm ac e=> ?_) λo m ac hm e=> ?_
 ·clear an;subst ac
  obtain⟨rfl,rfl⟩:=dC e;exact r.oz.elim λB q=>q.elim λB q=>q.2.2.2.1
 ·clear an;subst ac
  obtain⟨rfl,rfl⟩:=dC e;obtain⟨B,cq,eE,hc,jV,jW,tn,tp,h,tq⟩:=bJ.list bV hm r;exact h
def J3{ie:b2}(bi:dv c G O d iter)(ag:c9 G aL aW sc iter=some ie)(he:bq O ie H C=some (z,aw))(an:nk aw z=some (l,cf))(aX:eo d A)(F:dS c W aW aL sc aN s.heap M H)(bV:bJ c.w c.N c.au s.heap M C):
  Ax c A s M aw cf l iter aN:=by
 intro aB Q h;refine bi _ _ _ _ _ _ _ _ _ _ _ _ _ _ _ ag he aX F bV λbe dN ez g1 bh=> ?_;refine Sr g1.ok bh an λbF it bd Y ae ba cp dF=>h bF dN it (g1.trans bd) (g1.xZ (λq=>ae<|Ay g1 q) Y) ae ba cp dF<|TH g1.ok bh an
theorem TI{n:Int}(bV:bJ c.w c.N c.au s.heap M C)(r:bb s.heap M v (.int n))(hn:0<=n/\n<16000000)(h:∀aY it,bX c [] s M aY M C->s.heap.get? it=none->it∉foot M->c.au.get? it=none->(∃o,aY.heap.get? it=some o/\¬∃dQ n,o.data=.seq dQ n)->mO aY.heap M it none (qw n) 0->Q (.ref it) aY):
  wpAny (model c.prog c.w) A (call (.type "range") [v]) (λx be=>wpAny (model c.prog c.w) A (pyIter x) Q aB be) aB s:=by
 cases r with
 |int B t=>
 have g1:=bX.push (W:=[]) bV {cls:=.type "range",data:=.fields #[.int 0 s.toks,.int n t,.int 1<|s.toks+1]} (s.toks+1+1);have bd:=bX.push (W:=[]) g1.ok {cls:=.type "range_iterator",data:=.fields #[rawInt 0,rawInt<|Builtin.Range.rangeSize 0 n 1,rawInt 1]} (s.toks+1+1);have l8:=g1.ok.tP<|rV _;refine call_range_1 (wpAny_pyIter_range (IsRange.new ..) (small_one (by decide) (by decide) (by lia)<|by lia)<|h _ _ (g1.trans bd) (g1.xZ l8.1<|rV _) l8.1 l8.2 ⟨_,Heap.get?_push_size _ rfl,λ⟨B,cq,q⟩=>nomatch q⟩<|.inr<|.inr ⟨n,rfl,rfl,hn.2,jB _,?_⟩)
 ·have e:Builtin.Range.rangeSize 0 n 1=(n.toNat-(0:Nat):Int):=by unfold Builtin.Range.rangeSize;simp;lia
  show Heap.get? _ _=some _;exact eF e<|Heap.get?_push_size _ rfl
def TJ(ag:c9 G aL aW sc iter=some (.cw .range dx))(ah:xu iter):
  dx=.bc .none\/∃f p e pos,iter=.Call (.Name f p) [e] [] pos/\no G sc f=some (.cw .range)/\c9 G aL aW sc e=some dx:=by
 cases iter with
 |Call fn args Eg pos=>
  clear ah
  cases Eg with
  |cons B cq=>cases fn<;>exact bj ag
  |nil=>
   cases fn with
   |Attribute o n ap=>exact d1 ag λB ag=>bW ag λB B ag=>bW ag λB B ag=>dt ag λB B ag=>b2.noConfusion ag
   |Name f p=>
    refine H0 (λag=> ?_) (λB B ag=> ?_) (λB B ag=> ?_) (λb aj ag=> ?_) ag
    ·exact .inl (b2.cw.inj<|br ag).2.symm
    ·exact dt ag λB B ag=>b2.noConfusion ag
    ·exact dt ag λB B ag=>b2.noConfusion ag
    ·refine bW ag λms eQ ag=> ?_;cases args with
     |nil=>obtain rfl:=br eQ;exact bj ag
     |cons aD ax=>
      refine bW eQ λcU hS eQ=>dt eQ λqM j3 bM=> ?_;cases ax with
      |nil=>obtain rfl:=br j3;subst bM;obtain⟨rfl,rfl⟩:=b2.cw.inj<|br ag;exact .inr ⟨f,p,aD,pos,rfl,aj,hS⟩
      |cons aF ax=>refine bW j3 λbl B j3=>dt j3 λJG B aD=> ?_;subst aD bM;exact bj ag
   |_=>exact bj ag
 |_=>exact b8 ah
theorem J4(T:fY c P G K cV ei e4){n:Int}(bi:∀e,sizeOf e<sizeOf iter->dv c G O d e)(ag:c9 G aL aW sc iter=some (.cw .range dx))(ah:xu iter)(he:bq O dx H C=some (.int n,aw))(hn:0<=n/\n<16000000)(aX:eo d A)(F:dS c W aW aL sc aN s.heap M H)(bV:bJ c.w c.N c.au s.heap M C):Ax c A s M aw none (qw n) iter aN:=by
 intro aB Q h;rcases TJ ag ah with rfl|⟨f,p,e,pos,rfl,hf,Eh⟩
 ·cases he
 show wpAny _ _ (do callWith pos (<-eval (.Name f p) aN) [] (backTo pos<|starEach [e] aN) (backToKw pos<|keywordEach [] aN)) _ aB s;refine wpAny_bind<|xU T F bV hf nofun λqP t5=>V (show qP=t1 .range from t5) ?_;refine t2 T (λe' gU=>bi e' (by rw[tQ]at gU;subst gU;simp;lia)) (show hR G aL aW sc [e]=some [dx]from cF Eh rfl) (show iX O [dx] H C=some ([.int n],aw)from cF he rfl) aX F bV (JM .range) λbe dN vs g1 bh=> ?_;obtain⟨w,rfl,hA⟩:=bh.aS;exact TI g1.ok hA hn λbF it bd Y ae ba cp dF=>h bF dN it (g1.trans bd) (g1.xZ (λq=>ae<|Ay g1 q) Y) ae ba cp dF (V (c2 _)<|V tY<|by lia)
def TK{cE:List I}(bi:mO s.heap M it cf cE i)(h:Q (.ref it) s):wpAny (model c.prog c.w) A (pyIter<|.ref it) Q aB s:=by
 rcases bi with⟨t,vs,B,fG,cq⟩|⟨k,p,eE,hc,fG⟩|⟨n,jV,jW,tn,tp,fG⟩
 ·exact wpAny_pyIter_tupleiter fG h
 ·exact wpAny_pyIter_listiter fG h
 ·exact wpAny_pyIter_rangeiter fG h
def J5(h:c9 G aL aW sc iter=some dx)(aN:Env)(x:Value):foldedSetIterable iter aN x=pure x:=by
 cases iter<;>first|rfl|contradiction
def J6(T:fY c P G K cV ei e4){pos:Pos}{qS:b2}{cE ys:List I}(vU:dv c G O d elt)(pO:∀e∈ifs,hy c G O d e)(ao:scope.kind=.function)(Y:zG scope.names)(ae:tF scope.names)(ba:zH aL sc scope.names)(cp:(scope.names.map (·.1)).Nodup)(Eh:c9 G (h4 (h3 scope.names) aW++aL) (aW+(h3 scope.names).length) scope.names elt=some dx)(TL:hR G (h4 (h3 scope.names) aW++aL) (aW+(h3 scope.names).length) scope.names ifs=some ie)(Dw:mI (h4 (h3 scope.names) aW++aL) scope.names cL=some mt)(TM:c9 G aL aW sc iter=some qS)(aX:eo d A)(F:dS c W aW aL sc aN s.heap M H)(bV:bJ c.w c.N c.au s.heap M C)(Ei:Ax c A s M aw cf cE iter aN)(ag:iq (λs=>hg s cf cE) (D7 O dx mt ie H) cE aw=some (ys,S))(Ej:∀aY bt D aI mb eH,bX c [] s M aY bt S->s.heap.get? D=none->s.heap.get? aI=none->D≠aI->(D∉foot bt/\c.au.get? D=none)->(aI∉foot bt/\c.au.get? aI=none)->aY.heap.get? D=some {cls:=.type "list",data:=.seq mb eH}->b7 aY.heap bt mb.toList ys->ys.length<=16000000->
   (∃m,aY.heap.Ns aI m)->compPost (model c.prog c.w) A aB use Q (.ref D) aI (.ok .next) aY):
  wpAny (model c.prog c.w) A (comprehension (.ListComp elt [⟨cL,iter,ifs,0⟩] scope pos) scope aN (firstIterPos [⟨cL,iter,ifs,0⟩] pos) (newList []) false (eval iter aN) use) Q aB s:=by
 have vR:∀p∈scope.names,p.2=.free->∃ca,aN.cells.lookup p.1=some ca:=λp ab hf=>by
  have q:=hh ba _ ab;rw[hf]at q;simp only[bne_self_eq_false,Bool.false_or,Bool.and_eq_true,qR,beq_iff_eq]at q;exact(hT q.2).elim λi ah=>(F.cells p.1 i q.1 ah).elim λca q=>q.elim λu q=>⟨ca,q.1⟩
 have As:∀{x},scope.names.lookup x≠some .cell:=λac=>absurd (hh Y _<|PySem.mem_of_lookup ac) (by simp);refine wpAny_comprehension_free (gs:=[]) rfl (J5 TM aN) (Tp vR) ao (λx ac an=>xX cp<|an▸ac) ?_;refine Ei _ _ λbe dN it g1 vV Ek El x1 fG t7=>wpAny_newList ?_;have g7:=F.step g1;have gH:=bX.push (W:=[]) g1.ok {cls:=.type "list",data:=.seq ([]:List Value).toArray} be.toks;have J7:=rV be.heap;refine wpAny_newFunctionEnv (λx ac se=>absurd (hh Y _ ac)<|by simp [se]) (λx ac=>absurd ac b4) (λAz qL vL=> ?_) ao;dsimp only at qL vL⊢;have J8:∀{b o},be.heap.get? b=some o->(be.heap.push {cls:=.type "list",data:=.seq ([]:List Value).toArray}).get? b=some o:=λe=>Heap.get?_push_of_some _ e;have Em:=Heap.get?_push_size be.heap (o:={cls:=.type "list",data:=.seq ([]:List Value).toArray}) rfl;generalize be.heap.push {cls:=.type "list",data:=.seq ([]:List Value).toArray}=ab at qL vL gH J8 Em⊢;have En:=rV ab;have J9:∀b o,ab.get? b=some o->Az.get? b=some o:=λb o e=>(vL.2 b<|dV<|Heap.lt_size e).trans<|Heap.get?_push_of_some _ e;have AA:bX c [] {be with heap:=ab,toks:=be.toks} dN {be with heap:=Az,toks:=be.toks} dN aw:=bX.ou gH.ok ⟨Az,be.toks,rfl,J9⟩;have TN:=(dS.comp (aI:=ab.objs.size) (g7.step gH) gH.ok ao Y ae ba cp En qL AA).1;obtain⟨Ka,TO⟩:=g1.ok.tP J7;obtain⟨TP,TQ⟩:=gH.ok.tP En;have Kb:be.heap.objs.size≠ab.objs.size:=dV<|Heap.lt_size Em;have TR:it≠be.heap.objs.size:=x1.elim λo q=>dV<|Heap.lt_size q.1;have vW:it≠ab.objs.size:=x1.elim λo q=>dV<|Heap.lt_size<|J8 q.1;have sb:=(nF.step (W:=[]) ⟨fG,⟨Ek,El⟩,x1⟩ gH b4 vT).step AA b4 vT;have vS:∀x i,oh (h4 (h3 scope.names) aW++aL) scope.names x=some i->H i=none:=λx i ac=>by
  obtain⟨q,aR⟩:=xS ac;have q:scope.names.lookup x=some .local:=q.elim id λq=>absurd q As;refine vP (λr=>F.top _ (vQ r).2.1) (λr bf=> ?_) aR;by_cases bC:x=(".0":Str)
  ·exact bj<|bu F.dot<|bC▸bf
  ·exact(JR (n:=aW) (i2 ⟨(x,.local),r8.mpr ⟨PySem.mem_of_lookup q,dJ rfl<|bne_iff_ne.mpr bC⟩,rfl⟩:x∈h3 scope.names)).elim λj aQ=>bj<|bu r aQ
 have loop:codeAny (model c.prog c.w) A (.compLoop (.ListComp elt [⟨cL,iter,ifs,0⟩] scope pos) 0 (.ref it) (.ref be.heap.objs.size)<|compEnvC scope (r6 aN scope.names) ab.objs.size aN) (compPost (model c.prog c.w) A aB use Q (.ref be.heap.objs.size) ab.objs.size) {be with heap:=Az,toks:=be.toks}:=by
  refine TD (aN:=compEnvC scope (r6 aN scope.names) ab.objs.size aN) vU pO Eh TL Dw vS aX t7 Kb vW TR.symm (λx ca h=> ?_) 0 [] _ dN aw ys S _ #[] 0 rfl ag TN AA.ok sb ⟨⟨Ka,TO⟩,J9 _ _ Em,.nil⟩ (gF _) (jB _) λaY bt mb eH eP oL nA sd sf=> ?_
  ·have r7:aN.cells.lookup x=some ca:=(vR (x,.free) (Ap h).1 rfl).elim λDJ e=>e.trans<|ai some ((Ap h).2.trans<|V e rfl).symm;refine⟨(g7.lx x ca r7).elim λu q=>q.elim λo q=>dV<|Heap.lt_size q.1,λq=> ?_⟩;exact(F.lx x ca r7).elim λu r=>r.elim λo r=>bj<|bu vV<|q▸r.1
  ·have TS:bX c [ab.objs.size,it,be.heap.objs.size] s M aY bt S:=((g1.ia.trans gH.ia).trans AA.ia).trans eP;have Kc:s.heap.get? ab.objs.size=none:=(g1.trans gH).xZ (λq=>TP<|Ay g1 q) En;have Kd:s.heap.get? be.heap.objs.size=none:=g1.xZ (λq=>Ka<|Ay g1 q) J7;have TT:=TS.tJ<|mL.mpr ⟨Kc,mL.mpr ⟨vV,mL.mpr ⟨Kd,λB h=>absurd h b4⟩⟩⟩;exact Ej aY bt _ _ mb eH TT Kd Kc Kb oL.fR ⟨sf,TQ⟩ oL.obj oL.At nA sd
 exact codeAny_compStart_list loop<|TK sb.d2 loop
def bJ.Eo{au:Heap}(x:bJ w N au h M C){D:Addr}(nx:h.get? D=some o)(fL:o.cls≠.type "tuple")(hf:D∉foot M)(aj:au.get? D=none)(r:g5 h M h (M++[(D,none)])->ot w N h (M++[(D,none)]) (D,none) o'):bJ w N au h (M++[(D,none)]) (C++[o']):=by
 have aS:∀{b},b∈foot (M++[(D,none)])->b∈foot M\/b=D:=λ{b} aj=>(gc<|show b∈foot M++foot [(D,none)]from oo M [(D,none)]▸aj).imp_right bT;have K:g5 h M h (M++[(D,none)]):=⟨⟨_,rfl⟩,λb gT e cl B n=>⟨e,λq=>(aS q).elim n λq=>fL<|br ((q▸e).symm.trans nx)▸cl⟩⟩;refine⟨x.keep,λb ov=>(aS ov).elim (x.fR b) λq=>q▸aj,by simp [x.len],?_,λj q gT aC aA=> ?_⟩
 ·exact V (oo _ _)<|kU.mpr ⟨x.nodup,tN _ _,λa aT b ov e=>hf<|(show a=D from e.trans<|bT ov)▸aT⟩
 ·by_cases aQ:j<M.length
  ·exact(x.objs j q gT ((nr aQ).symm.trans aC)<|(nr<|c7 aQ<|cP x.len).symm.trans aA).keeps K (λy e=>e) λd y B e=>e
  ·obtain rfl:j=M.length:=Nat.le_antisymm (pC<|c7 (h6 aC).1<|cP er)<|Nat.not_lt.mp aQ;obtain rfl:=br<|bu List.getElem?_concat_length aC;obtain rfl:=br<|bu List.getElem?_concat_length<|x.len▸aA;exact r K
def bX.Eo(g:bX c [] s M aY bt S){D:Addr}{vs:Array Value}{n:Nat}(h0:s.heap.get? D=none)(nx:aY.heap.get? D=some {cls:=.type "list",data:=.seq vs n})(hf:D∉foot bt)(aj:c.au.get? D=none)(r:b7 aY.heap bt vs.toList l)(an:l.length<=16000000):
  bX c [] s M aY (bt++[(D,none)]) (S++[.list l])/\bb aY.heap (bt++[(D,none)]) (.ref D) (.L S.length):=
 have d9:=bJ.Eo g.ok nx (show¬Value.type "list"=.type "tuple" by decide) hf aj (o':=.list l) λK=>⟨rfl,vs,n,nx,r.keep K,an⟩
 ⟨⟨⟨g.tr.pre.elim λh5 q=>⟨h5++[(D,none)],q.1▸iG _ _ _,λb ov=>(gc<|show b∈foot h5++foot [(D,none)]from oo h5 [(D,none)]▸ov).elim (q.2 b) λq=>.inl<|bT q▸h0⟩,g.tr.km,g.tr.alive,g.tr.tH⟩,d9,g.gens,g.drawn,g.os⟩,bb.last (p:=(D,none)) g.ok⟩
def TU{pos:Pos}{m:b2}(h:c9 G aL aW sc (.ListComp elt gens scope pos)=some m)(k:∀cL iter ifs vX ie mt qS,
  gens=[⟨cL,iter,ifs,0⟩]->scope.kind=.function->zG scope.names->tF scope.names->zH aL sc scope.names->(scope.names.map (·.1)).Nodup->
  c9 G (h4 (h3 scope.names) aW++aL) (aW+(h3 scope.names).length) scope.names elt=some vX->hR G (h4 (h3 scope.names) aW++aL) (aW+(h3 scope.names).length) scope.names ifs=some ie->mI (h4 (h3 scope.names) aW++aL) scope.names cL=some mt->c9 G aL aW sc iter=some qS->
  ((∃qM i,qS=.cw .range qM/\xu iter/\mt=.aS i/\m=.jX vX i qM ie)\/m=.comp vX mt qS ie)->R):R:=by
 refine vt h λao h=>bW h λvX AB h=> ?_;cases gens with
 |nil=>exact bj h
 |cons g gs=>
  obtain⟨cL,iter,ifs,Ke⟩:=g;have TV:Ke=0/\gs=[]:=by
   cases Ke with
   |negSucc n=>exact bj h
   |ofNat n=>
    cases n with
    |succ n=>exact bj h
    |zero=>
     cases gs with
     |nil=>exact⟨rfl,rfl⟩
     |cons B cq=>exact bj h
  obtain⟨rfl,rfl⟩:=TV;refine d1 h λag h=>bW h λie k4 h=>bW h λmt pR h=>bW h λqS t8 h=> ?_;refine k cL iter ifs vX ie mt qS rfl (Decidable.not_not.mp λq=>ao<|bne_iff_ne.mpr q) (bP<|bP<|bP ag) (cN<|bP<|bP ag) (cN<|bP ag) (dw<|cN ag) AB k4 pR t8 ?_
  clear t8
  cases qS with
  |cw b e=>
   cases b with
   |range=>
    cases mt with
    |aS i=>exact d1 h λoK h=>.inl ⟨e,i,rfl,oK,rfl,(br h).symm⟩
    |iV B=>exact bj h
   |_=>exact .inr (br h).symm
  |_=>exact .inr (br h).symm
def TW(dx:b2)(i:Nat)(ie:List b2):D7 O dx (.aS i) ie H=λx s=>(gr O ie (ar H i x) s).bind λq=>if q.1 then(bq O dx (ar H i x) q.2).bind λu=>some (some u.1,u.2)else some (none,q.2):=rfl
theorem Kf(T:fY c P G K cV ei e4){pos:Pos}{m:b2}(bi:∀e,sizeOf e<sizeOf (Expr.ListComp elt gens scope pos)->dv c G O d e/\hy c G O d e)(ag:c9 G aL aW sc (.ListComp elt gens scope pos)=some m)(he:bq O m H C=some (z,S))(aX:eo d A)(F:dS c W aW aL sc aN s.heap M H)(bV:bJ c.w c.N c.au s.heap M C)(Ej:∀aY bt D aI,bX c [] s M aY bt S->bb aY.heap bt (.ref D) z->s.heap.get? aI=none->aI∉foot bt->c.au.get? aI=none->(∃m,aY.heap.Ns aI m)->compPost (model c.prog c.w) A aB use Q (.ref D) aI (.ok .next) aY):
  wpAny (model c.prog c.w) A (comprehension (.ListComp elt gens scope pos) scope aN (firstIterPos gens pos) (newList []) (firstAsync gens) (firstIter gens aN) use) Q aB s:=by
 refine TU ag λcL iter ifs vX ie mt qS bB ao a6 bR d4 eR AB k4 pR t8 hm=> ?_
 clear ag
 subst bB;have vU:=(bi elt (by simp;exact xq)).1;have pO:∀e∈ifs,hy c G O d e:=λe he=>(bi e (by have:=List.sizeOf_lt_of_mem he;simp;lia)).2;have fin:∀(ys:List I) (bn:St),some (I.L bn.length,bn++[b5.list ys])=some (z,S)->∀aY bt D aI mb eH,bX c [] s M aY bt bn->s.heap.get? D=none->s.heap.get? aI=none->D≠aI->(D∉foot bt/\c.au.get? D=none)->(aI∉foot bt/\c.au.get? aI=none)->aY.heap.get? D=some {cls:=.type "list",data:=.seq mb eH}->b7 aY.heap bt mb.toList ys->ys.length<=16000000->
   (∃m,aY.heap.Ns aI m)->compPost (model c.prog c.w) A aB use Q (.ref D) aI (.ok .next) aY:=λys bn e aY bt D aI mb eH g Y ae ba cp dF t9 sg iL gw=>
  have q:=g.Eo Y t9 cp.1 cp.2 sg iL
  Ej aY _ D aI ((dC e).2▸q.1) ((dC e).1▸q.2) ae (λq=>(gc<|show aI∈foot bt++foot [(D,none)]from oo bt [(D,none)]▸q).elim dF.1 λq=>ba (bT q).symm) dF.2 gw
 rcases hm with⟨qM,i,aD,oK,aF,rfl⟩|rfl
 ·subst aD aF;refine c0 he λfb aw Y he=>Aj he λn hz he=>d1 he λhn he=>c0 he λys bn ae TX=> ?_;subst hz;exact J6 T vU pO ao a6 bR d4 eR AB k4 pR t8 aX F bV (J4 (A:=A) (s:=s) (M:=M) T (λe he=>(bi e (by simp at he⊢;lia)).1) t8 oK Y hn aX F bV) (cf:=none) (ys:=ys) (S:=bn) (V (TW _ _ _) ae)<|fin ys bn TX
 ·refine c0 he λfb aw Y he=>c0 he λl cf an he=>c0 he λys bn ae he=> ?_;exact J6 T vU pO ao a6 bR d4 eR AB k4 pR t8 aX F bV (J3 (A:=A) (s:=s) (M:=M) (bi iter (by simp;lia)).1 t8 Y an aX F bV) (cf:=cf) (ys:=ys) (S:=bn) ae<|fin ys bn he
def TY(T:fY c P G K cV ei e4){pos:Pos}(bi:∀e,sizeOf e<sizeOf (Expr.ListComp elt gens scope pos)->dv c G O d e/\hy c G O d e):dv c G O d (.ListComp elt gens scope pos):=by intro W aW aL sc aN A aB s M H C S z dx Q ag he aX F db h;rw[eval_ListComp];refine Kf (use:=none) T bi ag he aX F db λaY bt D aI g r x2 AC Ep ⟨m,hm⟩=>⟨m,hm,λaO aJ=> ?_⟩;have q:=bX.cell (t:=aY.toks) g.ok ⟨AC,Ep⟩ aJ λo' e B ⟨cq,eE,q⟩=>hm.elim λo r=>r.elim λB r=>r.elim λB r=>nomatch (br (bu r.1 e)▸r.2.1).symm.trans q;exact h _ bt _ ((g.ia.trans q.1).tJ λb aj=>bT aj▸x2)<|r.keep q.2
def DZ.tr{e:Expr}(h:DZ c G O d e):hy c G O d e:=λW aW aL sc aN A aB s M H C S z t dx Q=>h W aW aL sc aN A aB s M H C S z t dx Q _
def oO{e:Expr}(h:∀aW aL sc,c9 G aL aW sc e=none):dv c G O d e/\hy c G O d e:=⟨λB B B B B B B B B B B B B B B ag=>bj<|(h _ _ _).symm.trans ag,λB B B B B B B B B B B B B B B B ag=>bj<|(h _ _ _).symm.trans ag⟩
def x3{ax:List Expr}{e:Expr}{n:Nat}(h:e∈ax)(k:sizeOf ax<n):sizeOf e<n:=ec (List.sizeOf_lt_of_mem h) k
theorem TZ{a b:Nat}:a<1+a+b:=by lia
theorem AD{a b c:Nat}:a<1+b+a+c+d:=by lia
theorem Kg(T:fY c P G K cV ei e4)(ic:r3 c P cV O d)(n:Nat):∀(e:Expr),sizeOf e<n->dv c G O d e/\hy c G O d e:=by
 induction n with
 |zero=>exactλe h=>absurd h<|ua _
 |succ n ay=>
  intro e hn;have bi:∀{e'},sizeOf e'<sizeOf e->dv c G O d e'/\hy c G O d e':=λh=>ay _<|c7 h<|pC hn
  clear hn ay
  have f9:∀{e},(∀aN eY,isTrue e aN eY=(do let v<-eY;standAt e.pos;holding [v]<|truthy v))->dv c G O d e->dv c G O d e/\hy c G O d e:=λh k=>⟨k,SQ k h⟩;cases e with
  |Constant bK k p=>exact f9 (λB B=>rfl)<|Sy bK k p
  |Name x p=>exact f9 (λB B=>rfl)<|SB T x p
  |BoolOp op vs p=>have hm:∀e'∈vs,dv c G O d e'/\hy c G O d e':=λe' he=>bi<|V (Expr.BoolOp.sizeOf_spec op vs p)<|x3 he C8;exact⟨SO T op p λe' he=>(hm e' he).1,(SP T op p λe' he=>(hm e' he).2).tr⟩
  |BinOp l op r p=>exact f9 (λB B=>rfl)<|SD T op p (bi (e':=l) xq).1 (bi (e':=r) zD).1
  |UnaryOp op x p=>
   have ac:=bi (e':=x) C8;cases op with
   |Not=>exact⟨JE T .Not p ac.1,SR p ac.2⟩
   |_=>exact f9 (λB B=>rfl)<|JE T _ p ac.1
  |IfExp t b o p=>have aP:=bi (e':=t) xq;have aj:=bi (e':=b) AD;have aA:=bi (e':=o) zD;exact⟨SE T p aP.2 aj.1 aA.1,SS p aP.2 aj.2 aA.2⟩
  |Dict dP vs p=>
   cases dP with
   |nil=>
    cases vs with
    |nil=>exact f9 (λB B=>rfl)<|SF p
    |cons B cq=>exact oO λB B B=>rfl
   |cons B cq=>exact oO λB B B=>rfl
  |List ax p=>exact f9 (λB B=>rfl)<|SH T p λe' he=>(bi (e':=e')<|V (Expr.List.sizeOf_spec ax p)<|x3 he TZ).1
  |Tuple ax k p=>exact f9 (λB B=>rfl)<|SG T k p λe' he=>(bi (e':=e')<|V (Expr.Tuple.sizeOf_spec ax k p)<|x3 he zE).1
  |ListComp elt gens scope p=>exact f9 (λB B=>rfl)<|TY T λe h=>bi h
  |Compare l ops cs p=>
   have an:=(bi (e':=l) xq).1;have ag:∀e'∈cs,dv c G O d e':=λe' he=>(bi (e':=e')<|V (Expr.Compare.sizeOf_spec l ops cs p)<|x3 he zD).1
   clear bi
   cases ops with
   |nil=>exact oO λB B B=>rfl
   |cons gT os=>
    cases cs with
    |nil=>exact oO λB B B=>by rcases os with _|⟨B,cq|eE⟩<;>rfl
    |cons bh aV=>
     have Y:=ag bh bp;cases os with
     |nil=>
      cases aV with
      |nil=>exact⟨SI T gT p an Y,SJ T gT p an Y⟩
      |cons B cq=>exact oO λB B B=>rfl
     |cons gD os=>
      cases os with
      |cons B cq=>exact oO λB B B=>rfl
      |nil=>
       cases aV with
       |nil=>exact oO λB B B=>rfl
       |cons bf aV=>
        have ae:=ag bf<|bQ _ bp;cases aV with
        |nil=>exact⟨SK T gT gD p an Y ae,SM T gT gD p an Y ae⟩
        |cons B cq=>exact oO λB B B=>rfl
  |Call f args Eg p=>
   cases Eg with
   |cons k dP=>exact oO λB B B=>by cases f<;>rfl
   |nil=>
    have Kh:∀e'∈args,dv c G O d e':=λe' he=>(bi (e':=e')<|V (Expr.Call.sizeOf_spec f args [] p)<|x3 he AD).1;cases f with
    |Name x q=>exact f9 (λB B=>rfl)<|S3 T ic x q p Kh
    |Attribute o n q=>exact f9 (λB B=>rfl)<|Te T ic n q p (bi (e':=o)<|V (Expr.Call.sizeOf_spec (.Attribute o n q) args [] p)<|ec (show sizeOf o<sizeOf (Expr.Attribute o n q)from zE) xq).1 Kh
    |_=>exact oO λB B B=>rfl
  |Attribute o n p=>exact f9 (λB B=>rfl)<|ST T ic n p (bi (e':=o) zE).1
  |Subscript o i p=>
   have pM:=(bi (e':=o) zE).1;have pO:=bi (e':=i) C8;have gen:(∀aW aL sc,c9 G aL aW sc (.Subscript o i p)=(c9 G aL aW sc o).bind λe=>(c9 G aL aW sc i).map λi=>.av e i)->dv c G O d (.Subscript o i p)/\hy c G O d (.Subscript o i p):=λqL=>f9 (λB B=>rfl)<|SV T p pM pO.1 λaW aL sc m ag=>bW ((qL aW aL sc).symm.trans ag) λes Y ag=>dt ag λcU ae e=>⟨es,cU,Y,ae,e.symm⟩
   cases i with
   |Slice ce ah st q=>
    cases st with
    |none=>exact f9 (λB B=>rfl) (SW T q p pM (λe he=>(bi (by subst he;simp;lia)).1) λe he=>(bi (by subst he;simp;lia)).1)
    |some st=>exact gen λB B B=>rfl
   |_=>exact gen λB B B=>rfl
  |_=>exact oO λB B B=>rfl
end
end
section
section
variable{P:jy}{G:gS}
variable{x:I}{a b:Value}
theorem h7.AE(x:h7 (W1++W) h M aO bt)(hv:∀b∈W1,h.get? b=none):h7 W h M aO bt:=
 ⟨x.pre.elim λh5 q=>⟨h5,q.1,λb aj=>(q.2 b aj).elim .inl λq=>(gc q).elim (λq=>.inl<|hv b q) .inr⟩,
  λb o e n m=>x.km b o e n λq=>(gc q).elim (λq=>bj ((hv b q).symm.trans e)) m,x.alive,x.tH⟩
theorem bX.AE(x:bX c (W1++W) s M aY bt S)(hv:∀b∈W1,s.heap.get? b=none):bX c W s M aY bt S:=⟨x.tr.AE hv,x.ok,x.gens,x.drawn,x.os⟩
theorem Ki{β:Type}{f:Int->Int->Option β}{r:β}(e:(match x,y with|.int i,.int j=>f i j|_,_=>none)=some r)(k:∀i j,x=.int i->y=.int j->f i j=some r->R):R:=by
 cases x with
 |int i=>
  cases y with
  |int j=>exact k i j rfl rfl e
  |_=>exact bj e
 |_=>exact bj e
def x4(h:Heap)(M:c6):Flow->eG->Prop
 |.next,.next=>True
 |.ret v,.ret d=>bb h M v d
 |B,cq=>False
def hU(c:Ctx)(G:gS)(O:ht)(d:Nat)(st:Stmt):Prop:=
 ∀(W:List Addr) (aW:Nat) (aL:jz) (sc:Sc) (aN:Env) (A:Around) (aB:Value->Shared->Prop) (s:Shared) (M:c6) (H aU:bS) (C S:St) (fu:eG) (ms:dA) (Q:Flow->Shared->Prop),
  zI G aL aW sc st=some ms->cr O ms H C=some (fu,aU,S)->eo d A->dS c W aW aL sc aN s.heap M H->bJ c.w c.N c.au s.heap M C->
  (∀aY bt dm,bX c W s M aY bt S->dS c W aW aL sc aN aY.heap bt aU->x4 aY.heap bt dm fu->Q dm aY)->wpAny (model c.prog c.w) A (exec st aN) Q aB s
theorem x5(ss:List Stmt):(∀st∈ss,hU c G O d st)->∀{ms:List dA} {fu:eG} {s:Shared} {M:c6} {H aU:bS} {C S:St} {Q:Flow->Shared->Prop},oi G aL aW sc ss=some ms->cG O ms H C=some (fu,aU,S)->eo d A->dS c W aW aL sc aN s.heap M H->bJ c.w c.N c.au s.heap M C->
  (∀aY bt dm,bX c W s M aY bt S->dS c W aW aL sc aN aY.heap bt aU->x4 aY.heap bt dm fu->Q dm aY)->wpAny (model c.prog c.w) A (execs ss aN) Q aB s:=by
 induction ss with
 |nil=>intro _ ms fu s M H aU C S Q h e aX F bV et;obtain rfl:=br h;obtain⟨rfl,rfl,rfl⟩:=kk e;exact wpAny_execs_nil<|et s M .next (.refl bV) F trivial
 |cons st ss ay=>
  intro bi ms fu s M H aU C S Q h e aX F bV et;refine bW h λes ey h=>dt h λqM j3 bM=> ?_;subst bM;refine c0 e λa6 bh Y e=> ?_;refine wpAny_execs_cons<|bi st bp _ _ _ _ _ _ _ _ _ _ _ _ _ _ _ _ ey Y aX F bV λbe dN dm g1 g7 bh=> ?_;cases a6 with
  |next=>
   cases dm with
   |next=>exact ay (λst he=>bi st<|bQ _ he) j3 e aX g7 g1.ok λbF ft dm bd cC bf=>et _ _ _ (g1.trans bd) cC bf
   |_=>exact bh.elim
  |ret v=>
   cases dm with
   |ret u=>obtain⟨rfl,rfl,rfl⟩:=kk e;exact et _ _ _ g1 g7 bh
   |_=>exact bh.elim
theorem T1{e:Expr}(h:c9 G aL aW sc e=some dx)(hn:∀a b c d,e≠.ListComp a b c d)(t:Option Expr)(l:Nat)(aN:Env):swapsWith e t l aN=pure false:=by
 cases e with
 |ListComp a b c d=>exact absurd rfl<|hn a b c d
 |SetComp=>exact bj h
 |DictComp=>exact bj h
 |GeneratorExp=>exact bj h
 |_=>rfl
theorem T2(e:Expr)(o:Expr)(n:Str)(p:Pos)(l:Nat)(aN:Env):swapsWith e (some<|.Attribute o n p) l aN=pure false:=by
 cases e<;>rfl
theorem T3(e:Expr)(o i:Expr)(p:Pos)(l:Nat)(aN:Env):swapsWith e (some<|.Subscript o i p) l aN=pure false:=by
 cases e<;>rfl
theorem T4{p:Pos}(x:Str)(q:Pos)(l:Nat)(aN:Env):∃b,swapsWith (.ListComp elt gens scope p) (some<|.Name x q) l aN=pure b:=⟨_,rfl⟩
theorem Kj{op:Operator}{o:od}(h:¬(op !=.Add&&op !=.Sub)=true)(ag:tD op=some o):o=.add\/o=.sub:=by
 cases op with
 |Add=>exact .inl (br ag).symm
 |Sub=>exact .inr (br ag).symm
 |_=>exact absurd rfl h
variable(T:fY c P G K cV ei e4)(ic:r3 c P cV O d)(c3:∀e,dv c G O d e)(tr:∀e,hy c G O d e)
include T c3 tr in
theorem T5(t v:Expr)(pos:Pos)(aP:∃x p,t=.Name x p):hU c G O d (.Assign [t] v pos):=by
 obtain⟨x,p,rfl⟩:=aP;intro W aW aL sc aN A aB s M H aU C S fu ms Q ag he aX F bV et;refine bW ag λm hm ag=>dt ag λcL AF bM=> ?_;subst bM;refine c0 he λz aw Y he=>bW he λcg ae he=> ?_;obtain⟨rfl,rfl,rfl⟩:=kk he;have plain:swapsWith v (some<|.Name x p) pos.line aN=pure false->wpAny (model c.prog c.w) A (exec (.Assign [.Name x p] v pos) aN) Q aB s:=λaJ=>by
  refine V (exec_Assign_Name aN x p v pos aJ)<|wpAny_bind<|wpAny_standAt<|wpAny_bind<|c3 v _ _ _ _ _ _ _ _ _ _ _ _ _ _ _ hm Y aX F bV λbe dN ez g1 bh=> ?_;refine dt AF λi ah bM=> ?_;subst bM;exact wpAny_bind<|wpAny_standAt<|wpAny_bind<|(F.step g1).Af g1.ok ah bh λbF cC bd=>wpAny_pure<|et bF dN .next (g1.ia.trans bd) (br ae▸cC) trivial
 have comp:(∃a b c d,v=.ListComp a b c d)->wpAny (model c.prog c.w) A (exec (.Assign [.Name x p] v pos) aN) Q aB s:=λ⟨elt,gens,scope,q,aR⟩=>by
  subst aR;obtain⟨b,aj⟩:=T4 (elt:=elt) (gens:=gens) (scope:=scope) (p:=q) x p pos.line aN;cases b with
  |false=>exact plain aj
  |true=>
   clear plain
   refine V (exec_Assign_Name_used x p _ pos aj)<|wpAny_bind<|wpAny_standAt<|wpAny_bind ?_;show wpAny _ _ (do let _<-comprehension (.ListComp elt gens scope q) scope aN (firstIterPos gens q) (newList []) (firstAsync gens) (firstIter gens aN) (some<|assign (.Name x p) aN)) _ _ _;refine wpAny_bind<|Kf (use:=some<|assign (.Name x p) aN) (Q:=λB bF=>wpAny (model c.prog c.w) A (pure PUnit.unit) (λB s3=>wpAny (model c.prog c.w) A (pure .next) Q aB s3) aB bF) T (λe B=>⟨c3 e,tr e⟩) hm Y aX F bV λbe dN D aI g1 bh x2 AC Ep ⟨T6,T7⟩=> ?_;have Er:aI∉W:=λq=>(F.ly _ q).2.2.elim λo q=>bj<|bu x2 q.1;have Ad:∀x ca,aN.cells.lookup x=some ca->ca≠aI:=λx ca h q=>(F.lx x ca h).elim λu r=>r.elim λo r=>bj<|bu x2<|q▸r.1;obtain⟨T8,T9,Ua,Ub,Kk,Uc⟩:=id T7;refine Ao aX (F.step g1) g1.ok AF bh ae λbF cC bd=> ?_;have Kl:=bd.tr.km _ _ Ub AC Er;refine⟨T6,⟨T8,T9,Ua,Kl,Kk,Uc⟩,λaO aJ=>wpAny_pure<|wpAny_pure ?_⟩;have Km:∀o,bF.heap.get? aI=some o->o.cls=.type "tuple"->(∃dQ n,o.data=.seq dQ n)->False:=λo e B ⟨cq,eE,q⟩=>nomatch (br (bu Kl e)▸Kk).symm.trans q;obtain⟨cQ,acG⟩:=bX.cell (t:=bF.toks) bd.ok ⟨AC,Ep⟩ aJ Km;have lB:=cC.xR cQ (λb aj o e cl q=>Km o (bT aj▸e) cl q) λb aj=>bT aj▸⟨λq=>Er<|q▸F.xQ,Er,Ad⟩;have AG:bX c ([aI]++W) s M {bF with heap:=aO} dN aw:=(g1.ia.trans<|bd.ci λb aj=>i1 _ aj).trans<|cQ.ci λb aj=>jh _ aj;exact et _ dN .next (AG.AE λb aj=>bT aj▸x2) lB trivial
 by_cases Kn:∃a b c d,v=.ListComp a b c d
 ·exact comp Kn
 ·exact plain<|T1 hm (λa b c d e=>Kn ⟨a,b,c,d,e⟩) _ _ _
include c3 in
theorem Ud(ts:List Expr)(k:Nat)(p:Pos)(x:Str)(q pos:Pos):hU c G O d (.Assign [.Tuple ts k p] (.Name x q) pos):=by
 intro W aW aL sc aN A aB s M H aU C S fu ms Q ag he aX F bV et;refine bW ag λm hm ag=>dt ag λcL AF bM=> ?_;subst bM;refine c0 he λz aw Y he=>bW he λcg ae he=> ?_;obtain⟨rfl,rfl,rfl⟩:=kk he;show wpAny _ _ (do
   standAt pos
   let v<-eval (.Name x q) aN
   assign (.Tuple ts k p) aN v
   pure .next) Q aB s
 exact wpAny_bind<|wpAny_standAt<|wpAny_bind<|c3 _ _ _ _ _ _ _ _ _ _ _ _ _ _ _ _ hm Y aX F bV λbe dN ez g1 bh=>wpAny_bind<|Ao aX (F.step g1) g1.ok AF bh ae λbF cC bd=>wpAny_pure<|et bF dN .next (g1.ia.trans bd) cC trivial
include T ic c3 in
theorem Ue(o:Expr)(n:Str)(p:Pos)(v:Expr)(pos:Pos):hU c G O d (.Assign [.Attribute o n p] v pos):=by intro W aW aL sc aN A aB s M H aU C S fu ms Q ag he aX F bV et;refine bW ag λm hm ag=>bW ag λmo oP ag=>dt ag λk ao bM=> ?_;subst bM;refine c0 he λz aw Y he=>c0 he λt4 bn ae he=>bW he λcA ba he=> ?_;obtain⟨rfl,rfl,rfl⟩:=kk he;rw[ic.b1]at ba;refine plainObj_wpAny_Assign_Attribute (c3 v _ _ _ _ _ _ _ _ _ _ _ _ _ _ _ hm Y aX F bV λbe dN ez g1 bh=>c3 o _ _ _ _ _ _ _ _ _ _ _ _ _ _ _ oP ae aX (F.step g1) g1.ok λbF ft ee bd bf=> ?_)<|T2 _ _ _ _ _ _;exact Jn T.cls T.DK bd.ok bf (bh.keep bd.keep) (T.fr _ _ ao) ba λs3 iJ cQ=>et s3 iJ .next ((g1.trans bd).trans cQ).ia (((F.step g1).step bd).step cQ) trivial
include c3 in
theorem Uf(o i:Expr)(p:Pos)(v:Expr)(pos:Pos)(ah:∀ce ah st q,i≠.Slice ce ah st q):hU c G O d (.Assign [.Subscript o i p] v pos):=by
 intro W aW aL sc aN A aB s M H aU C S fu ms Q ag he aX F bV et;have ag:((c9 G aL aW sc v).bind λe=>(c9 G aL aW sc o).bind λo=>(c9 G aL aW sc i).map λi=>dA.setItem o i e)=some ms:=by
  cases i with
  |Slice B cq eE hc=>exact absurd rfl<|ah _ _ _ _
  |_=>exact ag
 refine bW ag λm hm ag=>bW ag λmo oP ag=>dt ag λie k4 bM=> ?_;subst bM;refine c0 he λz aw Y he=>c0 he λt4 bn ae he=>c0 he λacH cA ba he=>bW he λfD cp he=> ?_;obtain⟨rfl,rfl,rfl⟩:=kk he;refine wpAny_Assign_Subscript (c3 v _ _ _ _ _ _ _ _ _ _ _ _ _ _ _ hm Y aX F bV λbe dN ez g1 bh=>c3 o _ _ _ _ _ _ _ _ _ _ _ _ _ _ _ oP ae aX (F.step g1) g1.ok λbF ft ee bd bf=>c3 i _ _ _ _ _ _ _ _ _ _ _ _ _ _ _ k4 ba aX ((F.step g1).step bd) bd.ok λs3 iJ oJ cQ eA=> ?_)<|T3 _ _ _ _ _ _;exact RV aX cQ.ok (bf.keep cQ.keep) eA ((bh.keep bd.keep).keep cQ.keep) cp λs4 k1 eu=>et s4 k1 .next (((g1.trans bd).trans cQ).trans eu).ia ((((F.step g1).step bd).step cQ).step eu) trivial
include c3 in
theorem Ug(x:Str)(p:Pos)(op:Operator)(v:Expr)(pos:Pos):hU c G O d (.AugAssign (.Name x p) op v pos):=by
 intro W aW aL sc aN A aB s M H aU C S fu ms Q ag he aX F bV et;refine vt ag λi3 ag=>bW ag λm hm ag=>bW ag λi ah ag=>dt ag λo aA bM=> ?_;subst bM;refine bW he λacI h0 he=>c0 he λfb aw Y he=>Ki he λeh j8 bM aD he=>c0 he λoI bn ae he=> ?_;obtain⟨rfl,rfl,rfl⟩:=kk he
 clear he
 dsimp only at aD;subst bM aD;have Uh:rN aL sc x=some i:=(xS ah).1.elim (λq=>by delta rN;exact V q (xS ah).2) λq=>by delta rN;exact V q (xS ah).2
 refine wpAny_AugAssign_Name<|F.load Uh h0 λiM fM=>c3 v _ _ _ _ _ _ _ _ _ _ _ _ _ _ _ hm Y aX F bV λbe dN ez g1 bh=> ?_;refine IR g1.ok (fM.keep g1.keep) bh (Kj i3 aA) ae aA λbF ft ee bd bf=> ?_;have:=((F.step g1).step bd).Af (A:=A) (aB:=aB) (Q:=λB=>Q .next) bd.ok ah bf λs3 lB cQ=>et s3 ft .next ((g1.trans bd).ia.trans cQ) lB trivial
 exactλUi q Uj=>eF (Sem.wp_bindName ..)<|this Ui q Uj
include T ic c3 in
theorem Uk(o:Expr)(n:Str)(p:Pos)(op:Operator)(v:Expr)(pos:Pos):hU c G O d (.AugAssign (.Attribute o n p) op v pos):=by
 intro W aW aL sc aN A aB s M H aU C S fu ms Q ag he aX F bV et;refine vt ag λi3 ag=>bW ag λm hm ag=>bW ag λmo oP ag=>bW ag λk ao ag=>dt ag λEs Ko bM=> ?_;subst bM;have ao:=T.fr _ _ ao;refine c0 he λt4 aw Y he=>bW he λoI ae he=>c0 he λvN cA ba he=>Ki he λeh j8 bM aD he=>c0 he λacJ fD cp he=>bW he λiN dF he=> ?_;obtain⟨rfl,rfl,rfl⟩:=kk he
 clear he
 dsimp only at aD ae ba;subst bM aD;rw[ic.b1]at ae dF;refine wpAny_AugAssign_AttributeAny<|c3 o _ _ _ _ _ _ _ _ _ _ _ _ _ _ _ oP Y aX F bV λbe dN ez g1 bh=>Jj T.cls g1.ok bh ao ae λbF ft ee bd bf=>c3 v _ _ _ _ _ _ _ _ _ _ _ _ _ _ _ hm ba aX ((F.step g1).step bd) bd.ok λs3 iJ oJ cQ eA=> ?_;refine IR cQ.ok (bf.keep cQ.keep) eA (Kj i3 Ko) cp Ko λs4 k1 v4 eu dX=> ?_;exact Jn T.cls T.DK eu.ok (((bh.keep bd.keep).keep cQ.keep).keep eu.keep) dX ao dF λs5 DW i5=>et s5 DW .next ((((g1.trans bd).trans cQ).trans eu).trans i5).ia (((((F.step g1).step bd).step cQ).step eu).step i5) trivial
include c3 in
theorem Ul(o ce:Expr)(q p pos:Pos):hU c G O d (.Delete [.Subscript o (.Slice (some ce) none none q) p] pos):=by intro W aW aL sc aN A aB s M H aU C S fu ms Q ag he aX F bV et;refine bW ag λmo oP ag=>dt ag λSY D1 bM=> ?_;subst bM;refine c0 he λt4 aw Y he=>c0 he λUm bn ae he=>bW he λcA ba he=> ?_;obtain⟨rfl,rfl,rfl⟩:=kk he;refine wpAny_Delete<|wpAny_deleteEach_cons<|wpAny_delete_Subscript<|c3 o _ _ _ _ _ _ _ _ _ _ _ _ _ _ _ oP Y aX F bV λbe dN ez g1 bh=>wpAny_Slice<|V (evalPart_some _ _)<|c3 ce _ _ _ _ _ _ _ _ _ _ _ _ _ _ _ D1 ae aX (F.step g1) g1.ok λbF ft ee bd bf=>V (evalPart_none _)<|wpAny_pure<|wpAny_pure ?_;have cQ:=bX.push (W:=[]) bd.ok {cls:=.type "slice",data:=.fields #[ee,.none,.none]} bF.toks;exact R0 cQ.ok ((bh.keep bd.keep).keep cQ.keep) (Heap.IsSliceOf.new ..) (bf.keep cQ.keep) ba λs4 k1 eu=>wpAny_deleteEach_nil<|et s4 k1 .next (((g1.trans bd).trans cQ).trans eu).ia ((((F.step g1).step bd).step cQ).step eu) trivial
include c3 in
theorem Un(o i:Expr)(p pos:Pos)(ah:∀ce ah st q,i≠.Slice ce ah st q):hU c G O d (.Delete [.Subscript o i p] pos):=by
 intro W aW aL sc aN A aB s M H aU C S fu ms Q ag he aX F bV et;have ag:((c9 G aL aW sc o).bind λo=>(c9 G aL aW sc i).map λi=>dA.delItem o i)=some ms:=by
  cases i with
  |Slice B cq eE hc=>exact absurd rfl<|ah _ _ _ _
  |_=>exact ag
 refine bW ag λmo oP ag=>dt ag λie k4 bM=> ?_;subst bM;refine c0 he λt4 aw Y he=>c0 he λUm bn ae he=>bW he λcA ba he=> ?_;obtain⟨rfl,rfl,rfl⟩:=kk he;refine wpAny_Delete<|wpAny_deleteEach_cons<|wpAny_delete_Subscript<|c3 o _ _ _ _ _ _ _ _ _ _ _ _ _ _ _ oP Y aX F bV λbe dN ez g1 bh=>c3 i _ _ _ _ _ _ _ _ _ _ _ _ _ _ _ k4 ae aX (F.step g1) g1.ok λbF ft ee bd bf=> ?_;exact RW aX bd.ok (bh.keep bd.keep) bf ba λs4 k1 eu=>wpAny_deleteEach_nil<|et s4 k1 .next ((g1.trans bd).trans eu).ia (((F.step g1).step bd).step eu) trivial
include tr in
theorem Uo(t:Expr)(b o:List Stmt)(pos:Pos)(lz:∀st∈b,hU c G O d st)(pM:∀st∈o,hU c G O d st):hU c G O d (.If t b o pos):=by
 intro W aW aL sc aN A aB s M H aU C S fu ms Q ag he aX F bV et;refine bW ag λmt pR ag=>bW ag λacK x6 ag=>dt ag λmo oP bM=> ?_;subst bM;refine c0 he λg6 aw Y he=>c0 Y λfb bn ae Y=>bW Y λgv ba Y=> ?_;obtain⟨rfl,rfl⟩:=dC Y;refine wpAny_If<|tr t _ _ _ _ _ _ _ _ _ _ _ _ _ _ _ _ pR ae ba aX F bV λbe dN g1=> ?_;cases gv with
 |true=>exact x5 b lz x6 he aX (F.step g1) g1.ok λbF ft dm bd=>et _ _ _<|g1.ia.trans bd
 |false=>exact x5 o pM oP he aX (F.step g1) g1.ok λbF ft dm bd=>et _ _ _<|g1.ia.trans bd
include c3 in
theorem Up(e:Option Expr)(pos:Pos):hU c G O d (.Return e pos):=by
 intro W aW aL sc aN A aB s M H aU C S fu ms Q ag he aX F bV et;cases e with
 |none=>obtain rfl:=br ag;obtain⟨rfl,rfl,rfl⟩:=kk he;exact wpAny_Return_none<|et s M _ (.refl bV) F .none
 |some e=>refine dt ag λm hm bM=> ?_;subst bM;refine c0 he λfb aw Y he=> ?_;obtain⟨rfl,rfl,rfl⟩:=kk he;exact wpAny_Return_some<|c3 e _ _ _ _ _ _ _ _ _ _ _ _ _ _ _ hm Y aX F bV λbe dN ez g1 bh=>et be dN _ g1.ia (F.step g1) bh
include c3 in
theorem Uq(f:Expr)(as:List Expr)(dP:List Keyword)(p pos:Pos):hU c G O d (.Expr (.Call f as dP p) pos):=by intro W aW aL sc aN A aB s M H aU C S fu ms Q ag he aX F bV et;refine dt ag λm hm bM=> ?_;subst bM;refine c0 he λfb aw Y he=> ?_;obtain⟨rfl,rfl,rfl⟩:=kk he;exact wpAny_Expr_any (c3 _ _ _ _ _ _ _ _ _ _ _ _ _ _ _ _ hm Y aX F bV λbe dN ez g1 bh=>et be dN _ g1.ia (F.step g1) trivial) (by delta interactive;exact V F.kind rfl) rfl
end
end
section
section
variable{P:jy}{G:gS}
variable{x:I}{a b:Value}
theorem Ur{de:I->bS->St->Option (eG×bS×St)}{r:eG×bS×St}(h:fX en de [] H C=some r)(k:en C->(.next,H,C)=r->R):R:=d1 h λq e=>k q<|br e
theorem Us{de:I->bS->St->Option (eG×bS×St)}{r:eG×bS×St}(h:fX en de (x::xs) H C=some r)(k:en C->∀a6 cg aw,de x H C=some (a6,cg,aw)->(∀v,a6=.ret v->(.ret v,cg,aw)=r)->(a6=.next->fX en de xs cg aw=some r)->R):R:=by
 refine d1 h λq h=> ?_;cases aP:de x H C with
 |none=>rw[aP]at h;exact bj h
 |some p=>
  rw[aP]at h;obtain⟨a6,cg,aw⟩:=p;refine k q a6 cg aw aP (λv e=> ?_) λe=> ?_
  ·subst e;exact br h
  ·subst e;exact h
theorem Ut{test:bS->St->Option (Bool×St)}{body:bS->St->Option (eG×bS×St)}{n:Nat}{r:eG×bS×St}(h:kT test body (n+1) H C=some r)(Uu:∀aw,test H C=some (false,aw)->(.next,H,aw)=r->R)(k:∀aw,test H C=some (true,aw)->∀a6 cg bn,body H aw=some (a6,cg,bn)->(∀v,a6=.ret v->(.ret v,cg,bn)=r)->(a6=.next->kT test body n cg bn=some r)->R):R:=by
 have h:(match test H C with
  |none=>none
  |some (false,aw)=>some (.next,H,aw)
  |some (true,aw)=>match body H aw with
   |none=>none
   |some (.ret v,dr,bn)=>some (.ret v,dr,bn)
   |some (.next,dr,bn)=>kT test body n dr bn)=some r:=h
 cases aP:test H C with
 |none=>rw[aP]at h;exact bj h
 |some p=>
  rw[aP]at h;obtain⟨t,aw⟩:=p;cases t with
  |false=>exact Uu aw aP<|br h
  |true=>
   dsimp only at h;cases aj:body H aw with
   |none=>rw[aj]at h;exact bj h
   |some p=>
    rw[aj]at h;obtain⟨a6,cg,bn⟩:=p;refine k aw aP a6 cg bn aj (λv e=> ?_) λe=> ?_
    ·subst e;exact br h
    ·subst e;exact h
theorem Uv{ax:List Stmt}{e:Stmt}{n:Nat}(h:e∈ax)(k:sizeOf ax<n):sizeOf e<n:=ec (List.sizeOf_lt_of_mem h) k
theorem Uw{a b c e:Nat}:a<1+b+c+a+d+e:=by lia
theorem Ux{rest:List I}{cg dr:bS}{bn:St}{a6:eG}{Q:Fin->Shared->Prop}(aP:mI aL sc cL=some mt)(aj:oi G aL aW sc body=some pS)(lz:∀st∈body,hU c G O d st)(aX:eo d A){cE:List I}(qT:it∉W)(AH:it≠aN.locals)(vW:∀x ca,aN.cells.lookup x=some ca->ca≠it)(bC:cE[i]? =some x)(hJ:hg C cf cE)(Y:gq mt x H=some cg)(ae:cG O pS cg C=some (a6,dr,bn))(F:dS c W aW aL sc aN s.heap M H)(bV:bJ c.w c.N c.au s.heap M C)(bi:nF c it cf cE i s M)(k:∀s3 iJ dm,bX c ([it]++W) s M s3 iJ bn->dS c W aW aL sc aN s3.heap iJ dr->x4 s3.heap iJ dm a6->nF c it cf cE (i+1) s3 iJ->wpAny (model c.prog c.w) A (match dm with|.next|.cont=>again (.forLoop cL (.ref it) body [] aN)|.brk=>pure (.done .next)|.ret v=>pure<|.done<|.ret v) Q aB s3):
  wpAny (model c.prog c.w) A (forTurn cL (.ref it) body [] aN) Q aB s:=by
 refine wpAny_bind<|wpAny_standAt<|wpAny_bind<|wpAny_onRaise<|Ah aX bV bi.d2 bi.fR bi.pQ hJ (λqF v be oN g1 bh sa=> ?_) λbe oN B=>bj<|bu oN bC;obtain rfl:=br<|bu bC oN;have g7:=F.xR g1 bi.nC λb aj=>bT aj▸⟨AH,qT,vW⟩;have Av:nF c it cf cE (i+1) be M:=⟨sa,bi.fR,sa.pQ⟩;refine wpAny_bind<|JQ aP sa<|wpAny_bind<|Ao aX g7 g1.ok aP bh Y λbF cC bd=> ?_;refine wpAny_bind<|x5 body lz aj ae aX cC bd.ok λs3 iJ dm cQ lB eA=> ?_;exact k s3 iJ dm (((g1.ci λb aj=>jh _ aj).trans<|bd.ci λb aj=>i1 _ aj).trans<|cQ.ci λb aj=>i1 _ aj) lB eA<|(Av.step bd qT g7.nC).step cQ qT cC.nC
theorem Uy(aP:mI aL sc cL=some mt)(aj:oi G aL aW sc body=some pS)(lz:∀st∈body,hU c G O d st)(aX:eo d A){cE:List I}(qT:it∉W)(AH:it≠aN.locals)(vW:∀x ca,aN.cells.lookup x=some ca->ca≠it){rest:List I}:
  ∀(i:Nat) (s:Shared) (M:c6) (H aU:bS) (C S:St) (fu:eG) (R:Result->Shared->Prop),cE.drop i=rest->fX (λs=>hg s cf cE) (λx H s=>(gq mt x H).bind λcg=>cG O pS cg s) rest H C=some (fu,aU,S)->
   dS c W aW aL sc aN s.heap M H->bJ c.w c.N c.au s.heap M C->nF c it cf cE i s M->
   (∀aY bt dm,bX c ([it]++W) s M aY bt S->dS c W aW aL sc aN aY.heap bt aU->x4 aY.heap bt dm fu->R (.ok dm) aY)->
   codeAny (model c.prog c.w) A (.forLoop cL (.ref it) body [] aN) R s:=by
 induction rest with
 |nil=>
  intro i s M H aU C S fu R bC ag F bV bi fl;refine Ur ag λhJ e=> ?_;obtain⟨rfl,rfl,rfl⟩:=kk<|ai some e;refine codeAny_of_tree ?_;show wpAny _ A ((forTurn cL (.ref it) body [] aN).onRaise (λx=>do noteFrame x aN;theTreesLotGoes x)) _ _ s;refine wpAny_noted<|show wpAny _ A (forTurn cL (.ref it) body [] aN) _ _ s from wpAny_bind<|wpAny_standAt<|wpAny_bind<|wpAny_onRaise<|Ah aX bV bi.d2 bi.fR bi.pQ hJ (λx v be ac B B B=> ?_) λbe ac g1=> ?_
  ·exact bj<|(List.getElem?_eq_none_iff.mpr<|List.drop_eq_nil_iff.mp bC).symm.trans ac
  ·refine wpAny_pure ⟨rfl,codeAny_of_tree ?_⟩;show wpAny _ A (do return Fin.done (<-(execs [] aN).onRaise (λx=>do noteFrame x aN;theTreesLotGoes x))) _ _ be;exact wpAny_bind<|wpAny_onRaise<|wpAny_execs_nil<|wpAny_pure<|fl be M .next (g1.ci λb aj=>jh _ aj) (F.xR g1 bi.nC λb aj=>bT aj▸⟨AH,qT,vW⟩) trivial
 |cons x rest ay=>
  intro i s M H aU C S fu R bC ag F bV bi fl;refine Us ag λhJ a6 dr bn oM Et bA=>bW oM λcg Y ae=> ?_;refine codeAny_of_tree ?_;show wpAny _ A ((forTurn cL (.ref it) body [] aN).onRaise (λx=>do noteFrame x aN;theTreesLotGoes x)) _ _ s;refine wpAny_noted<|Ux (rest:=rest) aP aj lz aX qT AH vW (D8 bC).1 hJ Y ae F bV bi λs3 iJ dm g lB eA sb=> ?_;cases a6 with
  |ret v=>
   cases dm with
   |ret u=>obtain⟨rfl,rfl,rfl⟩:=kk<|ai some<|Et v rfl;exact wpAny_pure<|fl s3 iJ _ g lB eA
   |_=>exact eA.elim
  |next=>
   cases dm with
   |next=>exact wpAny_pure ⟨rfl,ay (i+1) s3 iJ dr aU bn S fu R (D8 bC).2 (bA rfl) lB g.ok sb λs4 k1 dm eu=>fl s4 k1 dm<|g.trans eu⟩
   |_=>exact eA.elim
theorem Uz{t:Expr}{mt:b2}(aP:c9 G aL aW sc t=some mt)(aj:oi G aL aW sc body=some pS)(vM:hy c G O d t)(lz:∀st∈body,hU c G O d st)(aX:eo d A)(n:Nat):
  ∀(s:Shared) (M:c6) (H aU:bS) (C S:St) (fu:eG) (R:Result->Shared->Prop),kT (λH s=>jg O mt H s) (λH s=>cG O pS H s) n H C=some (fu,aU,S)->
   dS c W aW aL sc aN s.heap M H->bJ c.w c.N c.au s.heap M C->
   (∀aY bt dm,bX c W s M aY bt S->dS c W aW aL sc aN aY.heap bt aU->x4 aY.heap bt dm fu->R (.ok dm) aY)->
   codeAny (model c.prog c.w) A (.whileLoop t body [] aN) R s:=by
 induction n with
 |zero=>exactλs M H aU C S fu R ag=>bj ag
 |succ n ay=>
  intro s M H aU C S fu R ag F bV fl;refine codeAny_of_tree ?_;show wpAny _ A ((whileTurn t body [] aN).onRaise (λx=>do noteFrame x aN;theTreesLotGoes x)) _ _ s;refine wpAny_noted ?_;show wpAny _ A (isTrue t aN (eval t aN)>>=λb=>if b=true then _ else _) _ _ s;refine Ut ag (λaw oQ e=>c0 oQ λfb bn Y oQ=>bW oQ λgv ae oQ=> ?_) λaw oQ a6 dr cA DD Et bA=>c0 oQ λfb bn Y oQ=>bW oQ λgv ae oQ=> ?_
  ·obtain⟨rfl,rfl,rfl⟩:=kk<|ai some e;obtain⟨rfl,rfl⟩:=dC oQ;exact wpAny_bind<|vM _ _ _ _ _ _ _ _ _ _ _ _ _ _ _ _ aP Y ae aX F bV λbe dN g1=>wpAny_bind<|wpAny_execs_nil<|wpAny_pure<|fl be dN .next g1.ia (F.step g1) trivial
  ·obtain⟨rfl,rfl⟩:=dC oQ;refine wpAny_bind<|vM _ _ _ _ _ _ _ _ _ _ _ _ _ _ _ _ aP Y ae aX F bV λbe dN g1=>wpAny_bind<|x5 body lz aj DD aX (F.step g1) g1.ok λbF ft dm bd cC bf=> ?_;cases a6 with
   |ret v=>
    cases dm with
    |ret u=>obtain⟨rfl,rfl,rfl⟩:=kk<|ai some<|Et v rfl;exact wpAny_pure<|fl bF ft _ (g1.ia.trans bd) cC bf
    |_=>exact bf.elim
   |next=>
    cases dm with
    |next=>exact wpAny_pure ⟨rfl,ay bF ft dr aU cA S fu R (bA rfl) cC bd.ok λs3 iJ dm cQ=>fl s3 iJ dm<|(g1.ia.trans bd).trans cQ⟩
    |_=>exact bf.elim
variable(T:fY c P G K cV ei e4)(ic:r3 c P cV O d)(c3:∀e,dv c G O d e)(tr:∀e,hy c G O d e)
include T c3 tr in
theorem UA(cL rO:Expr)(body:List Stmt)(pos:Pos)(lz:∀st∈body,hU c G O d st):hU c G O d (.For cL rO body [] pos):=by
 intro W aW aL sc aN A aB s M H aU C S fu ms Q ag he aX F bV et;refine bW ag λmt pR ag=>bW ag λie k4 ag=>bW ag λpS x6 ag=> ?_;have fin:∀{cf:Option Nat} {cE:List I} {aw:St},Ax c A s M aw cf cE rO aN->fX (λs=>hg s cf cE) (λx H s=>(gq mt x H).bind λcg=>cG O pS cg s) cE H aw=some (fu,aU,S)->
   wpAny (model c.prog c.w) A (exec (.For cL rO body [] pos) aN) Q aB s:=λEi UB=>by
  refine wpAny_For (Ei _ _ λbe dN it g1 vV Ek El x1 fG hlen=> ?_)<|J5 k4 aN;have qT:it∉W:=λq=>(F.ly _ q).2.2.elim λo q=>bj<|bu vV q.1;exact Uy pR x6 lz (A:=A.mark none) ⟨aX.depth,aX.units,aX.handled⟩ qT (λe=>qT<|e▸F.xQ) (λx ca h e=>(F.lx x ca h).elim λu q=>q.elim λo q=>bj<|bu vV<|e▸q.1) 0 be dN H aU _ S fu _ rfl UB (F.step g1) g1.ok ⟨fG,⟨Ek,El⟩,x1⟩ λbF ft dm bd cC bf=>et bF ft dm (bX.AE (W1:=[it]) (g1.ia.trans bd) λb aj=>bT aj▸vV) cC bf
 have gen:some (dA.gQ mt ie pS)=some ms->wpAny (model c.prog c.w) A (exec (.For cL rO body [] pos) aN) Q aB s:=λag=>by
  obtain rfl:=br ag;exact c0 he λfb aw Y he=>c0 he λl cf an he=>fin (J3 (c3 rO) k4 Y an aX F bV) he
 cases ie with
 |cw b dx=>
  cases b with
  |range=>
   cases mt with
   |aS i=>refine d1 ag λoK ag=> ?_;obtain rfl:=br ag;exact c0 he λfb aw Y he=>Aj he λn hz he=>d1 he λhn he=>fin (J4 T (λe B=>c3 e) k4 oK (hz▸Y) hn aX F bV) he
   |iV B=>exact bj ag
  |_=>exact gen ag
 |_=>exact gen ag
include tr in
theorem UC(t:Expr)(body:List Stmt)(pos:Pos)(lz:∀st∈body,hU c G O d st):hU c G O d (.While t body [] pos):=by intro W aW aL sc aN A aB s M H aU C S fu ms Q ag he aX F bV et;refine bW ag λmt pR ag=>dt ag λpS x6 bM=> ?_;subst bM;exact wpAny_While<|Uz pR x6 (tr t) lz aX zC s M H aU C S fu _ he F bV et
theorem i6(h:∀aW aL sc,zI G aL aW sc st=none):hU c G O d st:=λB B B B B B B B B B B B B B B B ag=>bj<|(h _ _ _).symm.trans ag
theorem UD(h:∀aW aL sc,zI G aL aW sc st=some .fA):hU c G O d st:=λB B B B B B B B B B B B B B B B ag he=>by
 obtain rfl:=br<|(h _ _ _).symm.trans ag;exact bj he
include T ic c3 tr in
theorem UE(n:Nat):∀(st:Stmt),sizeOf st<n->hU c G O d st:=by
 induction n with
 |zero=>exactλst h=>absurd h<|ua _
 |succ n ay=>
  intro st hn;have j4:∀ss:List Stmt,sizeOf ss<sizeOf st->∀st∈ss,hU c G O d st:=λss h st aJ=>ay st<|c7 (Uv aJ h)<|pC hn
  clear ay hn
  cases st with
  |Assign ts v p=>
   clear j4
   cases ts with
   |nil=>exact i6 λB B B=>rfl
   |cons t ts=>
    cases ts with
    |cons B cq=>
     cases t with
     |Name B cq=>exact i6 λB B B=>rfl
     |Attribute B cq eE=>exact i6 λB B B=>rfl
     |Tuple B cq eE=>cases v<;>exact i6 λB B B=>rfl
     |Subscript o i q=>cases i<;>exact i6 λB B B=>rfl
     |_=>exact i6 λB B B=>rfl
    |nil=>
     cases t with
     |Name x q=>exact T5 T c3 tr _ v p ⟨x,q,rfl⟩
     |Tuple ax k q=>
      cases v with
      |Name x r=>exact Ud c3 ax k q x r p
      |_=>exact i6 λB B B=>rfl
     |Attribute o n q=>exact Ue T ic c3 o n q v p
     |Subscript o i q=>
      cases i with
      |Slice B cq eE hc=>exact i6 λB B B=>rfl
      |_=>exact Uf c3 o _ q v p λB B B B h=>Expr.noConfusion h
     |_=>exact i6 λB B B=>rfl
  |AugAssign t op v p=>
   cases t with
   |Name x q=>exact Ug c3 x q op v p
   |Attribute o n q=>exact Uk T ic c3 o n q op v p
   |_=>exact i6 λB B B=>rfl
  |Delete ts p=>
   clear j4
   cases ts with
   |nil=>exact i6 λB B B=>rfl
   |cons t ts=>
    cases t with
    |Subscript o i q=>
     cases i with
     |Slice ce ah st r=>
      cases ce with
      |none=>cases ts<;>exact i6 λB B B=>rfl
      |some ce=>
       cases ah with
       |some B=>cases ts<;>exact i6 λB B B=>rfl
       |none=>
        cases st with
        |some B=>cases ts<;>exact i6 λB B B=>rfl
        |none=>
         cases ts with
         |nil=>exact Ul c3 o ce r q p
         |cons B cq=>exact i6 λB B B=>rfl
     |_=>
      cases ts with
      |nil=>exact Un c3 o _ q p λB B B B h=>Expr.noConfusion h
      |cons B cq=>exact i6 λB B B=>rfl
    |_=>cases ts<;>exact i6 λB B B=>rfl
  |If t b o p=>exact Uo tr t b o p (j4 b<|V (Stmt.If.sizeOf_spec t b o p) AD)<|j4 o<|V (Stmt.If.sizeOf_spec t b o p) zD
  |For cL it body orelse p=>
   cases orelse with
   |nil=>exact UA T c3 tr cL it body p<|j4 body<|V (Stmt.For.sizeOf_spec cL it body [] p) Uw
   |cons B cq=>exact i6 λB B B=>rfl
  |While t body orelse p=>
   cases orelse with
   |nil=>exact UC tr t body p<|j4 body<|V (Stmt.While.sizeOf_spec t body [] p) AD
   |cons B cq=>exact i6 λB B B=>rfl
  |Return e p=>exact Up c3 e p
  |Expr e p=>
   cases e with
   |Call f as dP q=>exact Uq c3 f as dP q p
   |_=>exact i6 λB B B=>rfl
  |Raise B cq eE=>exact UD λB B B=>rfl
  |_=>exact i6 λB B B=>rfl
end
end
def Eu{α:Type}{b:α}{ax:List (Str×α)}:((x,b)::ax).lookup x=some b:=List.lookup_cons_self
def Ev{α:Type}{p:Str}{b:α}{ax:List (Str×α)}(h:x≠p):((p,b)::ax).lookup x=ax.lookup x:=V List.lookup_cons<|V (beq_eq_false_iff_ne.mpr h) rfl
def AI{α:Type}:∀{vs:List α} {i:Nat} {x:Str},ps.Nodup->ps[i]? =some x->(ps.zip vs).lookup x=vs[i]? :=by
 induction ps with
 |nil=>exactλB h=>bj h
 |cons p ps ay=>
  intro vs i x aG h;cases vs with
  |nil=>rfl
  |cons v vs=>
   cases i with
   |zero=>exact br h▸Eu
   |succ i=>exact(Ev λq:x=p=>(hI aG).1<|q▸dL h).trans<|ay (hI aG).2 h
def UF{α:Type}(g:Str->Option α):∀{vs:List α},ps.length=vs.length->(∀(i:Nat) (x:Str),ps[i]? =some x->g x=vs[i]?)->ps.filterMap (λn=>(g n).map λv=>(n,v))=ps.zip vs:=by
 induction ps with
 |nil=>exactλB B=>rfl
 |cons p ps ay=>
  intro vs an bB;cases vs with
  |nil=>exact absurd an<|qB _
  |cons v vs=>refine(List.filterMap_cons_some (f:=λn=>(g n).map λv=>(n,v)) (b:=(p,v))<|ai (Option.map λv=>(p,v))<|show g p=some v from bB 0 p rfl).trans ?_;exact ai (List.cons (p,v))<|ay (nq an) λi=>bB<|i+1
def UG{α β:Type}(f:α->β->Sem (ForInStep β))(g:β->α->β)(hf:∀x b,f x b=pure (.yield<|g b x))(l:List α):∀b:β,forIn l b f=(pure (l.foldl g b):Sem β):=by
 induction l with
 |nil=>exactλB=>rfl
 |cons x l ay=>exactλb=>(List.forIn_cons ..).trans<|V (hf x b)<|ay<|g b x
noncomputable def ub(eI:List (Str×Value))(x:Str×Value):List (Str×Value):=if(eI.lookup x.1).isNone then eI++[(x.1,x.2)]else eI
def UH{p:Str}:∀{us:List Value} {d:Value},ps[us.length]? =some p->ps.zip (us++[d])=ps.zip us++[(p,d)]:=by
 induction ps with
 |nil=>exactλh=>bj h
 |cons q ps ay=>
  intro us d h;cases us with
  |nil=>exact br h▸List.zip_cons_cons.trans (ai (_::·) List.zip_nil_right)
  |cons u us=>exact ai ((q,u)::·)<|ay h
def UI(aG:ps.Nodup):∀{vs:List Value} {fd k:Nat},vs.length=fd+k->fd+ds.length=ps.length->((ps.drop fd).zip ds).foldl ub (ps.zip vs)=ps.zip (vs++ds.drop k):=by
 induction ds with
 |nil=>exactλB B=>V List.zip_nil_right<|V List.drop_nil<|V (ew _) rfl
 |cons e ds ay=>
  intro vs fd k aR an;have aQ:fd<ps.length:=an▸nz (pI _);have ab:=ji aQ;refine V (List.drop_eq_getElem_cons aQ)<|V List.zip_cons_cons<|V List.foldl_cons ?_;have r5:fd+1+ds.length=ps.length:=(vI fd ds.length).trans an;have x7:(ps.zip vs).lookup ps[fd]=vs[fd]? :=AI aG ab;cases k with
  |zero=>refine V (show ub (ps.zip vs) (ps[fd],e)=ps.zip (vs++[e])from(bg<|show(List.lookup ps[fd]<|ps.zip vs).isNone=true from V x7<|V (List.getElem?_eq_none<|cP aR) rfl).trans (UH<|V aR ab).symm) ?_;exact(ay (k:=0) (V er (ai (·+1) aR)) r5).trans<|V (iG _ _ _) rfl
  |succ k=>refine V (show ub (ps.zip vs) (ps[fd],e)=ps.zip vs from bI<|show¬(List.lookup ps[fd]<|ps.zip vs).isNone=true from V x7<|V (ji<|aR▸nz (pI _)) Bool.false_ne_true) ?_;exact ay (k:=k) (aR.trans (vI fd k).symm) r5
def Kp{α:Type}{Q:α->Shared->Prop}{p:Prop}[Decidable p]{a b:Sem α}(h:¬p)(k:wpAny df A b Q aB s):wpAny df A (if p then a else b) Q aB s:=V (bI h) k
def UJ{n v:Nat}(h:d<=n)(k:n<=v+d)(aR:v<=n):v=n-d+(d-(n-v)):=((Nat.sub_add_sub_cancel h<|Nat.sub_le_iff_le_add'.mpr k).trans<|Nat.sub_sub_self aR).symm
def Kq{a n:Nat}(h:a<=n)(k:n<=a+d):a+(d-(d-(n-a)))=n:=(ai (a+·)<|Nat.sub_sub_self<|Nat.sub_le_iff_le_add'.mpr k).trans<|Nat.add_sub_cancel' h
def UK{a1:Type}{Q:a1->Shared->Prop}{p q:Option (Array Value)->Prop}[∀r,Decidable<|p r][∀r,Decidable<|q r]{aD aF:Option (Array Value)->Sem a1}{l:Option (Array Value)->List (Str×Value)}{b:List (Str×Value)}{f:Str×Value->List (Str×Value)->Sem (ForInStep<|List<|Str×Value)}{k:List (Str×Value)->Sem a1}{x:a1}(Ew:∀{tV:Option (Array Value)->Shared->Prop},(∀r:Option (Array Value),(r.getD #[]).toList=ds->tV r s)->wpAny df A (seqItems? v) tV aB s)(ab:∀r,(r.getD #[]).toList=ds->¬p r)(aC:∀r,(r.getD #[]).toList=ds->¬q r)(hf:∀x b,f x b=pure (.yield<|ub b x))(ao:∀r,(r.getD #[]).toList=ds->k ((l r).foldl ub b)=pure x)(h:Q x s):wpAny df A (seqItems? v>>=λr=>if p r then aD r else if q r then aF r else forIn (l r) b f>>=k) Q aB s:=wpAny_bind<|Ew λr aH=>Kp (ab r aH)<|Kp (aC r aH)<|V (UG f ub hf (l r) b)<|wpAny_bind<|wpAny_pure<|V (ao r aH)<|wpAny_pure h
def UL(Y:fd.params.posonlyargs=[])(ae:fd.params.args.map (·.arg)=ps)(ba:fd.params.kwonlyargs=[])(cp:fd.params.vararg=none)(dF:fd.params.kwarg=none)(aG:ps.Nodup)(ao:vs.length<=ps.length)(bC:ds.length<=ps.length)(hm:ps.length<=vs.length+ds.length)(vY:(ds=[]/\fd.defaults=.none)\/∃T o n,fd.defaults=.ref T/\s.heap.get? T=some o/\o.data=.seq ds.toArray n):BindsTo s fd ⟨vs,[]⟩ (ps.zip<|vs++ds.drop (ds.length-(ps.length-vs.length))):=by
 intro df A aB Q et;have Ew:∀{tV:Option (Array Value)->Shared->Prop},(∀r:Option (Array Value),(r.getD #[]).toList=ds->tV r s)->wpAny df A (seqItems? fd.defaults) tV aB s:=λh=>vY.elim (λq=>V q.2<|wpAny_pure<|h none q.1.symm) λ⟨T,o,n,e,aA,aJ⟩=>V e<|wpAny_seqItems aA aJ<|h _ rfl
 have bR:(List.filter (λn=>(List.lookup n<|ps.zip vs).isNone)<|List.take (ps.length-ds.length) ps)=[]:=List.filter_eq_nil_iff.mpr λx ac=>by
  obtain⟨i,ah⟩:=List.getElem?_of_mem ac;have ku:i<ps.length-ds.length:=c7 (h6 ah).1<|List.length_take_le _ _;exact V (AI aG<|(List.getElem?_take_of_lt ku).symm.trans ah)<|V (ji<|c7 ku<|Nat.sub_le_iff_le_add.mpr hm) Bool.false_ne_true
 have aD:ds.drop (ds.length-ps.length)=ds:=V (Nat.sub_eq_zero_of_le bC) rfl;have mc:=UI (vs:=vs) (ds:=ds) (fd:=ps.length-ds.length) (k:=ds.length-(ps.length-vs.length)) aG (UJ bC hm ao)<|Nat.sub_add_cancel bC;have UM:=UF (ps:=ps) (vs:=vs++ds.drop (ds.length-(ps.length-vs.length))) (List.lookup · (ps.zip<|vs++ds.drop (ds.length-(ps.length-vs.length)))) ((Kq ao hm).symm.trans<|V er<|V List.length_drop rfl) λi x h=>AI aG h
 clear vY bC hm
 obtain⟨hA,eW,⟨po,md,hL,qU,ks,kw,acL⟩,nA,sd,sh,sf,AJ,acM,acN,acO,acP,acQ,acR,acS⟩:=fd;dsimp only at Y ae ba cp dF;subst Y ae ba cp dF;exact UK (p:=λB=>(decide (vs.length>(md.map (·.arg)).length)&&true)=true) (q:=λr=>(!(List.filter (λn=>(List.lookup n ((md.map (·.arg)).zip vs)).isNone) (List.take ((md.map (·.arg)).length-((r.getD #[]).toList.drop ((r.getD #[]).toList.length-(md.map (·.arg)).length)).length) (md.map (·.arg)))).isEmpty)=true)
  (l:=λr=>((md.map (·.arg)).drop ((md.map (·.arg)).length-((r.getD #[]).toList.drop ((r.getD #[]).toList.length-(md.map (·.arg)).length)).length)).zip ((r.getD #[]).toList.drop ((r.getD #[]).toList.length-(md.map (·.arg)).length)))
  Ew (λB B q=>lv ao<|dw<|bP q) (λr aH=>V aH<|V aD<|V bR Bool.false_ne_true) (λx b=>by dsimp only[ub];split<;>rfl) (λr aH=>V aH (V aD (V mc (show(pure (List.filterMap (λn=>(List.lookup n ((md.map (·.arg)).zip (vs++ds.drop (ds.length-((md.map (·.arg)).length-vs.length))))).map λv=>(n,v)) (md.map (·.arg)++[])):Sem (List<|Str×Value))=pure _ from V (ew _)<|V UM rfl)))) et
section
def UN(h0:∀m,b [] m=m)(Y:∀n u r m,b ((n,u)::r) m=b r (f n u m))(ae:∀n u m,x≠n->f n u m x=m x){l:List (Str×Value)}:
  ∀{m:Str->Option Value},x∉l.map (·.1)->b l m x=m x:=by
 induction l with
 |nil=>exactλB=>V (h0 _) rfl
 |cons p r ay=>exactλac=>V (Y p.1 p.2 r _)<|(ay λq=>ac<|bQ _ q).trans<|ae _ _ _ λe=>ac<|e▸bp
def Kr(h0:∀m,b [] m=m)(Y:∀n u r m,b ((n,u)::r) m=b r (f n u m))(ae:∀n u m,x≠n->f n u m x=m x)(ba:∀u m,f x u m x=some u){l:List (Str×Value)}:
  ∀{m:Str->Option Value},(l.map (·.1)).Nodup->l.lookup x=some v->b l m x=some v:=by
 induction l with
 |nil=>exactλB h=>bj h
 |cons p r ay=>
  intro m aG h;refine V (Y p.1 p.2 r _) ?_;by_cases e:x=p.1
  ·obtain⟨n,u⟩:=p;dsimp only at e;subst e;exact(UN h0 Y ae (hI aG).1).trans<|(ba u m).trans<|bu Eu h
  ·exact ay (hI aG).2<|(Ev e).symm.trans h
def AK{p:Prop}[Decidable p]{f g:Str->Option Value}{v:Option Value}(hf:p->f x=v)(bB:¬p->g x=v):(if p then f else g) x=v:=by
 by_cases h:p
 ·exact V (bg h)<|hf h
 ·exact V (bI h)<|bB h
def UO{l:List (Str×Value)}(aG:(l.map (·.1)).Nodup)(h:l.lookup x=some v)(ao:qU x=some .local):bindL qU l m x=some v:=Kr (b:=bindL qU) (f:=λn v m=>if qU n=some .local thenλy=>if y=n then some v else m y else m) (λB=>rfl) (λB B B B=>rfl) (λB B B e=>AK (λB=>bI e) λB=>rfl) (λB B=>AK (λB=>bg rfl) λq=>absurd ao q) aG h
def UP{l:List (Str×Value)}(aG:(l.map (·.1)).Nodup)(h:l.lookup x=some v)(ao:qU x≠some .local):bindC qU l m x=some v:=Kr (b:=bindC qU) (f:=λn v m=>if qU n=some .local then m elseλy=>if y=n then some v else m y) (λB=>rfl) (λB B B B=>rfl) (λB B B e=>AK (λB=>rfl) λB=>bI e) (λB B=>AK (λq=>absurd q ao) λB=>bg rfl) aG h
def Ks{y:Str}{n:Addr}{acc:List (Str×Addr)}(h:x≠y->(acc.lookup x).isSome=true):(((y,n)::acc).lookup x).isSome=true:=by
 by_cases e:x=y
 ·exact e▸V Eu rfl
 ·exact V (Ev e)<|h e
def Kt:∀{n:Nat} {acc:List (Str×Addr)},((x,NameKind.cell)∈names\/(acc.lookup x).isSome=true)->((cellsFrom n names acc).lookup x).isSome=true:=by
 induction names with
 |nil=>exactλh=>h.elim (λh=>absurd h b4) id
 |cons p r ay=>
  intro n acc h;obtain⟨y,k⟩:=p;show((if(k==.cell)=true then cellsFrom (n+1) r ((y,n)::acc)else cellsFrom n r acc).lookup x).isSome=true;by_cases q:(k==.cell)=true
  ·exact V (bg q)<|ay<|h.elim (λh=>(cR h).elim (λe=>.inr<|Ks λq=>absurd (kQ e).1 q) .inl) λh=>.inr<|Ks λB=>h
  ·exact V (bI q)<|ay<|h.imp_left λh=>(cR h).resolve_left λe=>q<|beq_iff_eq.mpr (kQ e).2.symm
def nG{a b:Bool}(h:(a&&b)=true)(k:a->b->R):R:=k (bP h)<|cN h
def Ku{G:gS}{args:Arguments}{hH:List I}(h:Db G args body scope hH=some fn)(k:args.posonlyargs=[]->args.vararg=none->args.kwonlyargs=[]->args.kwarg=none->args.args.map (·.arg)=(scope.names.map (·.1)).take fn.np->(args.args.map (·.arg)).length=fn.np->(scope.names.map (·.1)).Nodup->fn.hH.length<=fn.np->
   (∀x∈scope.names.take fn.np,x.2=.local\/x.2=.cell)->tF scope.names->(∀p∈scope.names,p.2≠.free/\p.1≠(".0":Str))->scope.kind=.function->scope.isGenerator=false->scope.isCoroutine=false->fn.hH=hH->
   oi G (h4 (scope.names.map (·.1)) 0) scope.names.length scope.names body=some fn.body->R):R:=by
 refine d1 h λag h=>dt h λb aj bM=> ?_;subst bM
 clear h
 refine nG ag λag vZ=>nG ag λag qV=>nG ag λag qW=>nG ag λag pT=>nG ag λag jG=>nG ag λag jl=>nG ag λag fN=>nG ag λag gM=>nG ag λag gV=>nG ag λag eR=>nG ag λag d4=>nG ag λa6 bR=> ?_;exact k (uc.mp a6) (Option.isNone_iff_eq_none.mp bR) (uc.mp d4) (Option.isNone_iff_eq_none.mp eR) (eq_of_beq gV) rfl (dw gM) (dw fN)
  (λx ac=>((qR _ _).mp<|hh jl x ac).imp eq_of_beq eq_of_beq) jG (λp ab=>have q:=hh pT p ab;⟨bne_iff_ne.mp<|bP q,bne_iff_ne.mp<|cN q⟩) (eq_of_beq qW) ((oC _).mp qV) ((oC _).mp vZ) rfl aj
structure x8(c:Ctx)(G:gS)(fn:fq)(a:Addr):Prop where
 ex:∃o fd body,c.au.get? a=some o/\o.data=.func fd/\fd.body=.stmts body/\fd.closure=[]/\fd.globals=mainGlobals/\fd.builtins=builtinsNs/\c.au.CodeRec fd.code fd.qualname/\Db G fd.params body fd.scope fn.hH=some fn/\
  ((fn.hH=[]/\fd.defaults=.none)\/∃T o dQ n,fd.defaults=.ref T/\c.au.get? T=some o/\o.data=.seq dQ n/\b7 c.au [] dQ.toList fn.hH)
section
variable{P:jy}{G:gS}
variable{x:I}{a b:Value}
noncomputable def Ex(fd:FuncData)(X a:Addr):List Addr:=X::fd.scope.names.filterMap λp=>(callEnvC fd X a).cells.lookup p.1
def UQ{a:Addr}{np:Nat}{cE:List Value}{k2:List I}(bV:bJ c.w c.N c.au s.heap M C)(gV:ps=(fd.scope.names.map (·.1)).take np)(gM:ps.length=np)(fN:(fd.scope.names.map (·.1)).Nodup)(pT:tF fd.scope.names)(qW:∀p∈fd.scope.names,p.2≠.free/\p.1≠(".0":Str))(qV:fd.scope.kind=.function)(bB:fd.globals=mainGlobals)(aj:fd.builtins=builtinsNs)(aV:b7 s.heap M cE k2)(an:k2.length=np)(x:InCallC s (callEnvC fd s.heap.objs.size a).locals (bindL (callEnvC fd s.heap.objs.size a).kindOf (ps.zip cE) λB=>none) (callEnvC fd s.heap.objs.size a).cells
   (bindC (callEnvC fd s.heap.objs.size a).kindOf (ps.zip cE) λB=>none) aY):
  dS c (Ex fd s.heap.objs.size a) fd.scope.names.length (h4 (fd.scope.names.map (·.1)) 0) fd.scope.names (callEnvC fd s.heap.objs.size a) aY.heap M (λi=>k2[i]?)/\
  bX c [] s M aY M C/\(∀b∈Ex fd s.heap.objs.size a,s.heap.get? b=none):=by
 obtain⟨aO,tk,rfl,k⟩:=x.done;have g:bX c [] s M {s with heap:=aO,toks:=tk} M C:=.ou bV ⟨aO,tk,rfl,k⟩;have Ey:∀y ca,(callEnvC fd s.heap.objs.size a).cells.lookup y=some ca->s.heap.objs.size<ca:=λy ca h=>x.above y ca<|mem_of_lookup h;have away:∀b,s.heap.objs.size<=b->b∉foot M/\c.au.get? b=none:=λb aj=>bV.tP<|zY aj;have AL:ps.length=cE.length:=gM.trans<|bu an aV.length.symm;have Ez:ps.Nodup:=gV▸fN.sublist (List.take_sublist _ _);have Kv:((ps.zip cE).map (·.1)).Nodup:=V (List.map_fst_zip<|cP AL) Ez;have val:∀{y i e},(h4 (fd.scope.names.map (·.1)) 0).lookup y=some i->k2[i]? =some e->∃v,(ps.zip cE).lookup y=some v/\bb aO M v e:=λ{y i e} Y ae=>(aV.get ae).elim λv q=>⟨v,(AI Ez<|gV▸(List.getElem?_take_of_lt<|an▸(h6 ae).1).trans (Aq Y).2).trans q.1,q.2.keep g.keep⟩
 have alive:∀b∈Ex fd s.heap.objs.size a,s.heap.objs.size<=b:=λb aj=>(cR aj).elim (λe=>cP e.symm) λaj=>(List.mem_filterMap.mp aj).elim λp q=>hj<|Ey _ _ q.2;have UR:k2.length<=fd.scope.names.length:=V (an.trans gM.symm)<|V gV<|a3 (vE _ _)<|cP<|c2 _
 clear k bV aV gM AL Ez
 refine⟨?_,g,λb aj=>zY<|alive b aj⟩;exact
  {kind:=qV,glob:=bB,blt:=aj,kinds:=λy k h=>.inl h,nodict:=λy k h=>(oC _).mp<|hh pT _<|mem_of_lookup h,lt:=λy i h=>c7 (vQ h).2.2<|cP<|(ow _).trans<|c2 _,
   top:=λi ah=>List.getElem?_eq_none<|a3 UR ah,dot:=Ar λhm=>(e3 hm).elim λp q=>(qW p q.1).2 q.2,inj:=λy w i Y ae=>JS Y ae,
   ns:=⟨_,x.toInCall.ns,λy i e Y ae ba=>(val ae ba).elim λv q=>⟨v,UO Kv q.1 Y,q.2⟩⟩,
   cells:=λy i Y ae=>by
    have ag:fd.scope.names.lookup y=some .cell:=Y.elim id λh=>absurd rfl (qW _<|mem_of_lookup h).1;obtain⟨ca,r7⟩:=hT<|Kt (n:=s.heap.objs.size+1) (acc:=[])<|.inl<|mem_of_lookup ag;exact⟨ca,_,r7,x.cell y ca r7,λe he=>(val ae he).elim λv q=>⟨v,UP Kv q.1 λr=>NameKind.noConfusion<|br<|bu ag r,q.2⟩⟩,
   r2:=away _<|gF _,nB:=λy ca h=>have q:=away ca<|hj<|Ey y ca h;⟨q.1,q.2,dd<|Ey y ca h⟩,lx:=λy ca h=>⟨_,x.cell y ca h⟩,apart:=λy w ca Y ae=>name_of_addr x.apart (mem_of_lookup Y)<|mem_of_lookup ae,xQ:=bp,
   DG:=λy ca h0 h=>bQ _<|List.mem_filterMap.mpr ⟨_,mem_of_lookup h0,h⟩,
   ly:=λb aj=>have q:=away b<|alive b aj;⟨q.1,q.2,(cR aj).elim (λe=>x.toInCall.ns.elim λo q=>q.elim λax q=>q.elim λep q=>⟨o,e▸q.1,λ⟨B,cq,r⟩=>nomatch q.2.1.symm.trans r⟩)
    λaj=>(List.mem_filterMap.mp aj).elim λp q=>(x.cell _ _ q.2).elim λo q=>⟨o,q.1,λ⟨B,cq,r⟩=>nomatch q.2.symm.trans r⟩⟩}
def US{fu:eG}{v:I}(h:(match fu with|.ret v=>some (v,aw)|.next=>some (.none,aw))=some (z,S))(dK:fu=.next->z=.none->aw=S->R)(fk:∀v,fu=.ret v->v=z->aw=S->R):R:=by
 cases fu with
 |next=>exact dK rfl (dC h).1.symm (dC h).2
 |ret v=>exact fk v rfl (dC h).1 (dC h).2
theorem UT(T:fY c P G K cV ei e4)(ic:r3 c P cV O d){a:Addr}(v0:x8 c G fn a){args:List I}{R:Result->Shared->Prop}(aH:tB O fn args C=some (z,S))(aX:eo (d+1) A)(bV:bJ c.w c.N c.au s.heap M C)(b9:b7 s.heap M vs args)(h:eO c s M S z λv aY=>R (.ok<|.ret v) aY):codeAny (model c.prog c.w) A (.call (.ref a) ⟨vs,[]⟩) R s:=by
 obtain⟨o,fd,body,aA,bC,UU,UV,UW,UX,Ac,Kw,vY⟩:=v0.ex;refine Ku Kw λa6 bR d4 eR gV gM fN jl jG pT qW qV vZ AM EA UY=> ?_;refine bW aH λH EB Y=>c0 Y λfu hA ac ae=>d1 EB λhle EB=> ?_;obtain⟨aU,aw⟩:=hA;obtain rfl:=br EB
 clear Kw v0 Y aH
 obtain⟨ds,oA,AN⟩:∃ds:List Value,((ds=[]/\fd.defaults=.none)\/∃T o n,fd.defaults=.ref T/\s.heap.get? T=some o/\o.data=.seq ds.toArray n)/\b7 s.heap M ds fn.hH:=vY.elim (λq=>⟨[],.inl ⟨rfl,q.2⟩,V q.1 .nil⟩) λ⟨T,o,dQ,n,aD,aF,cS,dM⟩=>⟨dQ.toList,.inr ⟨T,o,n,aD,bV.keep _ _ aF,cS⟩,dM.keep ⟨⟨M,(List.nil_append _).symm⟩,λb o e B B B=>⟨bV.keep _ _ e,λhm=>bj<|(bV.fR _ hm).symm.trans e⟩⟩⟩
 refine codeAny_call_function (c1 (cT _ _) aX.depth) (bV.keep _ _ aA) bC AM vZ UU (Ac.keeps bV.keep) ?_;have oE:=b9.length;have AO:=AN.length;refine UL (ds:=ds) a6 rfl d4 bR eR (gV▸fN.sublist (List.take_sublist _ _)) (gM▸oE▸hle.1) (gM▸AO▸jl) (gM▸oE▸AO▸hle.2) oA _ _ _ _ ?_;have t7:b7 s.heap M (vs++ds.drop (ds.length-((fd.params.args.map (·.arg)).length-vs.length))) (args++fn.hH.drop (fn.hH.length-(fn.np-args.length))):=V gM<|V oE<|V AO<|b9.append<|AN.drop _;refine V UV<|wpAny_newFunctionEnv_cells qV (λx ac=> ?_) λaN he aY x=> ?_
 ·obtain⟨nm,v⟩:=x;obtain⟨p,ab,e⟩:=e3 (show nm∈(fd.scope.names.take fn.np).map (·.1)from V List.map_take<|eF gV (List.of_mem_zip ac).1);have qX:=List.mem_of_mem_take ab;exact e▸(jG p ab).imp (λq=>(xX fN qX).trans<|ai some q) λq=>⟨(xX fN qX).trans<|ai some q,Kt<|.inl<|q▸qX⟩
 ·subst he;obtain⟨F,g1,hv⟩:=UQ (a:=a) bV gV gM fN pT qW qV UW UX t7 (er.trans ((ai (_+·) List.length_drop).trans<|Kq hle.1 hle.2)) x;refine⟨(T.lim.keeps bV.keep).keeps x.toInCall.keep,codeAny_func ?_⟩;have UZ:eo d (A.deeper<|callEnvC fd s.heap.objs.size a):=⟨Qf aX.depth,by have:=aX.units;show A.units+3+_+_<_;lia,aX.handled⟩
  clear vY oA AN oE AO t7 a6 bR d4 eR gV gM fN jl jG pT qW qV vZ AM EA hle b9 x
  refine x5 (G:=G) (O:=O) (d:=d) body (λst B=>UE T ic (λe=>(Kg T ic (sizeOf e+1) e<|Nat.lt_add_one _).1) (λe=>(Kg T ic (sizeOf e+1) e<|Nat.lt_add_one _).2) (sizeOf st+1) st<|Nat.lt_add_one _) UY ac UZ F g1.ok λbF ft dm bd cC bf=> ?_;have AG:bX c [] s M bF ft aw:=(g1.ia.trans bd).tJ hv;refine US (v:=z) ae (λaD aF cS=> ?_) λu aD aF cS=> ?_
  ·subst aD aF cS;cases dm with
   |next=>exact h bF ft _ AG .none
   |_=>exact bf.elim
  ·subst aD aF cS;cases dm with
   |ret w=>exact h bF ft _ AG bf
   |_=>exact bf.elim
end
end
section
structure AP(c:Ctx)(P:jy)(K:Frag)(cV:Nat->Addr):Prop where
 made:∀(k:Nat) (aI:Addr),c.N.ca[k]? =some aI->makesIn K aI=true
 init:∀(k f:Nat) (aI:Addr),P.init k=some f->c.N.ca[k]? =some aI->findIn K (.ref aI) "__init__"=some (some<|.ref<|cV f)/\isFn K (.ref<|cV f)=true
 Kx:∀(k:Nat) (aI:Addr),P.init k=none->c.N.ca[k]? =some aI->findIn K (.ref aI) "__init__"=some (some<|.builtin "object.__init__")
def qY(c:Ctx)(P:jy)(cV:Nat->Addr)(d:Nat):Prop:=
 ∀f args C z S,a0 P d f args C=some (z,S)->(∃fn,P.px[f]? =some fn)/\
  ∀(A:Around) (R:Result->Shared->Prop) (s:Shared) (M:c6) (vs:List Value),eo d A->bJ c.w c.N c.au s.heap M C->b7 s.heap M vs args->eO c s M S z (λv aY=>R (.ok<|.ret v) aY)->codeAny (model c.prog c.w) A (.call (.ref<|cV f) ⟨vs,[]⟩) R s
section
variable{P:jy}{G:gS}
variable{x:I}{a b:Value}
noncomputable def AQ(P:jy)(d:Nat):xp:=match d with
 |0=>λB B B=>none
 |d+1=>λc args C=>match P.init c with
  |some f=>(a0 P d f (.L C.length::args)<|C++[.cO c λB=>none]).bind λr=>if r.1=.none then some (.L C.length,r.2)else none
  |none=>if args=[]then some (.L C.length,C++[.cO c λB=>none])else none
def U0(P:jy)(d f:Nat)(args:List I)(C:St):a0 P (d+1) f args C=(P.px[f]?).bind λfn=>tB {fn:=a0 P d,make:=AQ P d,b1:=P.b1} fn args C:=by
 cases d<;>rfl
def U1(args:Args):(Code.builtin "type.__call__" args).weight<=1:=
 have q:∀b:Bool,(Code.builtin "type.__call__" ⟨[],[]⟩).frames+(if b then 1 else 0)+(if(Code.builtin "type.__call__" ⟨[],[]⟩).isGuard then 1 else 0)+(if(Code.builtin "type.__call__" ⟨[],[]⟩).isCaller then claimMargin else 0)<=1:=by decide
 q (Code.isCreation<|Code.builtin "type.__call__" args)
def U2(args:Args):(Code.builtin "type.__call__" args).cUnits<=1:=(by decide:(Code.builtin "type.__call__" ⟨[],[]⟩).cUnits<=1)
def U3{a x l:Nat}(h:x<=1)(k:a+(d+1)<l):a+x+d<l:=c1 (V (rT a x d)<|hB h<|a+d) k
theorem U4{a x l:Nat}(h:x<=1)(k:a+10*(d+1)+300<l):a+x+10*d+300<l:=by lia
def U5(args:Args)(aX:eo (d+1) A):eo d (A.under<|.builtin "type.__call__" args):=⟨U3 (U1 args) aX.depth,U4 (U2 args) aX.units,aX.handled⟩
def Ky:((h.push emptyDict).push<|instObj aI h.objs.size).get? (h.objs.size+1)=some (instObj aI h.objs.size):=eF (Heap.size_push h emptyDict)<|Heap.get?_push_size _ rfl
def bb.U6(r:bb h M v .none):v=.none:=by cases r;rfl
def U7(bV:bJ c.w c.N c.au s.heap M C)(eX:c.N.ca[k]? =some aI):bX c [] s M {s with heap:=(s.heap.push emptyDict).push<|instObj aI s.heap.objs.size} (M++[(s.heap.objs.size+1,some s.heap.objs.size)]) (C++[.cO k λB=>none]):=by
 have cx:∀b o,s.heap.get? b=some o->((s.heap.push emptyDict).push<|instObj aI s.heap.objs.size).get? b=some o:=λb o e=>Heap.get?_push_of_some _<|Heap.get?_push_of_some _ e;have hn:∀b∈foot [(s.heap.objs.size+1,some s.heap.objs.size)],s.heap.get? b=none:=mL.mpr ⟨zY<|j1 _,mL.mpr ⟨rV _,λB h=>absurd h b4⟩⟩;refine⟨⟨⟨_,rfl,λb aj=>.inl<|hn b aj⟩,λb y e B B=>cx b y e,λb y e B=>⟨y,cx b y e⟩,λB b y B B e=>cx b y e⟩,bV.push hn (List.pairwise_pair.mpr<|Nat.succ_ne_self _) cx (λK=> ?_) bV.alive,rfl,rfl,rfl⟩;exact⟨aI,s.heap.objs.size,[],0,eX,rfl,Ky,Heap.get?_push_of_some _<|Heap.get?_push_size _ rfl,(λe he=>absurd he b4:rQ []),jB _,λx=>by
  cases c.N.fr.idxOf? x<;>exact trivial,λx ac=>Bool.noConfusion ac⟩
def U8{args:List I}(aH:AQ P (d+1) k args C=some (z,S))(dK:∀f,P.init k=some f->∀aw,a0 P d f (.L C.length::args) (C++[.cO k λB=>none])=some (.none,aw)->z=.L C.length->aw=S->R)(fk:P.init k=none->args=[]->z=.L C.length->C++[.cO k λB=>none]=S->R):R:=by
 have aH:(match P.init k with
  |some f=>(a0 P d f (.L C.length::args)<|C++[.cO k λB=>none]).bind λr=>if r.1=.none then some (.L C.length,r.2)else none
  |none=>if args=[]then some (.L C.length,C++[.cO k λB=>none])else none)=some (z,S):=aH
 cases ah:P.init k with
 |some f=>rw[ah]at aH;exact c0 aH λfb aw Y aH=>d1 aH λhz aH=>dK f ah aw ((show fb=.none from hz)▸Y) (dC aH).1.symm (dC aH).2
 |none=>rw[ah]at aH;exact d1 aH λh aH=>fk ah h (dC aH).1.symm (dC aH).2
def U9(T:fY c P G K cV ei e4)(df:AP c P K cV)(v1:qY c P cV d){args:List I}(aH:AQ P (d+1) k args C=some (z,S))(eX:c.N.ca[k]? =some aI)(aX:eo (d+1) A)(bV:bJ c.w c.N c.au s.heap M C)(b9:b7 s.heap M vs args)(h:eO c s M S z Q):wpAny (model c.prog c.w) A (call (.ref aI) vs) Q aB s:=by
 have a4:K.In s.heap:=T.cls.xO.keeps bV.keep;have cI:=@makes_of _ (model c.prog c.w) _ a4 _<|df.made k aI eX;have g1:=U7 (s:=s) bV eX;have rX:bb ((s.heap.push emptyDict).push<|instObj aI s.heap.objs.size) (M++[(s.heap.objs.size+1,some s.heap.objs.size)]) (.ref<|s.heap.objs.size+1) (.L C.length):=bb.last (p:=(s.heap.objs.size+1,some s.heap.objs.size)) bV;refine U8 aH (λf hf aw Y aD aF=> ?_) λhf bM aD aF=> ?_
 ·subst aD aF;have q:=df.init k f aI hf eX;refine wpAny_call<|make_core cI (looks_findIn a4 q.1) (λi7=>bind_fn a4 i7<|beq_iff_eq.mp q.2) (.inl rfl) ?_;exact(v1 _ _ _ _ _ Y).2 _ _ _ _ _ (U5 _ aX) g1.ok (.cons rX<|b9.keep g1.keep) λbF ft v bd bf=>⟨bf.U6,h bF ft _ (g1.trans bd)<|rX.keep bd.keep⟩
 ·subst aD aF bM;obtain rfl:=xw b9.length;refine wpAny_call<|make_core cI (looks_findIn a4<|df.Kx k aI hf eX) (λi7=>Looks.of_pure<|oi_bind i7) (.inr ⟨rfl,rfl⟩) ?_;have gv:Looks (model c.prog c.w) ((s.heap.push emptyDict).push<|instObj aI s.heap.objs.size) (isInstance (.ref<|s.heap.objs.size+1)<|.type "object") true:=((Looks.ld Ky).andThen .now).andThen<|cI.top.keeps λb o e=>Heap.get?_push_of_some _<|Heap.get?_push_of_some _ e;exact codeAny_call_builtin oi_plain entry_oi<|@check_slot (model c.prog c.w) _ _ _ "object.__init__" "object" "__init__" (.ref<|s.heap.objs.size+1) [] [] _ oi_kind oi_split gv (oi_args<|.ref<|s.heap.objs.size+1)<|V (oi_run _)<|wpAny_pure ⟨rfl,h _ _ _ g1 rX⟩
def Va(T:fY c P G K cV ei e4)(df:AP c P K cV)(v1:qY c P cV d)(EC:∀ud,d=ud+1->qY c P cV ud):r3 c P cV {fn:=a0 P d,make:=AQ P d,b1:=P.b1} d where
 b1:=rfl
 fn:=λf args C z S h=>⟨(v1 f args C z S h).1,λA aB s M vs Q aX bV b9 fE=>wpAny_call<|(v1 f args C z S h).2 A _ s M vs aX bV b9 fE⟩
 make:=λk args C z S aI h eX A aB s M vs Q aX bV b9 fE=>by
  cases d with
  |zero=>contradiction
  |succ d=>exact U9 T df (EC d rfl) h eX aX bV b9 fE
def Vb(T:fY c P G K cV ei e4)(df:AP c P K cV)(v0:∀f fn,P.px[f]? =some fn->x8 c G fn (cV f))(d:Nat):qY c P cV d/\qY c P cV (d+1):=by
 have step:∀d,qY c P cV d->(∀ud,d=ud+1->qY c P cV ud)->qY c P cV (d+1):=λd v1 EC f args C z S h=>bW ((U0 P d f args C).symm.trans h) λfn r1 h=>⟨⟨fn,r1⟩,λA R s M vs aX bV b9 fE=>UT T (Va T df v1 EC) (v0 f fn r1) h aX bV b9 fE⟩
 have zero:qY c P cV 0:=λf args C z S h=>bj h;induction d with
 |zero=>exact⟨zero,step 0 zero λud h=>Nat.noConfusion h⟩
 |succ d ay=>exact⟨ay.2,step (d+1) ay.2 λud h=>nq h▸ay.1⟩
end
end
section
set_option backward.match.sparseCases true
def Sub(K dR:Frag):Prop:=∀a o,K.lookup a=some o->dR.lookup a=some o
@[elab_as_elim] def Kz{y x:Option Obj}{p:Option Obj->Prop}(a9:∀o,x=some o->y=some o)(h:p x)(hn:¬p none):p y:=by
 cases x with
 |none=>exact absurd h hn
 |some o=>exact V (a9 o rfl) h
def KA{α:Type}{p:Prop}[Decidable p]{x r:Option α}(h:p)(k:x=r):(if p then x else none)=r:=V (bg h) k
def pU{α:Type}[BEq α][LawfulBEq α]{x y:Option α}{r:α}(a9:x=some r->y=some r)(h:(x==some r)=true):(y==some r)=true:=beq_iff_eq.mpr<|a9<|beq_iff_eq.mp h
def AR{α:Type}{x:Option α}{a:α}{f:α->Bool}(h:x=some a)(k:f a):x.any f:=V h k
section
variable{dR:Frag}
def Vc(a9:Sub K dR){ns:Addr}(e:nsIn K ns x=some r):nsIn dR ns x=some r:=by delta nsIn at e⊢;exact Kz (a9 ns) e λq=>bj q
def x9(a9:Sub K dR){cd:ClassData}(e:clsIn K aI=some cd):clsIn dR aI=some cd:=by delta clsIn at e⊢;exact Kz (a9 aI) e λq=>bj q
def KB:ownIn K x (.ref a)=(clsIn K a).bind λcd=>nsIn K cd.ns x:=by
 delta clsIn;show(match K.lookup a with
  |some ⟨B,cq,.cls cd,eE⟩=>nsIn K cd.ns x
  |_=>none)=_
 cases K.lookup a with
 |none=>exact(rfl:(none:Option (Option Value))=none)
 |some o=>
  obtain⟨c,d,me,eI⟩:=o;cases me with
  |cls cd=>exact rfl
  |_=>exact(rfl:(none:Option (Option Value))=none)
def KC:findIn K (.ref a) x=(clsIn K a).bind λcd=>alongIn K x cd.mro:=by
 delta clsIn;show(match K.lookup a with
  |some ⟨B,cq,.cls cd,eE⟩=>alongIn K x cd.mro
  |_=>none)=_
 cases K.lookup a with
 |none=>exact(rfl:(none:Option (Option Value))=none)
 |some o=>
  obtain⟨c,d,me,eI⟩:=o;cases me with
  |cls cd=>exact rfl
  |_=>exact(rfl:(none:Option (Option Value))=none)
def Vd(a9:Sub K dR)(e:ownIn K x v=some r):ownIn dR x v=some r:=by
 cases v with
 |ref a=>exact bW (bu KB e) λcd Y ae=>KB.trans<|cF (x9 a9 Y)<|Vc a9 ae
 |_=>exact e
def Ve(a9:Sub K dR){l:List Value}:alongIn K x l=some r->alongIn dR x l=some r:=by
 induction l with
 |nil=>exact id
 |cons c l ay=>
  intro e;have e:(match ownIn K x c with
   |some (some v)=>some<|some v
   |some none=>alongIn K x l
   |none=>none)=some r:=e
  show(match ownIn dR x c with
   |some (some v)=>some<|some v
   |some none=>alongIn dR x l
   |none=>none)=some r
  cases aA:ownIn K x c with
  |none=>rw[aA]at e;exact bj e
  |some y=>
   rw[aA]at e;refine V (Vd a9 aA) ?_;cases y with
   |none=>exact ay e
   |some v=>exact e
def si(a9:Sub K dR){t:Value}(e:findIn K t x=some r):findIn dR t x=some r:=by
 cases t with
 |ref a=>exact bW (bu KC e) λcd Y ae=>KC.trans<|cF (x9 a9 Y)<|Ve a9 ae
 |_=>exact e
def KD(a9:Sub K dR){t:Value}(e:typeIn K v=some t):typeIn dR v=some t:=by
 cases v with
 |ref a=>exact dt e λo aA q=>(ai (Option.map Obj.cls)<|a9 _ _ aA).trans<|ai some q
 |_=>exact e
def Vf(a9:Sub K dR){b:Value}{r:Bool}(e:mroIn K aI b=some r):mroIn dR aI b=some r:=bW e λcd Y ae=>cF (x9 a9 Y) ae
def Vg(a9:Sub K dR){t b:Value}{r:Bool}(e:subIn K t b=some r):subIn dR t b=some r:=by
 cases t with
 |ref aI=>exact Vf a9 e
 |_=>exact e
def Vh(a9:Sub K dR){b:Value}{r:Bool}(e:instIn K v b=some r):instIn dR v b=some r:=bW e λt Y ae=>cF (KD a9 Y)<|Vg a9 ae
def KE(a9:Sub K dR)(e:specialIn K v x=some r):specialIn dR v x=some r:=bW e λt Y ae=>cF (KD a9 Y)<|si a9 ae
def Vi(a9:Sub K dR)(e:plainGet K aI x):plainGet dR aI x:=dJ (pU (si a9)<|bP e)<|pU (si a9)<|cN e
def Vj(a9:Sub K dR)(e:hasDictIn K aI):hasDictIn dR aI:=(any_some e).elim λcd q=>AR (x9 a9 q.1) q.2
def Vk(a9:Sub K dR)(e:plainOver K aI):plainOver dR aI:=(any_some e).elim λcd q=>AR (x9 a9 q.1) q.2
def Vl(a9:Sub K dR)(e:keepIn K v):keepIn dR v:=by
 cases v with
 |ref a=>
  have e:(match K.lookup a with
   |some ⟨B,cq,.func eE,hc⟩=>true
   |some ⟨B,cq,.cls eE,hc⟩=>specialIn K (.ref a) "__call__"==some (some<|.builtin "type.__call__")
   |_=>false)=true:=e
  show(match dR.lookup a with
   |some ⟨B,cq,.func eE,hc⟩=>true
   |some ⟨B,cq,.cls eE,hc⟩=>specialIn dR (.ref a) "__call__"==some (some<|.builtin "type.__call__")
   |_=>false)=true
  cases an:K.lookup a with
  |none=>rw[an]at e;exact b8 e
  |some o=>
   rw[an]at e;refine V (a9 _ _ an) ?_
   clear an
   obtain⟨c,d,me,eI⟩:=o;cases me with
   |func B=>exact rfl
   |cls cd=>exact pU (KE a9) e
   |_=>exact b8 e
 |_=>exact e
def Vm(a9:Sub K dR)(e:makesIn K aI):makesIn dR aI:=by
 delta makesIn at e⊢;cases an:K.lookup aI with
 |none=>rw[an]at e;exact b8 e
 |some o=>
  rw[an]at e;refine V (a9 _ _ an) ?_
  clear an
  obtain⟨c,d,me,eI⟩:=o;cases me with
  |cls cd=>exact dJ (dJ (bP<|bP e)<|pU (KE a9)<|cN<|bP e)<|pU (Vh a9)<|cN e
  |_=>exact b8 e
end
abbrev g8:=Nat->Option Obj
def qZ(g eP:g8):Prop:=∀a o,g a=some o->eP a=some o
noncomputable def mf(g:g8)(as:List Nat):Frag:=as.filterMap λa=>(g a).map λo=>(a,o)
def ED{g:g8}{b:Nat}{x:Obj}(h:g b=some x):mf g (b::as)=(b,x)::mf g as:=List.filterMap_cons_some<|ai (Option.map λo=>(b,o)) h
def KF{g:g8}{b:Nat}(h:g b=none):mf g (b::as)=mf g as:=List.filterMap_cons_none<|ai (Option.map λo=>(b,o)) h
def KG{α:Type}{x p:Nat}{b:α}{ax:List (Nat×α)}(h:x≠p):((p,b)::ax).lookup x=ax.lookup x:=V List.lookup_cons<|V (beq_eq_false_iff_ne.mpr h) rfl
def EE{g:g8}{a:Nat}:(mf g as).lookup a=some o->a∈as/\g a=some o:=by
 induction as with
 |nil=>exactλh=>bj h
 |cons b as ay=>
  intro h;cases aj:g b with
  |none=>exact(ay<|KF aj▸h).imp_left<|bQ _
  |some x=>
   have h:((b,x)::mf g as).lookup a=some o:=ED aj▸h;by_cases aC:a=b
   ·subst aC;exact⟨bp,aj.trans<|bu List.lookup_cons_self h⟩
   ·exact(ay<|(KG aC).symm.trans h).imp_left<|bQ _
def KH{g:g8}{a:Nat}(h:g a=some o):a∈as->(mf g as).lookup a=some o:=by
 induction as with
 |nil=>exactλhm=>absurd hm b4
 |cons b as ay=>
  intro hm;by_cases hab:a=b
  ·subst hab;exact V (ED h) List.lookup_cons_self
  ·have ay:=ay<|(cR hm).resolve_left hab;cases aj:g b with
   |none=>exact V (KF aj) ay
   |some x=>exact V (ED aj)<|(KG hab).trans ay
def EF{g eP:g8}{bs:List Nat}(e:qZ g eP)(h:∀a∈as,a∈bs):Sub (mf g as) (mf eP bs):=λa o an=>KH (e _ _ (EE an).2)<|h _ (EE an).1
def Vn(as:List Nat):Frag.In (mf h.get? as) h:=λa o an=>(EE an).2
noncomputable def KI(v:Value):Option Int:=v.casesOn none none none (λB=>none) (λi B=>some i) (λB B=>none) (λB B=>none) (λB B=>none) (λB=>none) (λB=>none) λB=>none
noncomputable def EG(v:Value):Option Str:=v.casesOn none none none (λB=>none) (λB B=>none) (λB B=>none) (λs B=>some s) (λB B=>none) (λB=>none) (λB=>none) λB=>none
noncomputable def KJ(v:Value):Option Addr:=v.casesOn none none none (λB=>none) (λB B=>none) (λB B=>none) (λB B=>none) (λB B=>none) (λB=>none) (λB=>none) some
noncomputable def EH(d:Data):Option (Array Value):=d.casesOn none (λB=>none) (λdQ B=>some dQ) (λB B=>none) (λB B B=>none) (λB B=>none) (λB=>none) (λB=>none) (λB=>none) (λB=>none) none
noncomputable def KK(d:Data):Option (Array Value):=d.casesOn none (λB=>none) (λB B=>none) (λB B=>none) (λB B B=>none) (λB B=>none) (λB=>none) (λB=>none) (λB=>none) some none
noncomputable def KL(d:Data):Option FuncData:=d.casesOn none (λB=>none) (λB B=>none) (λB B=>none) (λB B B=>none) (λB B=>none) (λB=>none) some (λB=>none) (λB=>none) none
noncomputable def KM:FuncBody->Option (List Stmt)
 |.stmts b=>some b
 |_=>none
def Vo{i:Int}(h:KI v=some i):∃t,v=.int i t:=by
 cases v with
 |int j t=>exact⟨t,ai (Value.int · t)<|br h⟩
 |_=>exact bj h
def KN{s:Str}(h:EG v=some s):∃t,v=.str s t:=by
 cases v with
 |str j t=>exact⟨t,ai (Value.str · t)<|br h⟩
 |_=>exact bj h
def Vp(h:KJ v=some a):v=.ref a:=by
 cases v with
 |ref b=>exact ai Value.ref<|br h
 |_=>exact bj h
def KO{d:Data}(h:EH d=some dQ):∃n,d=.seq dQ n:=by
 cases d with
 |seq a n=>exact⟨n,ai (Data.seq · n)<|br h⟩
 |_=>exact bj h
def Vq{d:Data}(h:KK d=some dQ):d=.fields dQ:=by
 cases d with
 |fields a=>exact ai Data.fields<|br h
 |_=>exact bj h
def KP{d:Data}(h:KL d=some fd):d=.func fd:=by
 cases d with
 |func a=>exact ai Data.func<|br h
 |_=>exact bj h
def Vr{d:FuncBody}{b:List Stmt}(h:KM d=some b):d=.stmts b:=by
 cases d with
 |stmts a=>exact ai FuncBody.stmts<|br h
 |_=>exact bj h
noncomputable def v2{β:Type}(g:g8)(f:Obj->Option β)(v:Value):Option β:=(KJ v).bind λt=>(g t).bind f
def EI{β:Type}{g eP:g8}(aB:qZ g eP){f:Obj->Option β}{r:β}(h:v2 g f v=some r):v2 eP f v=some r:=bW h λt Y ae=>bW ae λo ba cp=>cF Y<|cF (aB _ _ ba) cp
def EJ{β:Type}{g:g8}{f:Obj->Option β}{r:β}(h:v2 g f v=some r)(k:∀t o,v=.ref t->g t=some o->f o=some r->R):R:=bW h λt Y ae=>bW ae λo ba cp=>k t o (Vp Y) ba cp
noncomputable def ya(ok:Value->I->Bool)(l:List I)(dQ:Array Value):Bool:=dQ.size==l.length&&(dQ.toList.zip l).all λp=>ok p.1 p.2
def KQ{f g:Value->I->Bool}(k:∀{v d},f v d->g v d)(h:ya f l dQ):ya g l dQ:=dJ (bP h)<|nv.mpr λp ab=>k<|hh (cN h) p ab
noncomputable def q0(v:Value)(d:I):Bool:=d.casesOn (decide<|v=.none) (λb=>decide<|v=.bool b) (λi=>decide<|KI v=some i) (λs=>decide<|EG v=some s) (λB=>false) λB=>false
noncomputable def Vs(o:Obj):Option (Array Value):=if decide (o.cls=.type "tuple")=true then EH o.data else none
noncomputable def ue(g:g8)(n:Nat):Value->I->Bool:=n.rec q0 λB ay v d=>d.casesOn (q0 v d) (λB=>q0 v d) (λB=>q0 v d) (λB=>q0 v d) (λl=>(v2 g Vs v).any λdQ=>decide (l.length<=16000000)&&ya ay l dQ) λB=>q0 v d
def Vt:∀{vs:List Value},vs.length=l.length->(∀p∈vs.zip l,bb h M p.1 p.2)->b7 h M vs l:=by
 induction l with
 |nil=>exactλe B=>xw e▸.nil
 |cons d l ay=>
  intro vs e k;cases vs with
  |nil=>exact absurd e.symm<|qB _
  |cons v vs=>exact .cons (k (v,d) bp)<|ay (nq e) λp ab=>k p<|bQ _ ab
def KR{ok:Value->I->Bool}(k:∀{v d},ok v d->bb h M v d)(e:ya ok l dQ):b7 h M dQ.toList l:=Vt (eq_of_beq<|bP e) λp ab=>k<|hh (cN e) p ab
def AS{g eP:g8}(aB:qZ g eP)(n:Nat):∀{v:Value} {d:I},ue g n v d->ue eP n v d:=by
 induction n with
 |zero=>exact id
 |succ n ay=>
  intro v d;cases d with
  |ak l=>exactλh=>(any_some h).elim λdQ q=>AR (EI aB q.1)<|dJ (bP q.2)<|KQ ay<|cN q.2
  |_=>exact id
def KS{d:I}(e:q0 v d):bb h [] v d:=by
 cases d with
 |none=>exact(dw e:v=.none)▸.none
 |bool b=>exact(dw e:v=.bool b)▸.bool b
 |int i=>exact(Vo<|dw e).elim λt q=>q▸.int i t
 |str s=>exact(KN<|dw e).elim λt q=>q▸.str s t
 |_=>exact b8 e
def EK(n:Nat):∀{v:Value} {d:I},ue h.get? n v d->bb h [] v d:=by
 induction n with
 |zero=>exact KS
 |succ n ay=>
  intro v d;cases d with
  |ak l=>exactλe=>(any_some e).elim λdQ q=>EJ q.1 λt o aR aA aJ=>d1 aJ λag aJ=>(KO aJ).elim λfH bC=>aR▸.ak ⟨o,aA,dw ag,fH,bC⟩ ⟨λq=>absurd q b4,dw<|bP q.2⟩ (KR ay<|cN q.2)
  |_=>exactλe=>KS<|show q0 v _=true from e
noncomputable def EL(g:g8)(v:Value)(l:List I):Bool:=decide (v=.none)&&l.isEmpty||(v2 g (λo=>EH o.data) v).any (ya (ue g 4) l)
noncomputable def Vu(g:g8)(v:Value)(q:Str):Bool:=decide<|v2 g (λo=>(KK o.data).bind λvs=>(vs[1]?).bind EG) v=some q
noncomputable def pV(G:gS)(g:g8)(a:Nat)(l:List I):Option fq:=(g a).bind λo=>if decide (o.cls=.type "function")=true then(KL o.data).bind λfd=>if(fd.closure.isEmpty&&fd.globals==mainGlobals&&fd.builtins==builtinsNs&&Vu g fd.code fd.qualname&&EL g fd.defaults l)=true then(KM fd.body).bind λb=>Db G fd.params b fd.scope l else none else none
def Vv{g eP:g8}(aB:qZ g eP)(h:EL g v l):EL eP v l:=(qR _ _).mpr<|((qR _ _).mp h).imp_right λh=>(any_some h).elim λdQ q=>AR (EI aB q.1)<|KQ (AS aB 4) q.2
def Vw{G:gS}{g eP:g8}(aB:qZ g eP){a:Nat}(h:pV G g a l=some fn):pV G eP a l=some fn:=bW h λo Y h=>d1 h λq h=>bW h λfd ae h=>d1 h λeW h=>cF (aB _ _ Y)<|KA q<|cF ae<|KA (dJ (dJ (bP<|bP eW)<|cj<|EI aB<|dw<|cN<|bP eW)<|Vv aB<|cN eW) h
def Vx{G:gS}{a:Nat}(h:pV G c.au.get? a l=some fn):x8 c G fn a/\∃o,c.au.get? a=some o/\o.cls=.type "function"/\∃fd,o.data=.func fd:=by
 refine bW h λo Y h=>d1 h λq h=>bW h λfd ae h=>d1 h λeW h=>bW h λb ba h=> ?_;obtain rfl:fn.hH=l:=Ku h λB B B B B B B B B B B B B B q B=>q;refine⟨⟨⟨o,fd,b,Y,KP ae,Vr ba,uc.mp<|bP<|bP<|bP<|bP eW,eq_of_beq<|cN<|bP<|bP<|bP eW,eq_of_beq<|cN<|bP<|bP eW,?_,h,?_⟩⟩,o,Y,dw q,fd,KP ae⟩
 ·exact EJ (dw<|cN<|bP eW) λt o aR aA aJ=>bW aJ λvs hf aJ=>bW aJ λu bD aJ=>(KN aJ).elim λtk e=>⟨t,o,vs,tk,aR,aA,Vq hf,e▸bD⟩
 ·exact((qR _ _).mp<|cN eW).imp (λq=>⟨uc.mp<|cN q,dw<|bP q⟩) λq=>(any_some q).elim λdQ q=>EJ q.1 λt o aR aA aJ=>(KO aJ).elim λn bC=>⟨t,o,dQ,n,aR,aA,bC,KR (EK 4) q.2⟩
end
variable{eP:g8}
noncomputable abbrev e5:Program:=PySem.Challenge.rw_pq0592_01.row.toRowW.1
noncomputable def stmts:List Stmt:=behindTheImports e5
noncomputable def eI(a b:Nat):List Stmt:=(stmts.drop a).take<|b-a
noncomputable def sj:Env:={scope:=e5.main.scope,locals:=mainNs,globals:=mainNs,cells:=[],code:=.ref 13,frame:=some 14}
noncomputable def ig:Code:=.body stmts sj
noncomputable def uf:Nat->(Nat->Obj)->BT
 |0,B=>.nil
 |d+1,g=>.node (g 0) (uf d λi=>g<|2*i+1)<|uf d λi=>g<|2*i+2
noncomputable def mg(g:Nat->Obj)(n tk:Nat)(os:OsState):SharedT:={tree:=uf 11 g,n,life:={},gens:= #[],drawn:={},toks:=tk,os}
noncomputable def mP(w:World)(fuel:Nat)(s:SharedT)(a b:Nat)(p:Pos):Option (Flow×SharedT×Code×Pos):=PySem.W.Fast.tw10110043849684766642 PySem.W.Fast.tw14364793385576792824 e5 w 11 (some<|.ref 6) 1 fuel s<|piecesOf (eI a b) sj ig p [topFrame ⟨0,0,0,0⟩]
noncomputable def AT(P:Params)(l:List (Str×Nat×Value)):List DictEntry:=l.map λp=>{hash:=PyData.keyHash P p.1,key:=.str p.1 p.2.1,val:=p.2.2}
noncomputable def EM:List (Str×Nat×Value):=[
 (aa "__doc__",166,.none),
 (aa "__package__",167,.none),
 (aa "__loader__",168,(.builtin "__main__.__loader__#opaque")),
 (aa "__spec__",169,.none),
 (aa "__annotations__",170,(.ref 6)),
 (aa "__builtins__",171,(.ref 4)),
 (aa "__file__",173,(.str (aa "/claim/cut.py") 172)),
 (aa "__cached__",174,.none),
 (aa "_wall",193,(.ref 21)),
 (aa "U_ANY",197,(.int (1) 196)),
 (aa "U_PROP",199,(.int (3) 198)),
 (aa "U_READONLY",201,(.int (4) 200)),
 (aa "U_ENUM",203,(.int (10) 202)),
 (aa "U_OPTION",205,(.int (11) 204)),
 (aa "U_VAR",207,(.int (15) 206)),
 (aa "KeepError",238,(.ref 39)),
 (aa "TooDeep",267,(.ref 60)),
 (aa "HostFault",294,(.ref 80)),
 (aa "Notes",345,(.ref 120)),
 (aa "Y_KEY",349,(.int (1) 348)),
 (aa "Y_BOOL",351,(.int (2) 350)),
 (aa "Y_STR",353,(.int (3) 352)),
 (aa "Y_NUM",355,(.int (4) 354)),
 (aa "Y_ENUM",357,(.int (5) 356)),
 (aa "Y_UNION",359,(.int (6) 358)),
 (aa "Y_INTER",361,(.int (7) 360)),
 (aa "Y_OBJ",363,(.int (8) 362)),
 (aa "Y_REF",365,(.int (9) 364)),
 (aa "Y_PARAM",367,(.int (10) 366)),
 (aa "Y_ARRAY",369,(.int (11) 368)),
 (aa "Y_TUPLE",371,(.int (12) 370)),
 (aa "Y_SIG",373,(.int (13) 372)),
 (aa "Y_KEYOF",375,(.int (14) 374)),
 (aa "Y_INDEX",377,(.int (15) 376)),
 (aa "Y_COND",379,(.int (16) 378)),
 (aa "Y_MAPPED",381,(.int (17) 380)),
 (aa "Y_TPL",383,(.int (18) 382)),
 (aa "Y_ALIAS",385,(.int (19) 384)),
 (aa "ANY",387,(.int (0) 386)),
 (aa "UNKNOWN",389,(.int (1) 388)),
 (aa "NEVER",391,(.int (2) 390)),
 (aa "VOID",393,(.int (3) 392)),
 (aa "UNDEF",395,(.int (4) 394)),
 (aa "NULLT",397,(.int (5) 396)),
 (aa "STRING",399,(.int (6) 398)),
 (aa "NUMBER",401,(.int (7) 400)),
 (aa "FALSE_T",403,(.int (8) 402)),
 (aa "TRUE_T",405,(.int (9) 404)),
 (aa "OBJECTT",407,(.int (10) 406)),
 (aa "EMPTY",409,(.int (11) 408)),
 (aa "ERR",411,(.int (13) 410)),
 (aa "FRESH_F",413,(.int (14) 412)),
 (aa "FRESH_T",415,(.int (15) 414)),
 (aa "P_OPT",417,(.int (1) 416)),
 (aa "P_READONLY",419,(.int (2) 418)),
 (aa "P_METHOD",421,(.int (4) 420)),
 (aa "P_PRIVATE",423,(.int (8) 422)),
 (aa "P_PROTECTED",425,(.int (16) 424)),
 (aa "P_GETONLY",427,(.int (32) 426)),
 (aa "V_CO",429,(.int (1) 428)),
 (aa "MAX_UNION",431,(.int (400) 430)),
 (aa "FIRST_ROWS",453,(.ref 147)),
 (aa "LITERAL_ROWS",454,(.ref 148)),
 (aa "MARKED_ROWS",455,(.ref 149)),
 (aa "TypeTable",510,(.ref 180)),
 (aa "Decl",555,(.ref 201)),
 (aa "str_type",565,(.ref 213)),
 (aa "num_type",575,(.ref 221)),
 (aa "bool_type",585,(.ref 229)),
 (aa "ref_type",594,(.ref 236)),
 (aa "sorted_props",600,(.ref 241)),
 (aa "obj_type",614,(.ref 253)),
 (aa "func_type",622,(.ref 260)),
 (aa "new_decl",632,(.ref 267)),
 (aa "parts_of",641,(.ref 274)),
 (aa "whole_of_row",649,(.ref 281)),
 (aa "regular_twin",658,(.ref 288)),
 (aa "join_bools",665,(.ref 295)),
 (aa "stays_beside",674,(.ref 302)),
 (aa "top_of",682,(.ref 309)),
 (aa "union",688,(.ref 314)),
 (aa "add_undef",696,(.ref 321)),
 (aa "is_literal",704,(.ref 328)),
 (aa "is_unit",712,(.ref 335)),
 (aa "is_fresh",721,(.ref 342)),
 (aa "regular_one",729,(.ref 349)),
 (aa "R_ASSIGN",733,(.int (1) 732)),
 (aa "R_COMPARE",735,(.int (2) 734)),
 (aa "R_IDENT",737,(.int (3) 736)),
 (aa "R_SUBTYPE",739,(.int (4) 738)),
 (aa "RULE_MEET",741,(.int (1) 740)),
 (aa "RULE_DEFERRED",743,(.int (2) 742)),
 (aa "RULE_SIG",745,(.int (3) 744)),
 (aa "RULE_LIST",747,(.int (4) 746)),
 (aa "RULE_OBJECT",749,(.int (5) 748)),
 (aa "RULE_CHOICE",751,(.int (6) 750)),
 (aa "RULE_CALLS",753,(.int (8) 752)),
 (aa "RULE_INDEX",755,(.int (10) 754)),
 (aa "RULE_REFS",757,(.int (11) 756)),
 (aa "RULE_PLACES",759,(.int (12) 758)),
 (aa "RULE_WORD",761,(.int (14) 760)),
 (aa "VALUE_ROWS",762,(.ref 350)),
 (aa "LIST_ROWS",763,(.ref 351)),
 (aa "SHAPED_ROWS",764,(.ref 352)),
 (aa "DEFERRED_ROWS",765,(.ref 353)),
 (aa "OPEN_ROWS",766,(.ref 355)),
 (aa "MAX_OPEN",768,(.int (60) 767)),
 (aa "RelRule",837,(.ref 400)),
 (aa "Rel",929,(.ref 463)),
 (aa "by_rule",940,(.ref 474)),
 (aa "silent_with",949,(.ref 481)),
 (aa "twin_of",956,(.ref 488)),
 (aa "cut_back",964,(.ref 495)),
 (aa "settled",972,(.ref 502)),
 (aa "ask_kinds",983,(.ref 509)),
 (aa "kept",995,(.ref 516)),
 (aa "close_trail",1004,(.ref 523)),
 (aa "tells",1011,(.ref 530)),
 (aa "taken_wider",1020,(.ref 537)),
 (aa "slot_notes",1031,(.ref 544)),
 (aa "all_related",1041,(.ref 551)),
 (aa "simple_related",1054,(.ref 558)),
 (aa "tops_related",1063,(.ref 565)),
 (aa "unknown_told",1072,(.ref 572)),
 (aa "is_numeric_enum",1079,(.ref 579)),
 (aa "values_related",1090,(.ref 586)),
 (aa "number_to_enum",1100,(.ref 593)),
 (aa "structured",1112,(.ref 600)),
 (aa "rule_for",1120,(.ref 607)),
 (aa "from_union",1130,(.ref 614)),
 (aa "some_part",1142,(.ref 621)),
 (aa "lay_again",1151,(.ref 628)),
 (aa "to_union",1163,(.ref 635)),
 (aa "same_kind",1175,(.ref 642)),
 (aa "each_in",1185,(.ref 649)),
 (aa "MOST_PLAIN",1189,(.int (40) 1188)),
 (aa "PLAIN_ROWS",1190,(.ref 650)),
 (aa "plain_shape",1200,(.ref 657)),
 (aa "base_did",1209,(.ref 664)),
 (aa "MOST_ROUNDS",1213,(.int (200) 1212)),
 (aa "MOST_SHAPES",1215,(.int (40) 1214)),
 (aa "Thin",1385,(.ref 793)),
 (aa "RefHost",1439,(.ref 835)),
 (aa "find_prop",1448,(.ref 844)),
 (aa "prop_row",1459,(.ref 851)),
 (aa "read_type",1467,(.ref 858)),
 (aa "has_base",1473,(.ref 863)),
 (aa "is_weak",1481,(.ref 868)),
 (aa "shows_nothing",1491,(.ref 875)),
 (aa "is_weak_kind",1497,(.ref 880)),
 (aa "weak_fault",1503,(.ref 885)),
 (aa "MAX_ROAD",1507,(.int (24) 1506)),
 (aa "LENGTH_CHANGERS",1512,(.ref 886)),
 (aa "did_of",1519,(.ref 893)),
 (aa "rises",1532,(.ref 900)),
 (aa "too_deep",1542,(.ref 907)),
 (aa "objects_related",1555,(.ref 914)),
 (aa "refs_related",1569,(.ref 921)),
 (aa "opened",1581,(.ref 928)),
 (aa "is_readonly",1588,(.ref 935)),
 (aa "weak_asked",1596,(.ref 942)),
 (aa "shape_related",1609,(.ref 949)),
 (aa "relshape_within_literal",1615,(.ref 954)),
 (aa "rest_related",1625,(.ref 961)),
 (aa "lacking",1634,(.ref 968)),
 (aa "owners_fit",1646,(.ref 975)),
 (aa "marks_fit",1656,(.ref 982)),
 (aa "loss_notes",1666,(.ref 989)),
 (aa "prop_related",1679,(.ref 996)),
 (aa "same_objects",1690,(.ref 1003)),
 (aa "same_shapes",1703,(.ref 1010)),
 (aa "same_prop",1714,(.ref 1017)),
 (aa "RelshapeObjectRule",1750,(.ref 1041)),
 (aa "install_rel_objects",1757,(.ref 1050)),
 (aa "_law_masks",1776,(.ref 1051)),
 (aa "_law_draw",1787,(.ref 1058)),
 (aa "_law_norm",1794,(.ref 1065)),
 (aa "_law_kind",1800,(.ref 1070)),
 (aa "_law_prop",1812,(.ref 1077)),
 (aa "_law_moved",1818,(.ref 1082)),
 (aa "_law_other",1824,(.ref 1087)),
 (aa "_law_nodes",1830,(.ref 1092)),
 (aa "_law_read",1837,(.ref 1099)),
 (aa "_law_count",1843,(.ref 1104)),
 (aa "_law_alike",1849,(.ref 1109)),
 (aa "_law_twins",1855,(.ref 1114)),
 (aa "_law_table",1866,(.ref 1121)),
 (aa "_law_atom",1875,(.ref 1128)),
 (aa "_law_type",1881,(.ref 1133)),
 (aa "_law_shape",1887,(.ref 1138)),
 (aa "_law_told",1897,(.ref 1145)),
 (aa "_law_rel",1906,(.ref 1152)),
 (aa "law",1912,(.ref 1157))]
noncomputable def fI(P:Params)(nm:Value)(k:Nat):Obj:={cls:=.type "dict",data:=.dict (AT P ((aa "__name__",165,nm)::EM.take (k-1))).toArray k}
noncomputable def Vy:List (Int×Nat):=[(1,20),(11,27),(16,48),(21,68),(26,88),(85,155),(111,190),(129,212),(131,220),(133,228),(135,235),(137,240),(142,252),(144,259),(146,266),(150,273),(157,280),(166,287),(171,294),(175,301),(179,308),(184,313),(201,320),(203,327),(205,334),(207,341),(210,348),(236,361),(252,410),(287,473),(290,480),(295,487),(301,494),(305,501),(310,508),(328,515),(350,522),(356,529),(358,536),(361,543),(367,550),(372,557),(388,564),(405,571),(412,578),(414,585),(428,592),(435,599),(444,606),(454,613),(462,620),(476,627),(482,634),(495,641),(504,648),(512,656),(527,663),(533,670),(588,803),(604,843),(609,850),(617,857),(619,862),(631,867),(635,874),(643,879),(648,884),(656,892),(658,899),(666,906),(673,913),(685,920),(695,927),(707,934),(709,941),(711,948),(722,953),(731,960),(737,967),(748,974),(756,981),(762,988),(767,995),(785,1002),(793,1009),(805,1016),(811,1023),(820,1049),(824,1057),(829,1064),(839,1069),(845,1076),(850,1081),(853,1086),(862,1091),(867,1098),(869,1103),(871,1108),(883,1113),(894,1120),(908,1127),(916,1132),(919,1137),(922,1144),(938,1151),(942,1156)]
noncomputable def gx(k:Nat):Obj:={cls:=.none,data:=.fields ((Vy.take k).flatMap λp=>[.int p.1 0,.int 0 0,.ref p.2]).toArray}
noncomputable def ev(P:Params):Obj:={cls:=.none,data:=.dict (AT P [(aa "type.__subclasses__.Exception.0",235,(.int (39) 0)),(aa "type.__subclasses__.Exception.n",236,(.int (1) 0))]).toArray 2}
noncomputable def EN(P:Params):Obj:=
 {cls:=.type "dict",data:=.dict (AT P [
 (aa "__module__",776,(.str (aa "kindkeep.relbase") 730)),
 (aa "__firstlineno__",780,(.int (236) 779)),
 (aa "holds",790,(.ref 369)),
 (aa "loose",800,(.ref 376)),
 (aa "sig",810,(.ref 383)),
 (aa "blank",819,(.ref 390)),
 (aa "tells",829,(.ref 397)),
 (aa "__static_attributes__",830,(.ref 398)),
 (aa "__dict__",832,(.ref 401)),
 (aa "__weakref__",834,(.ref 402)),
 (aa "__doc__",835,.none)]).toArray 4}
noncomputable def EO:Obj:={cls:=.type "type",data:=.cls {name:=aa "RelRule",bases:=[.type "object"],mro:=[.ref 400,.type "object"],ns:=399,qualname:=aa "RelRule"},slots:= #[none,none,(some<|.str (aa "RelRule") 769),(some<|.str (aa "RelRule") 777),(some<|.builtin "object.__new__"),(some<|.bool true)]}
noncomputable def KU:List (Nat×List I):=[(96,[]),(103,[]),(117,[])]
noncomputable def KV:List fq:=(lo.drop 0).take 3
noncomputable def KW:List (Nat×I):=[]
noncomputable def KX:List (List Nat×Nat×Nat):=[([120,119],0,120)]
noncomputable def KY:List (Nat×List I):=[(163,[]),(170,[]),(177,[]),(198,[])]
noncomputable def KZ:List fq:=(lo.drop 3).take 4
noncomputable def K0:List (Nat×I):=[(147,.ak [.ak [.int<|1,.str<|aa "any"],.ak [.int<|1,.str<|aa "unknown"],.ak [.int<|1,.str<|aa "never"],.ak [.int<|1,.str<|aa "void"],.ak [.int<|1,.str<|aa "undefined"],.ak [.int<|1,.str<|aa "null"],.ak [.int<|1,.str<|aa "string"],.ak [.int<|1,.str<|aa "number"],.ak [.int<|2,.int<|0,.int<|0],.ak [.int<|2,.int<|1,.int<|0],.ak [.int<|1,.str<|aa "object"],.ak [.int<|8,.ak [],.ak [],.ak [],.ak [],.ak [],.int<|0],.ak [.int<|6,.ak [.int<|8,.int<|9]],.ak [.int<|1,.str<|aa "error"],.ak [.int<|2,.int<|0,.int<|1],.ak [.int<|2,.int<|1,.int<|1]]),
 (148,.ak [.int<|2,.int<|3,.int<|4,.int<|5]),
 (149,.ak [.int (2),.int (3),.int (4),.int (5),.int (8)])]
noncomputable def K1:List (List Nat×Nat×Nat):=[([180,179],1,180),([201,200],2,201)]
noncomputable def K2:List (Nat×List I):=[(213,[.int<|0]),(221,[.int<|0]),(229,[.int<|0]),(236,[]),(241,[]),(253,[.ak [],.ak [],.ak [],.ak [],.int<|0]),(260,[]),(267,[]),(274,[]),(281,[]),(288,[]),(295,[]),(302,[]),(309,[]),(314,[]),(321,[]),(328,[]),(335,[]),(342,[]),(349,[])]
noncomputable def K3:List fq:=(lo.drop 7).take 20
noncomputable def K4:List (Nat×I):=[(351,.ak [.int<|11,.int<|12]),
 (350,.ak [.int<|1,.int<|2,.int<|3,.int<|4,.int<|5]),
 (353,.ak [.int<|10,.int<|14,.int<|15,.int<|16,.int<|17,.int<|18,.int<|19]),
 (355,.ak [.int<|6,.int<|7,.int<|10,.int<|14,.int<|15,.int<|16,.int<|17,.int<|18,.int<|19]),
 (352,.ak [.int (8),.int (9)])]
noncomputable def K5:List (List Nat×Nat×Nat):=[]
noncomputable def K6:List (Nat×List I):=[(369,[]),(383,[]),(418,[]),(425,[]),(432,[]),(439,[]),(446,[]),(453,[])]
noncomputable def K7:List fq:=(lo.drop 27).take 8
noncomputable def K8:List (Nat×I):=[]
noncomputable def K9:List (List Nat×Nat×Nat):=[([463,462],3,463)]
noncomputable def La:List (Nat×List I):=[(474,[]),(481,[]),(488,[]),(495,[]),(502,[]),(509,[]),(516,[]),(523,[]),(530,[]),(537,[]),(544,[]),(551,[]),(558,[]),(565,[]),(572,[]),(579,[]),(586,[]),(593,[]),(600,[]),(607,[]),(614,[]),(621,[]),(628,[]),(635,[]),(642,[]),(649,[])]
noncomputable def Lb:List fq:=(lo.drop 35).take 26
noncomputable def Lc:List (Nat×I):=[]
noncomputable def Ld:List (List Nat×Nat×Nat):=[]
noncomputable def Le:List (Nat×List I):=[(657,[]),(664,[]),(678,[]),(685,[]),(720,[]),(783,[]),(811,[]),(818,[])]
noncomputable def Lf:List fq:=(lo.drop 61).take 8
noncomputable def Lg:List (Nat×I):=[(650,.ak [.int<|1,.int<|2,.int<|3,.int<|4,.int<|5])]
noncomputable def Lh:List (List Nat×Nat×Nat):=[([835,834,793,792],4,835)]
noncomputable def Li:List (Nat×List I):=[(844,[]),(851,[]),(858,[]),(863,[]),(868,[]),(875,[]),(880,[]),(885,[]),(893,[]),(900,[]),(907,[]),(914,[]),(921,[]),(928,[]),(935,[]),(942,[]),(949,[])]
noncomputable def Lj:List fq:=(lo.drop 69).take 17
noncomputable def Lk:List (Nat×I):=[(886,.ak [.str<|aa "pop",.str<|aa "push",.str<|aa "reverse",.str<|aa "shift"])]
noncomputable def Ll:List (List Nat×Nat×Nat):=[]
noncomputable def EP:List (Nat×List I):=[(954,[]),(961,[]),(968,[]),(975,[]),(982,[]),(989,[]),(996,[]),(1003,[]),(1010,[]),(1017,[]),(1031,[]),(1050,[])]
noncomputable def EQ:List fq:=(lo.drop 86).take 12
noncomputable def ER:List (Nat×I):=[]
noncomputable def ES:List (List Nat×Nat×Nat):=[([1041,1040,400,399],5,1041)]
noncomputable def Lm:List (Nat×List I):=[(1058,[]),(1065,[]),(1070,[]),(1077,[]),(1082,[]),(1087,[]),(1092,[]),(1099,[]),(1104,[]),(1109,[]),(1114,[]),(1121,[]),(1128,[]),(1133,[]),(1138,[]),(1145,[]),(1152,[]),(1157,[])]
noncomputable def Ln:List fq:=(lo.drop 98).take 18
noncomputable def Lo:List (Nat×I):=[(1051,.ak [.int<|1,.int<|2,.int<|4,.int<|8,.int<|3,.int<|32,.int<|36,.int<|192,.int<|0,.int<|256,.int<|512,.int<|513,.int<|1024,.int<|2048,.int<|4096,.int<|64])]
noncomputable def Lp:List (List Nat×Nat×Nat):=[]
noncomputable def yb:List (Nat×List I):=KU++KY++K2++K6++La++Le++Li++EP++Lm
noncomputable def AU:List fq:=KV++KZ++K3++K7++Lb++Lf++Lj++EQ++Ln
noncomputable def Lq:List (Nat×I):=KW++K0++K4++K8++Lc++Lg++Lk++ER++Lo
noncomputable def ET:List (List Nat×Nat×Nat):=KX++K1++K5++K9++Ld++Lh++Ll++ES++Lp
noncomputable def Lr:Obj:={cls:=.type "code",data:=.fields #[.str (aa "<module>") 182,.str (aa "<module>") 183,.str (aa "/claim/cut.py") 184,.int 1 0,.int 0 0,.int 0 0,.int 0 0,.int 0 0,.ref 11,.bool false,.int 181 0,.ref 12,.none,.none,.none,.none,.int 185 0,.int 1 0,.str (aa "/claim/cut.py") 186]}
noncomputable def gW(w:World)(aF cS k5:Obj)(f:Nat->Obj)(i:Nat):Obj:=cond (Nat.beq i 3) cS<|cond (Nat.beq i 12) k5<|cond (Nat.beq i 2) aF<|cond (Nat.beq i 0) (boot_o_0 w.params)<|cond (Nat.beq i 4) (boot_o_4 w.params)<|cond (Nat.beq i 13) Lr<|cond (Nat.beq i 1) (boot_o_1 w.params)<|f i
noncomputable def AV(w:World)(f:Nat->Obj)(i:Nat):Obj:=cond (Nat.beq i 399) (EN w.params)<|cond (Nat.beq i 400) EO<|f i
noncomputable def lC(w:World)(aF cS k5:Obj):List Obj:=[boot_o_0 w.params,boot_o_1 w.params,boot_o_4 w.params,Lr,aF,cS,k5]
noncomputable def pW(o:Option Obj):Option Obj:=match o with
 |some ⟨.type t,d,me,eI⟩=>cond (t=="list") none<|some ⟨.type t,d,me,eI⟩
 |x=>x
noncomputable def ug(h:Heap):g8:=λa=>pW<|h.get? a
noncomputable def sk(n:Nat)(kv:Nat->Bool)(F:Nat->Obj):g8:=λa=>cond (Nat.ble 15 a&&Nat.blt a n&& !kv a) (pW<|alive<|F a) none
noncomputable def sl(T:BT)(a:Nat):Obj:=(T.get a).getD default
noncomputable def iu(n:Nat)(skip:Nat->Bool):List Nat:=(List.range n).filter λa=>Nat.ble 15 a&& !skip a
noncomputable def jm:Nat->Bool:=λB=>false
noncomputable def j9:Nat->Bool:=λa=>Nat.beq a 400
noncomputable def k6(f:Nat):Nat:=((yb[f]?).map (·.1)).getD 0
noncomputable def q1(K:Frag)(k aI:Nat):Bool:=plainGet K aI ""&&hasDictIn K aI&&findIn K (.ref aI) "__setattr__"==some (some<|.builtin "object.__setattr__")&&plainOver K aI&&makesIn K aI&&keepIn K (.ref aI)&&
  (match om k with
  |some f=>findIn K (.ref aI) "__init__"==some (some<|.ref<|k6 f)
  |none=>findIn K (.ref aI) "__init__"==some (some (.builtin "object.__init__")))&&
  fr.zipIdx.all λp=>match dD k p.2 with
  |some f=>findIn K (.ref aI) p.1==some (some<|.ref<|k6 f)
  |none=>findIn K (.ref aI) p.1==some none
noncomputable def Vz(g:g8)(as:List Nat)(k aI:Nat):Bool:=q1 (mf g as) k aI
noncomputable def oR(n:Nat)(kv:Nat->Bool)(as xs:List Nat)(e6:List (Nat×List I))(en:g8->Bool)(r:Flow×SharedT×Code×Pos):=(r.1,r.2.2,r.2.1.n,r.2.1.life,r.2.1.gens,r.2.1.drawn,r.2.1.toks,r.2.1.os,[0,1,4,13,2,3,12].map<|sl r.2.1.tree,as.map<|sl r.2.1.tree,xs.map<|sl r.2.1.tree,e6.map<|λp=>pV G (sk n kv<|sl r.2.1.tree) p.1 p.2,en<|sk n kv<|sl r.2.1.tree)
noncomputable def oS(ts:List (Nat×I))(cs:List (List Nat×Nat×Nat))(g:g8):Bool:=ts.all (λp=>ue g 6 (.ref p.1) p.2)&&cs.all λp=>Vz g p.1 p.2.1 p.2.2
def Ls{p:Nat}(h:i+1<p*2)(q:i%2=1):i/2+1<p/\2*(i/2)+1=i:=
 have e:2*(i/2)+1=i:=(ai (2*(i/2)+·) q).symm.trans<|Nat.div_add_mod i 2
 ⟨Nat.lt_of_mul_lt_mul_right (a:=2) (c1 (cP ((Nat.mul_comm _ 2).trans (ai (·+1) e))) h),e⟩
def Lu{p:Nat}(h:i+1<p*2)(h0:i≠0)(q:¬i%2=1):i/2-1+1<p/\2*(i/2-1)+2=i:=by
 have e:2*(i/2)=i:=(ai (2*(i/2)+·)<|(Nat.mod_two_eq_zero_or_one i).resolve_right q).symm.trans<|Nat.div_add_mod i 2;cases m:i/2 with
 |zero=>exact absurd (bu e (ai (2*·) m)) h0
 |succ k=>rw[m]at e;exact⟨Nat.lt_of_mul_lt_mul_right (a:=2)<|c1 (cP<|(Nat.mul_comm _ 2).trans e)<|Nat.lt_of_succ_lt h,e⟩
def EU(d:Nat):∀{g:Nat->Obj} {i:Nat},i+1<2^d->(uf d g).get i=some (g i):=by
 induction d with
 |zero=>exactλh=>absurd (Nat.lt_of_succ_lt_succ h)<|ua _
 |succ d ay=>
  intro g i h;refine V (BT.get_node ..) ?_;by_cases h0:i=0
  ·exact V (bg h0)<|ai (λk=>some<|g k) h0.symm
  ·refine V (bI h0) ?_;by_cases Y:i%2=1
   ·exact V (bg Y)<|(ay (g:=λi=>g<|2*i+1) (Ls h Y).1).trans<|ai (λk=>some<|g k) (Ls h Y).2
   ·exact V (bI Y)<|(ay (g:=λi=>g<|2*i+2) (Lu h h0 Y).1).trans<|ai (λk=>some<|g k) (Lu h h0 Y).2
def VA{T a7:BT}{n:Nat}{life:Life}(h:∀i,i<n->(T.get i).getD default=(a7.get i).getD default):absHeap T n life=absHeap a7 n life:=ai (λl:List Obj=>Heap.mk l.toArray life)<|tM λi ah=>h i<|pK.mp ah
def pX{c:Nat}{e x y:Obj}(h:i=c->e=y)(k:x=y):cond (Nat.beq i c) e x=y:=by
 cases q:Nat.beq i c with
 |true=>exact h<|Nat.eq_of_beq_eq_true q
 |false=>exact k
def Lv{F:Nat->Obj}(h:[0,1,4,13,2,3,12].map F=lC w aF cS k5)(i:Nat):gW w aF cS k5 F i=F i:=h2 h λh0 h=>h2 h λY h=>h2 h λcp h=>h2 h λka h=>h2 h λae h=>h2 h λba h=>h2 h λEV B=>pX (λq=>q▸ba.symm)<|pX (λq=>q▸EV.symm)<|pX (λq=>q▸ae.symm)<|pX (λq=>q▸h0.symm)<|pX (λq=>q▸cp.symm)<|pX (λq=>q▸ka.symm)<|pX (λq=>q▸Y.symm) rfl
def uh{c:Nat}{e x y:Obj}(h:15<=i)(ag:c<15)(k:x=y):cond (Nat.beq i c) e x=y:=pX (λq=>absurd (c7 ag h)<|q▸Nat.lt_irrefl i) k
def pY{f:Nat->Obj}(h:15<=i):gW w aF cS k5 f i=f i:=uh h (by decide) (uh h (by decide)<|uh h (by decide)<|uh h (by decide)<|uh h (by decide)<|uh h (by decide)<|uh h (by decide) rfl)
def VB{n:Nat}{a:Nat}(EW:15<=a)(hn:a<n)(aJ:skip a=false):a∈iu n skip:=r8.mpr ⟨pK.mpr hn,dJ (Nat.ble_eq_true_of_le EW)<|V aJ rfl⟩
noncomputable abbrev yc(g:Nat->Obj)(n tk:Nat)(os:OsState):Shared:=⟨absHeap (uf 11 g) n {},#[],{},tk,os⟩
noncomputable abbrev pZ:Option Value:=some<|.ref 6
noncomputable abbrev sm:List Frame:=[topFrame ⟨0,0,0,0⟩]
def VC{n:Nat}{r:SharedT}(aD:r.n=n)(DC:r.life={})(Lw:r.gens= #[])(dM:r.drawn={})(j2:r.toks=tk)(v3:r.os=os)(dp:[0,1,4,13,2,3,12].map (sl r.tree)=lC w aF cS k5)(hn:n<2047):
  r.abs=yc (gW w aF cS k5<|sl r.tree) n tk os:=by
 obtain⟨T,m,life,gens,drawn,toks,lD⟩:=r;dsimp only at aD DC Lw dM j2 v3;subst aD DC Lw dM j2 v3;exact ai (λh=>Shared.mk h #[] {} toks lD)<|VA λi ah=>(Lv dp i).symm.trans<|V (EU 11<|tX<|ec ah hn) rfl
def VD{α β kR yd:Type}{a EX:α}{b b':β}{c:kR}{d:yd}{q:kR×yd}(h:a=EX)(k:b=b')(l:q=(c,d)):some (a,b,q)=some (EX,b',c,d):=by subst h k l;rfl
def q2{g Lx:Nat->Obj}{n a b fuel EY:Nat}{pos:Pos}{xs:List Nat}{ys:List Obj}{bs:List (Option fq)}{en:g8->Bool}(h:(mP w fuel (mg g n tk os) a b pos).map (oR eH kv (iu n skip) xs e6 en)=some (.next,(ig,pos'),eH,{},#[],{},EY,os,lC w aF cS k5,(iu n skip).map g,ys,bs,true))(hn:eH<2047)(bB:∀x,15<=x->g x=Lx x)(k:∀F:Nat->Obj,segRun treeTable e5 w 11 pZ 1 fuel (yc g n tk os) (piecesOf (eI a b) sj ig pos sm)=some (.next,yc (gW w aF cS k5 F) eH EY os,ig,pos')->
   (∀x,15<=x->x<n->skip x=false->F x=Lx x)->xs.map F=ys->e6.map (λp=>pV G (sk eH kv F) p.1 p.2)=bs->en (sk eH kv F)=true->
   (∀{α:Type} (look:Shared->α) (v:α),(mP w fuel (mg g n tk os) a b pos).map (λr=>look r.2.1.abs)=some v->look (yc (gW w aF cS k5 F) eH EY os)=v)->R):R:=by
 refine dt h λr aH aA=>jx aA λaD aA=>jx aA λaF aA=>jx aA λcS aA=>jx aA λdM aA=>jx aA λj2 aA=>jx aA λv3 aA=>jx aA λVE aA=>jx aA λVF aA=>jx aA λdp aA=>jx aA λaP aA=>jx aA λac aA=>jx aA λhf ag=> ?_;have aJ:=VC cS dM j2 v3 VE VF dp hn;have run:segRunT treeTable e5 w 11 pZ 1 fuel (mg g n tk os) (piecesOf (eI a b) sj ig pos sm)=some (r.1,r.2.1,r.2.2.1,r.2.2.2):=V PySem.W.Fast.te10110043849684766642<|V PySem.W.Fast.te14364793385576792824 aH;exact k (sl r.2.1.tree) ((segRun_of run).trans<|VD aD aJ aF) (λx Y ae ba=>(List.map_inj_left.mp aP x<|VB Y ae ba).trans<|bB x Y) ac hf ag λlook v an=>eF aJ<|dt an λr' mQ q=>(br<|bu aH mQ)▸q
def q3{r:Shared}{a b fuel N:Nat}{pos:Pos}(h:segRun treeTable e5 w 11 pZ 1 fuel s (piecesOf (eI a b) sj ig pos sm)=some (.next,aY,ig,pos'))(hab:a<=b)(k:topRun treeTable e5 w 11 pZ N aY (restOf (stmts.drop b) sj ig pos' sm)=some r):topRun treeTable e5 w 11 pZ (fuel+N) s (restOf (stmts.drop a) sj ig pos sm)=some r:=V (show stmts.drop a=eI a b++stmts.drop b from(List.take_append_drop (b-a)<|stmts.drop a).symm.trans (ai (eI a b++·) (List.drop_drop.trans (ai (stmts.drop ·)<|Nat.add_sub_cancel' hab))))<|piece_app h k
def VG(w:World)(os:OsState)(f:Nat->Obj):(mP w 1142 (mg (gW w (boot_o_2 w.params) (fI w.params (.str (aa "__main__") 164) 9) (gx 0) f) 15 187 os) 0 12 ⟨0,0,0,0⟩).map (oR 125 j9 (iu 15 jm) [] KU<|oS KW KX)=
  some (.next,(ig,⟨26,0,38,28⟩),125,{},#[],{},346,os,lC w (ev w.params) (fI w.params (.str (aa "kindkeep.diags") 194) 20)<|gx 5,(iu 15 jm).map<|gW w (boot_o_2 w.params) (fI w.params (.str (aa "__main__") 164) 9) (gx 0) f,[],KV.map some,true):=by kernel_rfl
def VH(w:World)(os:OsState)(f:Nat->Obj):(mP w 1071 (mg (gW w (ev w.params) (fI w.params (.str (aa "kindkeep.diags") 194) 20) (gx 5) f) 125 346 os) 12 60 ⟨26,0,38,28⟩).map (oR 206 j9 (iu 125 jm) [] KY<|oS K0 K1)=
  some (.next,(ig,⟨111,0,128,20⟩),206,{},#[],{},556,os,lC w (ev w.params) (fI w.params (.str (aa "kindkeep.types") 346) 67)<|gx 7,(iu 125 jm).map<|gW w (ev w.params) (fI w.params (.str (aa "kindkeep.diags") 194) 20) (gx 5) f,[],KZ.map some,true):=by kernel_rfl
def VI(w:World)(os:OsState)(f:Nat->Obj):(mP w 882 (mg (gW w (ev w.params) (fI w.params (.str (aa "kindkeep.types") 346) 67) (gx 7) f) 206 556 os) 60 102 ⟨111,0,128,20⟩).map (oR 356 j9 (iu 206 jm) [] K2<|oS K4 K5)=
  some (.next,(ig,⟨235,0,235,8⟩),356,{},#[],{},769,os,lC w (ev w.params) (fI w.params (.str (aa "kindkeep.relbase") 730) 108)<|gx 27,(iu 206 jm).map<|gW w (ev w.params) (fI w.params (.str (aa "kindkeep.types") 346) 67) (gx 7) f,[],K3.map some,true):=by kernel_rfl
def VJ(w:World)(os:OsState)(f:Nat->Obj):(mP w 792 (mg (gW w (ev w.params) (fI w.params (.str (aa "kindkeep.relbase") 730) 108) (gx 27) f) 356 769 os) 102 104 ⟨235,0,235,8⟩).map (oR 468 j9 (iu 356 jm) [399,400] K6<|oS K8 K9)=
  some (.next,(ig,⟨252,0,286,16⟩),468,{},#[],{},930,os,lC w (ev w.params) (fI w.params (.str (aa "kindkeep.relbase") 730) 110)<|gx 29,(iu 356 jm).map<|gW w (ev w.params) (fI w.params (.str (aa "kindkeep.relbase") 730) 108) (gx 27) f,[EN w.params,EO],K7.map some,true):=by kernel_rfl
def VK(w:World)(os:OsState)(f:Nat->Obj):(mP w 833 (mg (gW w (ev w.params) (fI w.params (.str (aa "kindkeep.relbase") 730) 110) (gx 29) f) 468 930 os) 104 130 ⟨252,0,286,16⟩).map (oR 650 j9 (iu 468 jm) [] La<|oS Lc Ld)=
  some (.next,(ig,⟨504,0,508,15⟩),650,{},#[],{},1186,os,lC w (ev w.params) (fI w.params (.str (aa "kindkeep.relbase") 730) 136)<|gx 55,(iu 468 jm).map<|gW w (ev w.params) (fI w.params (.str (aa "kindkeep.relbase") 730) 110) (gx 29) f,[],Lb.map some,true):=by kernel_rfl
def VL(w:World)(os:OsState)(f:Nat->Obj):(mP w 1226 (mg (gW w (ev w.params) (fI w.params (.str (aa "kindkeep.relbase") 730) 136) (gx 55) f) 650 1186 os) 130 140 ⟨504,0,508,15⟩).map (oR 838 j9 (iu 650 jm) [] Le<|oS Lg Lh)=
  some (.next,(ig,⟨588,0,603,17⟩),838,{},#[],{},1440,os,lC w (ev w.params) (fI w.params (.str (aa "kindkeep.hosts") 1210) 144)<|gx 59,(iu 650 jm).map<|gW w (ev w.params) (fI w.params (.str (aa "kindkeep.relbase") 730) 136) (gx 55) f,[],Lf.map some,true):=by kernel_rfl
def VM(w:World)(os:OsState)(f:Nat->Obj):(mP w 571 (mg (gW w (ev w.params) (fI w.params (.str (aa "kindkeep.hosts") 1210) 144) (gx 59) f) 838 1440 os) 140 161 ⟨588,0,603,17⟩).map (oR 950 j9 (iu 838 jm) [] Li<|oS Lk Ll)=
  some (.next,(ig,⟨711,0,721,39⟩),950,{},#[],{},1610,os,lC w (ev w.params) (fI w.params (.str (aa "kindkeep.relshape") 1504) 163)<|gx 76,(iu 838 jm).map<|gW w (ev w.params) (fI w.params (.str (aa "kindkeep.hosts") 1210) 144) (gx 59) f,[],Lj.map some,true):=by kernel_rfl
def VN(w:World)(os:OsState)(f:Nat->Obj):(mP w 637 (mg (gW w (ev w.params) (fI w.params (.str (aa "kindkeep.relshape") 1504) 163) (gx 76)<|AV w f) 950 1610 os) 161 173 ⟨711,0,721,39⟩).map (oR 1051 jm (iu 950 j9) [] EP<|oS ER ES)=
  some (.next,(ig,⟨820,0,821,49⟩),1051,{},#[],{},1758,os,lC w (ev w.params) (fI w.params (.str (aa "kindkeep.relshape") 1504) 175)<|gx 88,(iu 950 j9).map<|gW w (ev w.params) (fI w.params (.str (aa "kindkeep.relshape") 1504) 163) (gx 76)<|AV w f,[],EQ.map some,true):=by kernel_rfl
def VO(w:World)(os:OsState)(f:Nat->Obj):(mP w 552 (mg (gW w (ev w.params) (fI w.params (.str (aa "kindkeep.relshape") 1504) 175) (gx 88) f) 1051 1758 os) 173 193 ⟨820,0,821,49⟩).map (oR 1158 jm (iu 1051 jm) [] Lm<|oS Lo Lp)=
  some (.next,(ig,⟨942,0,991,15⟩),1158,{},#[],{},1913,os,lC w (ev w.params) (fI w.params (.str (aa "law_pq0592_01") 1758) 194)<|gx 106,(iu 1051 jm).map<|gW w (ev w.params) (fI w.params (.str (aa "kindkeep.relshape") 1504) 175) (gx 88) f,[],Ln.map some,true):=by kernel_rfl
noncomputable def mh:Program:={e5 with main:={e5.main with body:=eI 192 193}}
noncomputable def sn:List Str:=(EM.map (·.1)).dropLast
noncomputable def EZ(h₀:Heap)(s:Shared):Bool:=staticsOk (importedModules e5.main.body) h₀ s.heap&&namesBound e5 s.heap&&gensDone s&&laidKept h₀ s.heap
def VP(w:World)(os:OsState)(f:Nat->Obj):(mP w 552 (mg (gW w (ev w.params) (fI w.params (.str (aa "kindkeep.relshape") 1504) 175) (gx 88) f) 1051 1758 os) 173 193 ⟨820,0,821,49⟩).map (λr=>(EZ (boot_heap w.params) r.2.1.abs,openSeen mh sn (importedModules e5.main.body) (λB=>true) true r.2.1.abs))=some (true,openGood mh sn):=by kernel_rfl
def VQ(w:World)(os:OsState):(topGo treeTable e5 w 11 pZ 12 ⟨boot_heap w.params,#[],boot_drawn,boot_toks,os⟩<|topStub e5).map (λr=>(r.2,r.1.heap.objs.size,r.1.heap.life,r.1.gens,r.1.drawn,r.1.toks,r.1.os,[0,1,4,13,2,3,12].map<|λa=>(r.1.heap.objs[a]?).getD default))=
  some (⟨denote treeTable ig,ig,⟨0,0,0,0⟩,sm⟩,15,{},#[],{},187,os,lC w (boot_o_2 w.params) (fI w.params (.str (aa "__main__") 164) 9)<|gx 0):=by kernel_rfl
def VR(w:World)(s:Shared):segRun treeTable e5 w 11 pZ 1 1 s (blockOf stmts sj ig ⟨0,0,0,0⟩ sm)=some (.next,s,ig,⟨0,0,0,0⟩):=by kernel_rfl
def VS(w:World)(s:Shared)(p:Pos):topRun treeTable e5 w 11 pZ 2 s ⟨doneF .next,ig,p,sm⟩=some s:=by
 obtain⟨h,g,d,t,o⟩:=s
 kernel_rfl
def VT:stmts.drop 193=[]:=by kernel_rfl
def VU{n:Nat}(hn:h.objs.size=n)(an:h.life={})(aj:n<2047)(dp:[0,1,4,13,2,3,12].map (λa=>(h.objs[a]?).getD default)=lC w aF cS k5):
  h=absHeap (uf 11<|gW w aF cS k5 λa=>(h.objs[a]?).getD default) n {}:=by
 obtain⟨objs,life⟩:=h;dsimp only at hn an dp;subst an;refine ai (Heap.mk · {})<|Array.ext_getElem? λi=>V (absHeap_at (uf 11<|gW w aF cS k5 λa=>(objs[a]?).getD default) n {} i) ?_;by_cases ah:i<n
 ·have Y:i<objs.size:=hn▸ah;exact V (bg ah)<|V (EU 11<|tX<|ec ah aj)<|V (show(some<|gW w aF cS k5 (λa=>(objs[a]?).getD default) i).getD default=_ from Lv dp i)<|V (Array.getElem?_eq_getElem Y) rfl
 ·exact V (bI ah)<|Array.getElem?_eq_none<|hn▸Nat.le_of_not_lt ah
def AW{g:Nat->Obj}{n:Nat}(hn:n<2047){a:Nat}(h:a<n):(yc g n tk os).heap.get? a=alive (g a):=abs_get h<|EU 11<|tX<|ec h hn
structure kx(w:World)(h:Heap):Prop where
 gl:h.get? 3=some (fI w.params (.str (aa "law_pq0592_01") 1758) 194)
 VV:h.get? 0=some (boot_o_0 w.params)
 Ly:h.get? 1=some (boot_o_1 w.params)
 px:yb.map (λp=>pV G (ug h) p.1 p.2)=AU.map some
 Lz:∀p∈Lq,ue (ug h) 6 (.ref p.1) p.2=true
 LA:∀p∈ET,q1 (mf (ug h) p.1) p.2.1 p.2.2=true
def E0{dR:Frag}(a9:Sub K dR){aI:Nat}(h:q1 K k aI):q1 dR k aI:=by
 refine dJ (dJ (dJ (dJ (dJ (dJ (dJ (Vi a9<|bP<|bP<|bP<|bP<|bP<|bP<|bP h)<|Vj a9<|cN<|bP<|bP<|bP<|bP<|bP<|bP h)<|pU (si a9)<|cN<|bP<|bP<|bP<|bP<|bP h)<|Vk a9<|cN<|bP<|bP<|bP<|bP h)<|Vm a9<|cN<|bP<|bP<|bP h)<|Vl a9<|cN<|bP<|bP h) ?_)<|nv.mpr λp ab=> ?_
 ·have h:=cN<|bP h;cases q:om k with
  |some f=>rw[q]at h;exact pU (si a9) h
  |none=>rw[q]at h;exact pU (si a9) h
 ·have h:=hh (cN h) p ab;cases q:dD k p.2 with
  |some f=>rw[q]at h;exact pU (si a9) h
  |none=>rw[q]at h;exact pU (si a9) h
def v5(g:g8)(e6:List (Nat×List I))(bs:List fq)(ts:List (Nat×I))(cs:List (List Nat×Nat×Nat)):Prop:=e6.map (λp=>pV G g p.1 p.2)=bs.map some/\(∀p∈ts,ue g 6 (.ref p.1) p.2=true)/\∀p∈cs,q1 (mf g p.1) p.2.1 p.2.2=true
def LB{α:Type}{P:α->Prop}{l m:List α}(h:∀x∈l,P x)(k:∀x∈m,P x):∀x∈l++m,P x:=λx ac=>(gc ac).elim (h x)<|k x
def v5.so{g:g8}{LC:List (Nat×List I)}{bs LD:List fq}{LF:List (Nat×I)}{LG:List (List Nat×Nat×Nat)}(h:v5 g e6 bs ts cs)(k:v5 g LC LD LF LG):v5 g (e6++LC) (bs++LD) (ts++LF) (cs++LG):=⟨iI.trans<|V h.1<|V k.1 iI.symm,LB h.2.1 k.2.1,LB h.2.2 k.2.2⟩
def E1{g:g8}(aB:qZ g eP):∀{bs:List fq},e6.map (λp=>pV G g p.1 p.2)=bs.map some->e6.map (λp=>pV G eP p.1 p.2)=bs.map some:=by
 induction e6 with
 |nil=>exact id
 |cons f e6 ay=>
  intro bs h;cases bs with
  |nil=>exact nomatch h
  |cons b bs=>exact h2 h λY ae=>ui.mpr ⟨Vw aB Y,ay ae⟩
def VW{F lA:Nat->Obj}{n:Nat}{g:g8}(h:∀a,15<=a->a<n->kv a=false->lA a=F a)(bB:∀a,15<=a->a<n->g a=pW (alive<|lA a)):qZ (sk n kv F) g:=λa o e=>by
 delta sk at e;cases ag:Nat.ble 15 a&&Nat.blt a n&& !kv a with
 |false=>rw[ag]at e;exact bj e
 |true=>rw[ag]at e;have Y:=p0<|bP<|bP ag;have ae:a<n:=p0<|cN<|bP ag;exact V (bB a Y ae)<|V (h a Y ae<|(oC _).mp<|cN ag) e
def q4{F lA:Nat->Obj}{n:Nat}{g:g8}{bs:List fq}(bB:∀a,15<=a->a<eH->g a=pW (alive<|lA a))(h:∀a,15<=a->a<n->kv a=false->lA a=F a)(f:e6.map (λp=>pV G (sk n kv F) p.1 p.2)=bs.map some)(c:oS ts cs (sk n kv F)=true)(le:n<=eH):v5 g e6 bs ts cs:=
 have aB:=VW (g:=g) h λa Y ae=>bB a Y<|c7 ae le
 ⟨E1 aB f,λp ab=>AS aB 6<|hh (bP c) p ab,λp ab=>E0 (EF aB λB h=>h)<|hh (cN c) p ab⟩
def uj{F g7 cC:Nat->Obj}{n:Nat}{LH q5:Nat->Bool}(f:∀x,15<=x->x<eH->LH x=false->cC x=g7 x)(k:∀x,15<=x->x<n->kv x=false->g7 x=F x)(le:n<=eH)(q:∀x,q5 x=false->LH x=false/\kv x=false):∀x,15<=x->x<n->q5 x=false->cC x=F x:=λx Y ae ba=>(f x Y (c7 ae le) (q x ba).1).trans<|k x Y ae (q x ba).2
def VX{F:Nat->Obj}(h:F 399=EN w.params)(k:F 400=EO):AV w F=F:=funext λi=>pX (λq=>q▸h.symm)<|pX (λq=>q▸k.symm) rfl
noncomputable def E2:Nat:=12+(1+(1142+(1071+(882+(792+(833+(1226+(571+(637+(552+2))))))))))
def VY(w:World)(os:OsState):∃gN:Shared,topRun treeTable e5 w 11 pZ E2 ⟨boot_heap w.params,#[],boot_drawn,boot_toks,os⟩ (topStub e5)=some gN/\EZ (boot_heap w.params) gN=true/\
  openSeen mh sn (importedModules e5.main.body) (λB=>true) true gN=openGood mh sn/\kx w gN.heap:=by
 refine dt (VQ w os) λs0 h0 aA=>jx aA λnH aA=>jx aA λeZ aA=>jx aA λhC aA=>jx aA λlE aA=>jx aA λsp aA=>jx aA λv7 aA=>jx aA λLI dp=> ?_;obtain⟨⟨ab,gens,drawn,toks,lD⟩,t0⟩:=s0;dsimp only at nH eZ hC lE sp v7 LI dp;subst nH lE sp v7 LI;generalize ir:(λ(a:Nat)=>(ab.objs[a]?).getD (default:Obj))=VZ at dp;have bM:=VU eZ hC (by decide)<|ir▸dp;rw[ir]at bM;subst bM;refine q2 (VG w lD VZ) (by decide) (λB=>pY) λg7 fM gi x0 f0 oT B=> ?_;refine q2 (VH w lD g7) (by decide) (λB=>pY) λcC bh dK v8 f1 a6 B=> ?_;refine q2 (VI w lD cC) (by decide) (λB=>pY) λlB bf fk v9 f2 bR B=> ?_;refine q2 (VJ w lD lB) (by decide) (λB=>pY) λAw eA oj uk hl d4 B=> ?_;refine q2 (VK w lD Aw) (by decide) (λB=>pY) λV0 dX qy acT f4 eR B=> ?_;refine q2 (VL w lD V0) (by decide) (λB=>pY) λV1 xV LJ acU ky gV B=> ?_;refine q2 (VM w lD V1) (by decide) (λB=>pY) λAX jF AY acV mR gM B=> ?_;have j6:∀x,x<468->15<=x->AX x=Aw x:=λx Y ae=>(AY x ae (c7 Y<|by decide) rfl).trans ((LJ x ae (c7 Y<|by decide) rfl).trans<|qy x ae Y rfl);have V2:AV w AX=AX:=h2 uk λr9 uk=>h2 uk λum B=>VX ((j6 399 (by decide)<|by decide).trans r9) ((j6 400 (by decide)<|by decide).trans um);refine q2 (eF V2 (P:=λf=>(mP w 637 (mg (gW w (ev w.params) (fI w.params (.str (aa "kindkeep.relshape") 1504) 163) (gx 76) f) 950 1610 lD) 161 173 ⟨711,0,721,39⟩).map (oR 1051 jm (iu 950 j9) [] EP<|oS ER ES)=
  some (.next,(ig,⟨820,0,821,49⟩),1051,{},#[],{},1758,lD,lC w (ev w.params) (fI w.params (.str (aa "kindkeep.relshape") 1504) 175) (gx 88),(iu 950 j9).map (gW w (ev w.params) (fI w.params (.str (aa "kindkeep.relshape") 1504) 163) (gx 76) f),[],EQ.map some,true)) (VN w lD AX)) (by decide) (λB=>pY) λLK lF V3 acW oU fN B=> ?_
 refine q2 (VO w lD LK) (by decide) (λB=>pY) λV4 wa LL acX f8 jl V5=> ?_;have LM:=uj (q5:=j9) LL V3 (by decide) λB h=>⟨rfl,h⟩;have LN:=uj (q5:=j9) LM AY (by decide) λB h=>⟨h,rfl⟩;have LO:=uj (q5:=j9) LN LJ (by decide) λB h=>⟨h,rfl⟩;have LP:=uj (q5:=j9) LO qy (by decide) λB h=>⟨h,rfl⟩;have LQ:=uj (q5:=j9) LP oj (by decide) λB h=>⟨h,rfl⟩;have LR:=uj (q5:=j9) LQ fk (by decide) λB h=>⟨h,rfl⟩;have V6:=uj (q5:=j9) LR dK (by decide) λB h=>⟨h,rfl⟩;have look:=V5 (λs=>(EZ (boot_heap w.params) s,openSeen mh sn (importedModules e5.main.body) (λB=>true) true s)) _<|VP w lD LK;refine⟨_,go_top h0<|piece_block (VR w _)<|q3 (a:=0) fM (by decide)<|q3 bh (by decide)<|q3 bf (by decide)<|q3 eA (by decide)<|q3 dX (by decide)<|q3 xV (by decide)<|q3 jF (by decide)<|q3 lF (by decide)<|q3 wa (by decide)<|V VT<|VS w _ _,(kQ look).1,(kQ look).2,?_⟩;have bB:=λa (Y:15<=a) (ae:a<1158)=>ai pW ((AW (g:=gW w (ev w.params) (fI w.params (.str (aa "law_pq0592_01") 1758) 194) (gx 106) V4) (n:=1158) (tk:=1913) (os:=lD) (by decide) ae).trans<|ai alive<|pY Y);have X:=(((((((v5.so (q4 bB V6 f0 oT<|by decide)<|q4 bB LR f1 a6<|by decide).so<|q4 bB LQ f2 bR<|by decide).so<|q4 bB LP hl d4<|by decide).so<|q4 bB LO f4 eR<|by decide).so<|q4 bB LN ky gV<|by decide).so<|q4 bB LM mR gM<|by decide).so<|q4 bB LL oU fN<|by decide).so (q4 (kv:=jm) bB (λB B B B=>rfl) f8 jl<|by decide);exact⟨AW (by decide)<|by decide,AW (by decide)<|by decide,AW (by decide)<|by decide,X.1,X.2.1,X.2.2⟩
def LS{α:Type}{t:List (List<|Str×α)}{a:α}(h:zF t x=some a):(x,a)∈t.flatten:=bW h λl an ac=>List.mem_flatten.mpr ⟨l,dL an,mem_of_lookup ac⟩
noncomputable def AZ:List Addr:=[120,180,201,463,835,1041]
noncomputable def wb:vu:=⟨AZ,fr⟩
noncomputable def A0:jy:=⟨AU,dD,om⟩
noncomputable def E3(P:Params):Array DictEntry:=(AT P ((aa "__name__",165,.str (aa "law_pq0592_01") 1758)::EM.take 193)).toArray
noncomputable def LU:nl->Option Value->Bool
 |.val v,some u=>q0 u v||Lq.any λt=>u==.ref t.1&&decide (t.2=v)
 |.fn f,some u=>u==.ref (k6 f)
 |.cls k,some u=>(AZ[k]?).any λaI=>u==.ref aI
 |.cw B,none=>true
 |.qx,B=>true
 |B,cq=>false
noncomputable def V7(p:Str×nl):Bool:=match p.2 with
 |.cw b=>bootBuiltins p.1==some (t1 b)
 |_=>true
noncomputable def LV(P:Params)(p:Str×nl):Bool:=(p.1 !=("__debug__":Str))&&(p.1 !=("super":Str))&&((p.1 !=("__name__":Str))&&V7 p)&&LU p.2 (nsFind (E3 P) p.1)
def V8(P:Params):(Dc.flatten.all<|LV P)=true:=by kernel_rfl
def V9(P:Params):(nsFind (E3 P) ("law":Str))=some (.ref 1157):=by kernel_rfl
def Wa:(H1.flatten.all λp=>fr.idxOf? p.1==some p.2)=true:=by kernel_rfl
def Wb:((List.range 6).all λk=>(ET[k]?).any λp=>p.2.1==k&&AZ[k]? ==some p.2.2)=true:=by kernel_rfl
def Wc:fr.length<=1000:=by decide
section
noncomputable def LW:List Nat:=ET.flatMap (·.1)++yb.map (·.1)
noncomputable def ye(au:Heap):Frag:=mf au.get? LW
def LX{α:Type}[BEq α]{l:List (α×Nat)}{x:α}{f n:Nat}(a:∀p∈l,p.2<n)(h:l.lookup x=some f):f<n:=by
 induction l with
 |nil=>exact bj h
 |cons p l ay=>
  have h:(match x==p.1 with
   |true=>some p.2
   |false=>l.lookup x)=some f:=h
  cases q:x==p.1 with
  |true=>rw[q]at h;exact br h▸a _ bp
  |false=>rw[q]at h;exact ay (λp ab=>a p<|bQ _ ab) h
def Wd{m f:Nat}(h:dD k m=some f):f<116:=LX (l:=H2) (by decide+kernel) h
def We{f:Nat}(h:om k=some f):f<116:=LX (l:=H3) (by decide+kernel) h
def sq:yb.length=116/\AU.length=116:=⟨rfl,rfl⟩
def p1(h au:Heap):Prop:=∀b o,h.get? b=some o->(o.cls≠.type "list"\/∀vs n,o.data≠.seq vs n)->au.get? b=some o
def E4{o:Option Obj}{x:Obj}(h:pW o=some x):o=some x/\x.cls≠.type "list":=by
 cases o with
 |none=>exact bj h
 |some o=>
  obtain⟨c,d,me,eI⟩:=o;cases c with
  |type t=>
   have h:∀b,(t=="list")=b->cond b none (some ⟨.type t,d,me,eI⟩)=some x:=λb e=>e▸h;cases ag:t=="list" with
   |true=>exact bj<|h _ ag
   |false=>exact br (h _ ag)▸⟨rfl,λq=>b8<|bu ag<|beq_iff_eq.mpr<|Value.type.inj q⟩
  |_=>exact br h▸⟨rfl,λq=>nomatch q⟩
section
variable{az:World}{au:Heap}{Wf:ExcName->Option Value}{f:Nat}
def E5(da:p1 h au):qZ (ug h) au.get?:=λa o e=>da _ _ (E4 e).1<|.inl (E4 e).2
def E6(da:p1 h au)(n:h.Ns a m):au.Ns a m:=
 let⟨o,ax,ep,aA,bC,r⟩:=n
 ⟨o,ax,ep,da _ _ aA (.inr λvs n q=>nomatch bC.symm.trans q),bC,r⟩
def LY(hf:f<116):k6 f=(yb[f]'(sq.1▸hf)).1:=by delta k6;exact V (ji<|sq.1▸hf) rfl
def LZ(cI:kx az h)(da:p1 h au)(hf:f<116):∃fn,AU[f]? =some fn/\x8 ⟨e5,w,wb,au⟩ G fn (k6 f)/\∃o,au.get? (k6 f)=some o/\o.cls=.type "function"/\∃fd,o.data=.func fd:=
 have e:=(bu nw<|ai (λl=>l[f]?)<|E1 (E5 da) cI.px).trans nw;have e:=(ai (Option.map _)<|ji<|sq.1▸hf).symm.trans<|e.trans<|ai (Option.map some)<|ji<|sq.2▸hf
 ⟨_,ji<|sq.2▸hf,V (LY hf)<|Vx (c:=⟨e5,w,wb,au⟩)<|br e⟩
def Wg(hf:f<116):k6 f∈LW:=V (LY hf)<|i1 _<|i2 ⟨_,List.getElem_mem<|sq.1▸hf,rfl⟩
def L0(cI:kx az h)(da:p1 h au)(hf:f<116):∃o,(ye au).lookup (k6 f)=some o/\o.cls=.type "function"/\∃fd,o.data=.func fd:=
 let⟨_,_,_,o,aA,ag⟩:=LZ (w:=az) cI da hf
 ⟨o,KH aA<|Wg hf,ag⟩
def L1(cI:kx az h)(da:p1 h au)(hf:f<116):isFn (ye au) (.ref<|k6 f)=true:=
 let⟨o,aA,ag,_⟩:=L0 cI da hf
 beq_iff_eq.mpr ((ai (Option.map λ(x:Obj)=>x.cls) aA).trans<|ai some ag)
def un(cI:kx az h)(da:p1 h au)(eX:AZ[k]? =some aI):q1 (ye au) k aI=true:=by refine(any_some<|hh Wb k<|pK.mpr (h6 eX).1).elim λp q=> ?_;have hm:=dL q.1;obtain rfl:=eq_of_beq<|bP q.2;obtain rfl:=br<|bu eX<|eq_of_beq<|cN q.2;exact E0 (EF (E5 da) λa aT=>jh _<|List.mem_flatMap.mpr ⟨p,hm,aT⟩)<|cI.LA p hm
def Wh(h:q1 K k aI):DE K aI:=have h:=bP<|bP<|bP<|bP h;⟨bP<|bP<|bP h,cN<|bP<|bP h,eq_of_beq<|cN<|bP h,cN h⟩
def L2(h:q1 K k aI):(match om k with
  |some f=>findIn K (.ref aI) "__init__"==some (some<|.ref<|k6 f)
  |none=>findIn K (.ref aI) "__init__"==some (some (.builtin "object.__init__")))=true:=cN (bP h)
def L3(h:q1 K k aI)(ac:fr.idxOf? x=some i):(match dD k i with
  |some f=>findIn K (.ref aI) x==some (some<|.ref<|k6 f)
  |none=>findIn K (.ref aI) x==some none)=true:=
 let⟨an,he,_⟩:=xC.mp ac
 hh (cN h) (x,i) (List.mk_mem_zipIdx_iff_getElem?.mpr<|(ji an).trans<|ai some<|eq_of_beq he)
def L4(cI:kx az h)(bB:h.Ns mainGlobals ei)(x:Str):ei x=nsFind (E3 az.params) x:=by obtain⟨o,ax,ep,aA,bC,B,hf⟩:=bB;obtain rfl:=br<|bu cI.gl aA;exact(hf x).symm.trans (ai (nsFind · x) (Data.dict.inj bC).1.symm)
def yf(cI:kx az h)(bB:h.Ns mainGlobals ei){g:nl}(ac:zF Dc x=some g):LV az.params (x,g)=true/\LU g (ei x)=true:=
 have q:=hh (V8 az.params) _<|LS ac
 ⟨q,V (L4 cI bB x)<|cN q⟩
def Wi(cI:kx az h)(da:p1 h au)(T:Top mh loose Wf ei e4 h):fY ⟨e5,w,wb,au⟩ A0 G (ye au) k6 ei e4 where
 cls:=⟨Vn _,λk aI eX=>Wh<|un cI da eX,λk aI x i eX ac hm=>eq_of_beq ((show dD k i=none from hm)▸L3 (un cI da eX) ac:)⟩
 fr:=λx k ac=>eq_of_beq<|hh Wa _<|LS ac
 DK:=Wc
 sys:=⟨_,da _ _ cI.Ly<|.inl λq=>absurd (Value.type.inj q)<|by decide⟩
 lim:=let⟨Wj,a,b⟩:=T.nolimit;⟨Wj,E6 da a,b⟩
 g:=E6 da T.g
 b:=E6 da T.b
 Jv:=λx v ac=>by
  have ae:=(yf cI T.g ac).2;cases hm:ei x with
  |none=>exact b8 (hm▸ae:)
  |some u=>refine⟨u,rfl,((qR _ _).mp (hm▸ae:)).elim (λq=>EK 0 q) λq=>(p2.mp q).elim λt q=> ?_⟩;obtain rfl:=eq_of_beq<|bP q.2;exact dw (cN q.2)▸EK 6 (AS (E5 da) 6<|cI.Lz t q.1)
 Jw:=λx f ac=>by
  have ae:=(yf cI T.g ac).2;cases hm:ei x with
  |none=>exact b8 (hm▸ae:)
  |some u=>exact ai some<|eq_of_beq (hm▸ae:)
 Jx:=λx k ac=>by
  have ae:=(yf cI T.g ac).2;cases hm:ei x with
  |none=>exact b8 (hm▸ae:)
  |some u=>exact(any_some (hm▸ae:)).elim λaI q=>⟨aI,q.1,ai some<|eq_of_beq q.2⟩
 DL:=λx b ac=>by
  have ae:=yf cI T.g ac;cases hm:ei x with
  |some u=>exact b8 (hm▸ae.2:)
  |none=>exact⟨rfl,(T.builtins x<|bne_iff_ne.mp<|bP<|cN<|bP ae.1).trans<|eq_of_beq<|cN<|cN<|bP ae.1⟩
 Jy:=λx g ac=>have ae:=bP<|bP (yf cI T.g ac).1;⟨(oC _).mp<|bP ae,(oC _).mp<|cN ae⟩
 DM:=λf fn hf=>by
  obtain⟨⟨c,d,me,eI⟩,aA,B,fd,bC⟩:=L0 cI da<|sq.2▸(h6 hf).1;dsimp only at bC;subst bC;unfold keepIn;simp only[aA]
 Jz:=λk aI eX=>cN<|bP<|bP<|un cI da eX
 JA:=λk m f x aI hm ac eX=>⟨eq_of_beq ((show dD k m=some f from hm)▸L3 (un cI da eX) ac:),L1 cI da<|Wd hm⟩
 JB:=by exact rfl
 JC:=by exact rfl
 JD:=by exact rfl
 DN:=by exact rfl
def Wk(cI:kx az h)(da:p1 h au):AP ⟨e5,w,wb,au⟩ A0 (ye au) k6 where
 made:=λk aI eX=>cN<|bP<|bP<|bP<|un cI da eX
 init:=λk f aI hf eX=>⟨eq_of_beq ((show om k=some f from hf)▸L2 (un cI da eX):),L1 cI da<|We hf⟩
 Kx:=λk aI hf eX=>eq_of_beq ((show om k=none from hf)▸L2 (un cI da eX):)
def Wl(cI:kx az h)(da:p1 h au)(f:Nat)(fn:fq)(hf:A0.px[f]? =some fn):x8 ⟨e5,w,wb,au⟩ G fn (k6 f):=
 let⟨acY,Y,ae,_⟩:=LZ (w:=w) cI da (f:=f)<|sq.2▸(h6 hf).1
 br (bu Y hf)▸ae
end
end
noncomputable abbrev cH:=PySem.Challenge.rw_pq0592_01
def Wm:(chainsOk mh&&opensWell cH.row.prog&&(frees cH.row.toRowW&&cH.row.within.isEmpty))=true:=by kernel_rfl
def Wn:cH.row.toRowW.promised:=⟨[.list []],by kernel_rfl,by kernel_rfl⟩
def Wo:cH.row.prog.bare:=⟨by kernel_rfl,by kernel_rfl,by kernel_rfl,by kernel_rfl,by kernel_rfl,by kernel_rfl⟩
def E7:Prop:=∀zs:List Int,zs.length<=63->∃d S,d<=690/\a0 A0 d 115 [.L 0] [.list<|zs.map .int]=some (.bool true,S)
def kx.keeps(cI:kx w h)(k:∀b o,h.get? b=some o->aO.get? b=some o):kx w aO:=by
 have aB:qZ (ug h) (ug aO):=λa o e=>by
  obtain⟨Y,ae⟩:=E4 e;unfold ug at e⊢;refine V (k _ _ Y) ?_;rw[Y]at e;exact e
 exact⟨k _ _ cI.gl,k _ _ cI.VV,k _ _ cI.Ly,E1 aB cI.px,λp ab=>AS aB 6<|cI.Lz p ab,λp ab=>E0 (EF aB λB h=>h)<|cI.LA p ab⟩
def adk{k:Heap}{P:Params}(x:WellAll P h vs (ns.map .int)):b7 k M vs (ns.map .int):=by
 induction ns generalizing vs with
 |nil=>cases x;exact .nil
 |cons n ns ay=>cases x with
  |cons a b=>cases a;exact .cons (.int _ _)<|ay b
theorem Wq(X:E7){d:DefRec}{L5:List (Str×Expr)}(bC:d.name=("law":Str)):
  WalkO mh sn (λB B=>True) (λB h=>∃az,kx az h) cH.row.toRowW d L5 (λf vs=>PySem.call f vs):=by
 intro w acZ gN ei e4 L6 cI a o pm cd doc ac0 ac1 aT ac2 Ac vY L7 Wr args vals as Ws ac3 AN Wt ac4;obtain⟨az,cI⟩:=cI;obtain⟨aJ,ab⟩:=pre_splitW Ws;obtain⟨iO,r,rfl,Y,ae⟩:=hasAllW_cons aJ;obtain rfl:=hasAllW_nil ae;obtain⟨xs,rfl,ba⟩:=hasW_list Y;obtain⟨ns,rfl⟩:=items_int ba;have hlen:ns.length<=63:=Nat.le_of_not_lt λag=>by
  change WTm.holds cH.row.toRowW.records (.and (.not (.«lit» (.bool<|decide<|((63:Nat):Int)<((ns.map WData.int).length:Int))))<|.«lit» (.bool true)) ⟨[],none,[],[]⟩=true at ab;rw[cj (hx<|c2 (as:=ns) WData.int▸ag)]at ab;exact b8 ab
 cases Wt with
 |cons hw hn=>
 cases hn;cases hw with
 |@list gd vs B L8 yg=>
 have E8:p1 gN.heap (hideAll gN.heap [gd]):=λb o aA ag=>hideAll_get _ aA (by
  intro q;obtain rfl:=bT q;obtain rfl:=br (bu L8 aA);exact ag.elim (λq=>q rfl) λq=>q _ _ rfl)
 have T:=Wi (w:=w) cI E8 L6.T;have df:=Wk (w:=w) cI E8;have v0:=Wl (w:=w) cI E8;obtain⟨kV,S,ac5,ac⟩:=X ns hlen;have r0:a=k6 115:=by exact(Value.ref.inj<|br<|((L4 cI L6.T.g _).trans<|(ai _ bC).trans<|V9 _).symm.trans L7).symm
 subst r0;obtain⟨B,oK⟩:=(Vb T df v0 kV).1 _ _ _ _ _ ac;have aX:eo kV callerA:=⟨by show 1+claimMargin+kV<recursionLimit;delta claimMargin recursionLimit;lia,by show 4+10*kV+300<cLine;unfold cLine;lia,rfl⟩;have D0:∀b o,(hideAll gN.heap [gd]).get? b=some o->gN.heap.get? b=some o:=λb o e=>of_hideAll _ e;have Wu:bJ w wb (hideAll gN.heap [gd]) gN.heap [(gd,none)] [.list<|ns.map .int]:=by
  refine⟨D0,λb aj=>hideAll_none _ aj,rfl,p8 ⟨b4,List.nodup_nil⟩,λi p o ab aA=> ?_⟩;cases i with
  |zero=>
   cases ab;cases aA;exact⟨rfl,vs.toArray,0,L8,adk yg,a3 (cP<|c2 _)<|a3 hlen<|by decide⟩
  |succ i=>exact bj ab
 have aV:b7 gN.heap [(gd,none)] [.ref gd] [.L 0]:=.cons (.L (p:=(gd,none)) rfl) .nil;refine wpAny_call<|oK callerA _ gN [(gd,none)] [.ref gd] aX Wu aV λaY bt v g jE=> ?_;cases jE;show GoodWG _ _ _ _ _ _ _;refine GoodW.toG ⟨.inl ⟨.bool true,.bool true,[],rfl,λcls=>rfl,.bool _,?_,λB=>⟨List.nodup_nil,λa aT=>nomatch aT⟩⟩,λb o e=> ?_,g.os,?_⟩
 ·have aF:cH.row.toRowW.post=.eq .res (.«lit» (.bool true)):=rfl;have cS:same (.bool true) (.bool true)=true:=by kernel_rfl
  show(WShape.has cH.row.toRowW.records (.bool true) .bool&&cH.row.toRowW.post.holds cH.row.toRowW.records _)=true;exact dJ (by kernel_rfl) (V aF (by change WTm.holds cH.row.toRowW.records (.«lit» (.bool<|same (.bool true)<|.bool true)) ⟨[],none,[],[]⟩=true;exact V cS rfl))
 ·by_cases aj:b=gd
  ·subst aj;exact g.tr.tH (b,none) b o rfl (by exact bp) e
  ·exact g.tr.km b o e (λq=>aj<|bT q) (by exact b4)
 ·exact gu g.gens Wr
def p3:sreFenced e5.main:=by kernel_rfl
def nI:((moduleNames e5.main.body).isEmpty||lookedIntoSs (moduleNames e5.main.body) e5.main.body)=true:=by kernel_rfl
def uo:namesResolve e5:=by kernel_rfl
def nJ:e5.boundNames.all (λn=> !worldNames.contains n)=true:=by kernel_rfl
def A1:noRoadLSs {strict:= !(importedModules e5.main.body).all cThrough.contains,foot:=none,bare:=(["vars","dir","locals"]:List Str).filter<|readsOut e5 e5.main.body} e5.main.body=true:=by kernel_rfl
def Wv:(namesMeet e5 e5.main.body λB n=>attrL n)=true:=by kernel_rfl
def fF:cH.row.toRowW.solid:=by kernel_rfl
def a6:decide (cH.foot<=(behindTheImports cH.prog).length)=true:=by kernel_rfl
def bR:cH.footing.all footLine:=by kernel_rfl
def d4:noClassBlock cH.prog cH.footing:=by kernel_rfl
def eR:noRoadLSs {strict:=true,foot:=some cH.bound',writes:=cH.writes,may:=cH.may} cH.footing=true:=by kernel_rfl
def gV:defStands cH.about cH.above:=by kernel_rfl
def gM:cH.namesIt:=by kernel_rfl
def fN:cH.bound'.all (λn=> !builtinNamed n||cH.about==[n]|| !cH.reads n)=true:=by kernel_rfl
def jG:namesMeet cH.prog cH.above (λB n=> !cH.own.contains n)=true:=by kernel_rfl
def pT:namesMeet cH.prog cH.footing (λsc n=>sc.kind==.module||sc.names.lookup n !=some .globalExplicit)=true:=by kernel_rfl
def Ww:opening e5=plainProg e5.main.scope.names:=by kernel_rfl
def Wx(s:Shared):fenceModules? e5 s=some s:=by kernel_rfl
def Wy(w:World):((boot_heap w.params).isNs mainGlobals,(boot_heap w.params).objs.size,(boot_heap w.params).nsMap mainGlobals "__annotations__")=(true,11,pZ):=by kernel_rfl
def Wz{p q:Program}{Xt:Shared->Bool}{α:Type}{Yf:Shared->α}{y:α}{N df m0:Nat}{uq:Heap}{k7:Drawn}{gi:Nat}{ann:Option Value}(aj:(fencedOpening treeTable p w N).map (λs=>(s.heap,s.gens,s.drawn,s.toks))=some (uq,#[],k7,gi))(z:(uq.isNs mainGlobals,uq.objs.size,uq.nsMap mainGlobals "__annotations__")=(true,m0,ann))(run:∀os:OsState,∃gN:Shared,topRun treeTable p w m0 ann df ⟨uq,#[],k7,gi,os⟩ (topStub p)=some gN/\
   (staticsOk (importedModules p.main.body) uq gN.heap&&namesBound p gN.heap&&gensDone gN&&laidKept uq gN.heap)=true/\
   openSeen q loose (importedModules p.main.body) Xt true gN=openGood q loose/\Yf gN=y)(le:df<=N):
  (openEnds treeTable p w N).map (λs=>(openSeen q loose (importedModules p.main.body) Xt true s,Yf s))=some (openGood q loose,y):=by
 obtain⟨⟨h,gs,d,k,os⟩,e,e'⟩:=Option.map_eq_some_iff.mp aj;simp only[Prod.mk.injEq]at e';obtain⟨rfl,rfl,rfl,rfl⟩:=e';obtain⟨gN,r,a6,bR,cI⟩:=run os;simp only[Prod.mk.injEq]at z;obtain⟨fb,oI,vN⟩:=z;have r':=topRun_mono (N-df) _ _ _ _ r;rw[show df+(N-df)=N from by exact HT le]at r';have t:topFrom treeTable p w N ⟨h,#[],d,k,os⟩=some gN:=by unfold topFrom;dsimp only;rw[fb,oI,vN,r'];show(match staticsOk (importedModules p.main.body) h gN.heap&&namesBound p gN.heap&&gensDone gN&&laidKept h gN.heap with|true=>some gN|false=>none)=some gN;exact V a6 rfl
 unfold openEnds;refine V e ?_;show(topFrom treeTable p w N _).map _=_;refine V t ?_;exact ai some<|Prod.ext bR cI
def WA:E2<=20000:=by decide
def WB(w:World):(fencedOpening treeTable e5 w 20000).map (λs=>(s.heap,s.gens,s.drawn,s.toks))=some (boot_heap w.params,#[],boot_drawn,boot_toks):=boot_open (p:=e5) (N:=20000) Ww (by exact rfl) Wx w
def left:LeftO e5 mh sn (λB=>true) (λs=>∃az,kx az s.heap) (λB=>True) 20000:=λw=>Wz (df:=E2) (WB w) (Wy w) (λos=>let⟨gN,r,a6,bR,cI⟩:=VY w os;⟨gN,r,a6,bR,eq_true ⟨w,cI⟩⟩) WA
def WC:cH.row.prog.theDef cH.row.name=(defOf mh cH.row.name).map λd=>(d.1.params,d.1.body,d.1.scope):=by kernel_rfl
def WD:(defOf mh cH.row.name).bind (λd=>kwWritten? d.1.params.kwonlyargs d.1.params.kw_defaults)=(defOf mh cH.row.name).map (·.2):=by kernel_rfl
def WE:(defOf mh cH.row.name).isSome=true:=by kernel_rfl
def WF:cH.most.all (λn=>decide<|63<=n)=true:=by kernel_rfl
def WG:cH.bound.all (λn=>decide<|2^63<=n)=true:=by kernel_rfl
def WH(X:E7):cH.row.wellSaid->cH.row.Holds:=λdK=>by
 obtain⟨⟨d,L5⟩,bC⟩:=hT WE;have ab:=WC;have ao:=WD;rw[bC]at ab ao;have hn:d.name=cH.row.name:=defOf_name bC;refine holds_open (r:=cH.row) (q:=mh) (loose:=sn) (Xt:=λB=>true) (XP:=λB B=>True) (Yf:=λs=>∃az,kx az s.heap) (Ya:=λB=>True) (YP:=λB h=>∃az,kx az h) (N:=20000)
  left (λw s h=>of_eq_true h) (λw h aO ⟨az,y⟩ k=>⟨az,y.keeps k⟩) (λB B=>trivial) (λB B B B B=>trivial) bC ab ao (λs B=>recFacts_nil rfl) rfl dK Wm Wo Wn (Wq X hn)
def WI:looksOpen cH.row.prog:=by unfold looksOpen;exact look_both (look_both (look_both (look_both (look_both p3 nI) uo) nJ) A1) Wv
def bd:cH.row.loose.isEmpty:=by kernel_rfl
def cQ:cH.row.makers.isEmpty:=by kernel_rfl
def eu:(cH.row.records.isEmpty||cH.row.raises.all λeJ=>eJ.1 !=.builtin "AttributeError"&&eJ.1 !=.builtin "TypeError")=true:=by kernel_rfl
def i5:(cH.row.raises.all λeJ=>match eJ.1 with|.builtin n=> !cH.row.prog.boundNames.contains (Str.ofString n)&& !ofTheWorld.contains n|.own _=>true)=true:=by kernel_rfl
def r4:decide (cH.row.records.map (·.1)).Nodup=true:=by kernel_rfl
def DX:(cH.row.records.all λx=> !x.1.opensWith "__"&& !builtinNamed x.1&&cH.row.prog.boundNames.contains x.1&&x.2.all λf=> !f.1.opensWith "__")=true:=by kernel_rfl
def WJ:cH.row.pre.litsOk:=by kernel_rfl
def WK:cH.row.post.litsOk:=by kernel_rfl
def WL:cH.row.raises.all (·.2.litsOk)=true:=by kernel_rfl
def WM:cH.row.mutates.all (λi=>match cH.row.args[i]?with
  |some ho=> !ho.arms.any WShape.isObj
  |none=>false)=true:=by kernel_rfl
def WN:cH.row.within.all (λi=>decide<|i<cH.row.args.length)=true:=by kernel_rfl
def WO:cH.row.same.all (λi=>decide<|i<cH.row.args.length)=true:=by kernel_rfl
def WP:cH.row.partSaid:=by unfold OpenRow.partSaid;exact look_both (look_both (look_both (look_both (look_both (look_both (look_both (look_both (look_both (look_both (look_both (look_both (look_both WI bd) cQ) eu) i5) r4) DX) fF) WJ) WK) WL) WM) WN) WO
def WQ:cH.row.prog.boundNames.contains cH.row.name:=by kernel_rfl
def WR:(!startupNames.contains cH.row.name)=true:=by kernel_rfl
def WS:cH.row.wellSaid:=by unfold OpenRow.wellSaid;exact look_both (look_both WP WQ) WR
def E9:(["type","isinstance","issubclass","getattr","hasattr"]:List Str).all (λn=>cH.about !=[n])=true:=by kernel_rfl
def EV:(!cH.writes||(cH.prog.main.body.flatMap importedNames).all λn=> !cH.reads n)=true:=by kernel_rfl
def ka:(cH.prog.main.body.flatMap importedNames).all (λn=> !cH.reads n||(drawsOf n cH.prog.main.body).all λL9=>L9.2 !=("attrgetter":Str)&&L9.2 !=("methodcaller":Str))=true:=by kernel_rfl
def jH:namesMeet cH.prog cH.footing (λsc n=>(!(["type","isinstance","issubclass","getattr","hasattr"]:List Str).contains n||sc.names.lookup n==some .globalImplicit)&&
  (cH.may !=some n||sc.kind==.module||sc.names.lookup n==some .globalImplicit))=true:=by kernel_rfl
def EW:cH.own.contains cH.name:=by kernel_rfl
def WT:(cH.own.eraseDups.length==cH.own.length)=true:=by kernel_rfl
def WU:cH.own.all (λn=> !builtinNamed n)=true:=by kernel_rfl
def WV:cH.wellSaid:=by unfold OpenLaw.wellSaid;exact look_both (look_both (look_both (look_both (look_both (look_both (look_both (look_both (look_both (look_both (look_both (look_both (look_both (look_both (look_both (look_both (look_both (look_both WS a6) bR) d4) WF) WG) eR) gV) gM) E9) fN) EV) ka) jH) EW) WT) WU) jG) pT
def ac6(X:E7):cH.Holds:=holds_law WV<|WH X
end
section
set_option backward.match.sparseCases false
open PySem (Str)
variable{d a b k i np z j t m s u b' sN bL aG hr dg eM:Nat}{f e6:Nat->Nat->Bool}{args hH l xs ys dn:List I}{C aw S ox bn cA ij:St}{c:Bool}{R bY Q pr:Prop}{O:ht}{body:bS->St->Option (eG×bS×St)}{st:dA}{ss:List dA}{H cg dr:bS}{v x y lax:I}{cL:of}{cf elt:b2}{iv:Option Nat}{en:St->Bool}{ms gl c8 ts aV:List Nat}{o:b5}{a1 na:Nat->Nat}{op:od}{ifs:List b2}{nm:Str}{test:bS->St->Option (Bool×St)}{zs:List Int}{B9:Nat->I}{as dP ex eg aB:List (Nat×Nat)}{bA kO:List (I×I)}{pn:Bool->Prop}
noncomputable def a2:jy:=⟨lo,dD,om⟩
noncomputable def sr(d:Nat):xp:=match d with
 |0=>λB B B=>none
 |d+1=>λc args C=>match om c with
  |some f=>(a0 a2 d f (.L C.length::args)<|C++[.cO c λB=>none]).bind λr=>if r.1=.none then some (.L C.length,r.2)else none
  |none=>if args=[]then some (.L C.length,C++[.cO c λB=>none])else none
noncomputable def bk(d:Nat):ht:={fn:=a0 a2 d,make:=sr d,b1:=dD}
def WW{f:Nat}{fn:fq}(h:lo[f]? =some fn):a0 a2 (d+1) f args C=tB (bk d) fn args C:=by
 have:a0 a2 (d+1) f args C=(lo[f]?).bind λfn=>tB (bk d) fn args C:=by cases d<;>rfl
 rw[this,h];rfl
section
theorem nK(i j k l:Nat)(h:a+i<=b+j)(e:Nat.ble (k+j) (i+l)=true):a+k<=b+l:=by have:=p0 e;lia
theorem jn{c:Nat}(i j k l:Nat)(Y:a+i<=b+j)(ae:b+k<=c+l):a+(i+k)<=c+(j+l):=by lia
theorem ur(h:a+(k+1)<=b):a<b:=by lia
def fO{α:Type}{a:α}(h:a∈([]:List α)):R:=absurd h b4
def fc{α:Type}{l:List α}{o:α}(h:l[i]? =some o):i<l.length:=(h6 h).1
def fv(h:a≠b):a∉[b]:=λq=>h<|bT q
def mi{c:Nat}(h:a≠b)(k:a≠c):a∉[b,c]:=λq=>(cR q).elim h<|fv k
def Ma{c:Nat}(h:a≠b)(k:a≠c)(l:a≠d):a∉[b,c,d]:=λq=>(cR q).elim h<|mi k l
def Mb{c e:Nat}(h:a≠b)(k:a≠c)(l:a≠d)(m:a≠e):a∉[b,c,d,e]:=λq=>(cR q).elim h<|Ma k l m
noncomputable def ck(l:List I):bS:=λi=>l[i]?
theorem WX(h:args.length=np):C4 np hH args=some (ck args):=by delta C4 ck;rw[bg (by lia),h,Nat.sub_self,Nat.sub_zero,List.drop_length,ew]
def WY{body:List dA}(h:args.length=np):
  tB O ⟨np,hH,body⟩ args C=(cG O body (ck args) C).bind λr=>match r.1 with
   |.ret v=>some (v,r.2.2)
   |.next=>some (.none,r.2.2):=by
 unfold tB;refine V (WX h) ?_;rfl
def su{f:Nat}{body:List dA}(h:lo[f]? =some ⟨np,hH,body⟩)(an:args.length=np):
  a0 a2 (d+1) f args C=(cG (bk d) body (ck args) C).bind λr=>match r.1 with
   |.ret v=>some (v,r.2.2)
   |.next=>some (.none,r.2.2):=by
 rw[WW h,WY an]
def eB(h:cr O st H C=some (.next,cg,aw)):cG O (st::ss) H C=cG O ss cg aw:=by show(cr O st H C).bind _=_;refine V h ?_;rfl
def yh(h:cr O st H C=some (.ret v,cg,aw)):cG O (st::ss) H C=some (.ret v,cg,aw):=by show(cr O st H C).bind _=_;refine V h ?_;rfl
def oV{c:eG}(h:cr O st H C=some (c,cg,aw)):cG O [st] H C=some (c,cg,aw):=by
 cases c with
 |next=>refine V (eB h) ?_;rfl
 |ret v=>exact yh h
def A2{body:List dA}{z:I}(Y:bq O cf H C=some (z,aw))(ae:nk aw z=some (l,iv)):
  cr O (.gQ cL cf body) H C=fX (λs=>hg s iv l) (λx H s=>(gq cL x H).bind λcg=>cG O body cg s) l H aw:=by
 show(bq O cf H C).bind _=_;refine V Y ?_;show(nk aw z).bind _=_;refine V ae ?_;rfl
def wc{de:I->bS->St->Option (eG×bS×St)}(h:en C):fX en de [] H C=some (.next,H,C):=bg h
def WZ{de:I->bS->St->Option (eG×bS×St)}(h:en C)(aP:de x H C=some (.next,cg,aw)):fX en de (x::xs) H C=fX en de xs cg aw:=by show(if en C then _ else _)=_;exact V (bg h)<|V aP rfl
def mS{de:I->bS->St->Option (eG×bS×St)}(h:en C)(aP:de x H C=some (.ret v,cg,aw)):fX en de (x::xs) H C=some (.ret v,cg,aw):=by show(if en C then _ else _)=_;exact V (bg h)<|V aP rfl
def A3(F:Nat->Option I)(i:Nat)(v:I):ar F i v i=some v:=by simp [ar]
def p4(F:Nat->Option I)(v:I)(h:j≠i):ar F i v j=F j:=by simp [ar,h]
def Fa(i:Int):I.key (.int i)=true:=rfl
def Mc(C:St)(a b:Int):ty C (.int a) (.int b)=some (decide<|a=b):=by show(if I.key (.int a)&&I.key (.int b)then some (decide<|I.int a=I.int b)else none)=_;rw[Fa,Fa];simp
def A4(C:St)(a b:Int):d0 C .eq (.int a) (.int b)=some (decide<|a=b):=Mc C a b
def W0(C:St)(a b:Int):d0 C .bw (.int a) (.int b)=some (decide<|a≠b):=by unfold d0;refine V (Mc _ _ _) ?_;simp
def W2(C:St)(a b:Int):d0 C .lt (.int a) (.int b)=some (decide<|a<b):=rfl
def W3(C:St)(a b:Int):d0 C .gt (.int a) (.int b)=some (decide<|b<a):=rfl
def W4(C:St)(a b:Int):d0 C .ge (.int a) (.int b)=some (decide<|b<=a):=rfl
def Fb(C:St)(b:Bool):g4 C (.bool b)=some b:=rfl
def Md(C:St)(i:Int):g4 C (.int i)=some (decide<|i≠0):=rfl
theorem A5(n:Nat):∀l:List Int,I.gR n (l.map .int)=true
 |[]=>by exact rfl
 |a::l=>by
  cases n with
  |zero=>exact dJ rfl<|A5 0 l
  |succ n=>exact dJ rfl<|A5 (n+1) l
def W5(C:St)(a:Int)(l:List Int):l4 C (.int a) (.ak<|l.map .int)=some (decide<|a∈l):=by show(if I.key (.int a)&&I.iW (l.map .int)then some (decide<|I.int a∈l.map .int)else none)=_;refine V (Fa _)<|V (show I.iW (l.map .int)=true from A5 6 l) ?_;simp
def mT(C:St)(a:Nat)(l:List Nat):l4 C (.int a) (.ak (l.map λn:Nat=>I.int n))=some (decide<|a∈l):=by
 have:=W5 C a (l.map λn:Nat=>(n:Int));rw[jC]at this;refine V (show(l.map λn:Nat=>I.int n)=List.map (I.int∘λn:Nat=>(n:Int)) l from rfl)<|V this ?_
 congr 1
 rw[decide_eq_decide,List.mem_map];constructor
 ·rintro ⟨b,aj,e⟩;have:b=a:=by exact Qa e
  exact this▸aj
 ·exactλh=>⟨a,h,rfl⟩
def Me{n:Nat}(h:i<n):jY (i:Int) n=some i:=by unfold jY;refine V (bg ⟨by exact Int.ofNat_nonneg _,by exact HU h⟩) ?_;simp
def bZ(h:l[i]? =some v):fj C (.ak l) (.int i)=some v:=by show(jY (i:Int) l.length).bind (l[·]?)=_;refine V (Me (h6 h).1) ?_;exact h
def kb(an:C[a]? =some (.list l))(h:l[i]? =some v):fj C (.L a) (.int i)=some v:=by
 show(match C[a]?with
  |some (.list l)=>(jY (i:Int) l.length).bind (l[·]?)
  |some (.dict l)=>if e2 l (.int i)then cD l (.int i)else none
  |_=>none)=_
 refine V an ?_;show(jY (i:Int) l.length).bind (l[·]?)=_;refine V (Me (h6 h).1) ?_;exact h
theorem W6(h:l.getLast?=some v):fj C (.ak l) (.int<|-1)=some v:=by
 show(jY (-1:Int) l.length).bind (l[·]?)=_;rw[List.getLast?_eq_getElem?]at h;have an:l.length-1<l.length:=(h6 h).1;have:jY (-1:Int) l.length=some (l.length-1):=by
  unfold jY;refine V (bI<|by lia) (V (bg ⟨by exact by decide,by lia⟩) ?_)
  congr 1;lia
 refine V this ?_;exact h
def kz{c f:Nat}{F:Nat->Option I}(h:C[a]? =some (.cO c F))(hm:dD c f=none)(ir:F f=some v):hd dD C f (.L a)=some v:=by
 show(match C[a]?with
  |some (.cO c F)=>if dD c f=none then F f else none
  |_=>none)=_
 refine V h ?_;show(if dD c f=none then F f else none)=_;exact V (bg hm)<|V ir rfl
def W7(h:C[a]? =some (.list l))(h0:a≠0)(an:l.length<16000000):mH a 0 [v] C=some (.none,C.set a<|.list<|l++[v]):=by unfold mH;refine V h ?_;show(if a=0 then none else if 0=py then(if l.length<16000000 then some (I.none,C.set a<|.list<|l++[v])else none)else _)=_;exact V (bI h0)<|V (bg<|show 0=py from rfl)<|V (bg an) rfl
def W8(h:C[a]? =some (.list l))(h0:a≠0)(an:l.getLast?=some v):mH a 1 [] C=some (v,C.set a<|.list l.dropLast):=by
 unfold mH;refine V h ?_;show(if a=0 then none else if 1=py then _ else if 1=rL then(match ([]:List I),l.getLast? with
   |[],some v=>some (v,C.set a<|.list l.dropLast)
   |B,cq=>none)else _)=_
 rw[bI h0,bI<|show¬1=py by decide,bg<|show 1=rL from rfl,an]
def Mf{r:List I}(h:C[a]? =some (.list l))(h0:a≠0)(aj:C[b]? =some (.list r))(hab:a≠b)(an:l.length+r.length<16000000):mH a 2 [.L b] C=some (.none,C.set a<|.list<|l++r):=by
 unfold mH;refine V h ?_;show(if a=0 then none else if 2=py then _ else if 2=rL then _ else if 2=xn then(if a=b then none else(match C[b]?with
    |some (.list r)=>if l.length+r.length<16000000 then some (I.none,C.set a<|.list<|l++r)else none
    |_=>none))else none)=_
 rw[bI h0,bI<|show¬2=py by decide,bI<|show¬2=rL by decide,bg<|show 2=xn from rfl,bI hab,aj];show(if l.length+r.length<16000000 then _ else none)=_;exact bg an
def W9{l:List (I×I)}{k:I}(h:C[a]? =some (.dict l))(h0:a≠0)(ao:e2 l k)(an:l.length<16000000):pA C k v (.L a)=some (C.set a<|.dict<|fB l k v):=by unfold pA;simp only[h];rw[bg];refine V ao ?_;simp [an,h0]
def Xa{l:List (I×I)}{k:I}(h:C[a]? =some (.dict l))(h0:a≠0)(ao:e2 l k)(an:cD l k=some v):tA C k (.L a)=some (C.set a<|.dict<|mG l k):=by unfold tA;simp only[h];rw[bg];refine V ao<|V an ?_;simp [h0]
theorem Xb{n:Nat}(h:C[a]? =some (.list l))(h0:a≠0)(an:n<=l.length):rM C (.int n) (.L a)=some (C.set a<|.list<|l.take n):=by unfold rM;simp only[h];refine V (bg ⟨h0,by exact Int.ofNat_nonneg _,by lia⟩) ?_;simp
def oW(h:C[a]? =some (.list l)):kS .len (.L a) C=some (.int l.length,C):=by unfold kS;simp only[h]
def nL{α:Type}{l:List α}{f:α->I}(h:C[a]? =some (.list<|l.map f)):kS .len (.L a) C=some (.int l.length,C):=(oW h).trans<|ai (λn:Nat=>some (I.int n,C))<|c2 f
def wd{c f:Nat}{F:Nat->Option I}(h:C[a]? =some (.cO c F))(h0:a≠0)(hm:dD c f=none):jZ dD C f v (.L a)=some (C.set a<|.cO c<|ar F f v):=by unfold jZ;simp only[h];exact bg<|And.intro h0 hm
structure ef where
 name:Str
 dc:Nat
 b0:Nat
 dG:Nat
set_option genInjectivity true in
inductive af where
 |key (s:Str)
 |bool (b f:Nat)
 |str (s:Str) (f:Nat)
 |num (n f:Nat)
 |dI (ps:List Nat)
 |obj (ps:List ef) (f:Nat)
 |ref (d:Nat)
noncomputable def af.ctorIdx(x:af):Nat:=af.casesOn x (λB=>0) (λB B=>1) (λB B=>2) (λB B=>3) (λB=>4) (λB B=>5)<|λB=>6
noncomputable abbrev J(n:Nat):I:=.int n
noncomputable def cm(p:ef):I:=.ak [.str p.name,J p.dc,J p.b0,J p.dG]
noncomputable def af.kind:af->Nat
 |.key B=>1|.bool _ _=>2|.str _ _=>3|.num _ _=>4|.dI _=>6|.obj _ _=>8|.ref _=>9
noncomputable def af.rest:af->List I
 |.key s=>[.str s]
 |.bool b f=>[J b,J f]
 |.str s f=>[.str s,J f]
 |.num n f=>[J n,J f]
 |.dI ps=>[.ak<|ps.map J]
 |.obj ps f=>[.ak<|ps.map cm,.ak [],.ak [],.ak [],.ak [],J f]
 |.ref d=>[J d,.ak []]
noncomputable def af.b3(r:af):I:=.ak (J r.kind::r.rest)
structure gO where
 t:Nat
 k7:Nat
 iO:Nat
 ev:Nat
 cn:Nat
noncomputable def gO.fw(A:gO)(i:Nat):Nat:=if i=0 then A.k7 else if i=1 then A.iO else A.ev
def gO.all{A:gO}{P:Nat->Prop}(h0:P A.k7)(Y:P A.iO)(ae:P A.ev)(i:Nat):P (A.fw i):=by
 delta gO.fw;split
 ·exact h0
 ·split
  ·exact Y
  ·exact ae
structure ej(C:St)(A:gO)(T:List af):Prop where
 pos:0<A.t
 jI:∃F,C[A.t]? =some (.cO 1 F)/\F 45=some (.L<|A.t+1)/\F 23=some (.L<|A.t+2)/\F 14=some (.L<|A.t+3)/\F 41=none
 lG:C[A.t+1]? =some (.list<|T.map af.b3)
 av:C[A.t+2]? =some (.dict<|T.zipIdx.map λp=>(p.1.b3,J p.2))
structure dY(C:St)(A:gO)(T:List af)(a1:Nat->Nat):Prop where
 eC:0<A.t/\A.t+8<A.k7/\A.k7<A.iO/\A.iO<A.ev/\A.ev<A.cn
 jI:∃F,C[A.t]? =some (.cO 1 F)/\F 45=some (.L<|A.t+1)/\F 23=some (.L<|A.t+2)/\F 14=some (.L<|A.t+3)/\F 41=none
 lG:C[A.t+1]? =some (.list<|T.map af.b3)
 av:C[A.t+2]? =some (.dict<|T.zipIdx.map λp=>(p.1.b3,J p.2))
 sv:C[A.t+3]? =some (.list [.none,.L A.k7,.L A.iO,.L A.ev])
 kA:∀i,i<3->∃F,C[A.fw i]? =some (.cO 2 F)/\F 10=some (J<|a1 i)/\F 9=some (.ak [])/\∃v,F 56=some (.L v)/\A.k7<=v/\v<=A.cn/\C[v]? =some (.list [])
 cn:∃F,C[A.cn]? =some (.cO 4 F)/\F 51=some (.L A.t)/\F 20=none/\F 48=none/\F 26=none
structure bx(C S:St)(ms:List Nat):Prop where
 len:C.length<=S.length
 same:∀a,a<C.length->a∉ms->S[a]? =C[a]?
def bx.refl(C:St)(ms:List Nat):bx C C ms:=⟨gF _,λB B B=>rfl⟩
def bx.trans(x:bx C S ms)(y:bx S ox ms):bx C ox ms:=⟨a3 x.len y.len,λa h m=>(y.same a (c7 h x.len) m).trans<|x.same a h m⟩
def bx.ci{ns:List Nat}(x:bx C S ms)(h:∀a∈ms,a∈ns):bx C S ns:=⟨x.len,λa an m=>x.same a an λq=>m<|h a q⟩
def bx.get(x:bx C S ms)(h:C[a]? =some o)(m:a∉ms):S[a]? =some o:=by refine V (x.same a (h6 h).1 m) ?_;exact h
def bx.set(C:St)(a:Nat)(o:b5):bx C (C.set a o) [a]:=⟨by exact cP<|iY List.length_set,λb aj hm=>List.getElem?_set_ne λq=>hm<|by simp [q]⟩
def bx.push(C g:St)(ms:List Nat):bx C (C++g) ms:=⟨by simp,λa h B=>nr h⟩
def hM(C:St)(a:Nat)(o:b5)(S:St):Prop:=S=C.set a o
section
variable{x:b5}{r:List I}{D:List (I×I)}{k:I}
def hM.bU(u:hM C a o S):bx C S [a]:=V u<|.set C a o
def hM.len(u:hM C a o S):S.length=C.length:=V u List.length_set
def hM.i7(u:hM C a o S)(h:C[a]? =some x):S[a]? =some o:=V u<|List.getElem?_set_self<|fc h
def hM.get(u:hM C a o S)(h:C[b]? =some x)(n:b≠a):S[b]? =some x:=V u<|(List.getElem?_set_ne n.symm).trans h
def ut(h:C[a]? =some (.list l))(h0:a≠0)(an:l.length<16000000)(k:∀S,mH a 0 [v] C=some (.none,S)->hM C a (.list<|l++[v]) S->R):R:=k _ (W7 h h0 an) rfl
def oX(h:C[a]? =some (.dict D))(h0:a≠0)(ao:e2 D k)(an:D.length<16000000)(c:∀S,pA C k v (.L a)=some S->hM C a (.dict<|fB D k v) S->R):R:=c _ (W9 h h0 ao an) rfl
end
def dY.keep{A:gO}{T:List af}(X:dY C A T a1)(f:bx C S ms)(h:∀a,A.t<=a->a<=A.cn->a∉ms):dY S A T a1:=by
 obtain⟨gT,gD,jo,p5,yi⟩:=X.eC;obtain⟨F,g6,gv⟩:=X.jI;obtain⟨uu,Y,ae⟩:=X.cn;refine⟨X.eC,⟨F,f.get g6<|h _ (by exact gF _)<|by exact HX yi p5 jo gD,gv⟩,f.get X.lG<|h _ (by exact HN)<|by exact ec (ec (ec (ur X.eC.2.1) X.eC.2.2.1) X.eC.2.2.2.1) X.eC.2.2.2.2,f.get X.av<|h _ (by exact C5)<|by exact nK 12 0 2 0 (jn 11 0 1 0 (jn 10 0 1 0 (jn 9 0 1 0 X.eC.2.1 X.eC.2.2.1) X.eC.2.2.2.1) X.eC.2.2.2.2) rfl,f.get X.sv<|h _ (by exact Qb)<|by exact nK 12 0 3 0 (jn 11 0 1 0 (jn 10 0 1 0 (jn 9 0 1 0 X.eC.2.1 X.eC.2.2.1) X.eC.2.2.2.1) X.eC.2.2.2.2) rfl,λi ah=> ?_,⟨uu,f.get Y<|h _ (by exact HX yi p5 jo gD)<|by exact gF _,ae⟩⟩;obtain⟨Fc,hA,eW,nA,v,sd,sh,sf,AJ⟩:=X.kA i ah;refine⟨Fc,f.get hA<|h _ ?_ ?_,eW,nA,v,sd,sh,sf,f.get AJ<|h _ (by exact hj<|c7 (ur X.eC.2.1) sh)<|by exact sf⟩
 ·exact gO.all (P:=(A.t<=·)) (by exact hj<|HW gD) (by exact hj<|ec (ur X.eC.2.1) X.eC.2.2.1) (by exact hj<|ec (ec (ur X.eC.2.1) X.eC.2.2.1) X.eC.2.2.2.1) i
 ·exact gO.all (P:=(·<=A.cn)) (by exact a3 sh sf) (by exact hj<|HQ p5 yi) (by exact hj yi) i
def dY.fZ{A:gO}{T:List af}(X:dY C A T a1):ej C A T:=⟨X.eC.1,X.jI,X.lG,X.av⟩
def ej.keep{A:gO}{T:List af}(X:ej C A T)(f:bx C S ms)(h:∀a,A.t<=a->a<=A.t+2->a∉ms):ej S A T:=by obtain⟨F,g6,gv⟩:=X.jI;exact⟨X.pos,⟨F,f.get g6<|h _ (by exact gF _)<|by exact C5,gv⟩,f.get X.lG<|h _ (by exact HN)<|by exact Qd,f.get X.av<|h _ (by exact C5)<|by exact gF _⟩
def dY.with{A:gO}{T a7:List af}(X:dY C A T a1)(ih:ej S A a7)(f:bx C S [A.t+1,A.t+2]):dY S A a7 a1:=by obtain⟨gT,gD,jo,p5,yi⟩:=X.eC;obtain⟨uu,Y,ae⟩:=X.cn;refine⟨X.eC,ih.jI,ih.lG,ih.av,f.get X.sv<|by simp,λi ah=> ?_,⟨uu,f.get Y<|by exact mi (dd<|nK 12 0 2 0 (jn 11 0 1 0 (jn 10 0 1 0 (jn 9 0 1 0 X.eC.2.1 X.eC.2.2.1) X.eC.2.2.2.1) X.eC.2.2.2.2) rfl)<|dd<|nK 12 0 3 0 (jn 11 0 1 0 (jn 10 0 1 0 (jn 9 0 1 0 X.eC.2.1 X.eC.2.2.1) X.eC.2.2.2.1) X.eC.2.2.2.2) rfl,ae⟩⟩;obtain⟨Fc,hA,eW,nA,v,sd,sh,sf,AJ⟩:=X.kA i ah;refine⟨Fc,f.get hA ?_,eW,nA,v,sd,sh,sf,f.get AJ<|by exact mi (dd<|nK 9 0 2 0 (jn 9 0 0 0 X.eC.2.1 sh) rfl)<|dd<|nK 9 0 3 0 (jn 9 0 0 0 X.eC.2.1 sh) rfl⟩;exact gO.all (P:=(·∉[A.t+1,A.t+2])) (mi (by exact dd<|nK 9 0 2 0 X.eC.2.1 rfl)<|by exact dd<|nK 9 0 3 0 X.eC.2.1 rfl) (mi (by exact dd<|nK 10 0 2 0 (jn 9 0 1 0 X.eC.2.1 X.eC.2.2.1) rfl)<|by exact dd<|nK 10 0 3 0 (jn 9 0 1 0 X.eC.2.1 X.eC.2.2.1) rfl) (mi (by exact dd<|nK 11 0 2 0 (jn 10 0 1 0 (jn 9 0 1 0 X.eC.2.1 X.eC.2.2.1) X.eC.2.2.2.1) rfl)<|by exact dd<|nK 11 0 3 0 (jn 10 0 1 0 (jn 9 0 1 0 X.eC.2.1 X.eC.2.2.1) X.eC.2.2.2.1) rfl) i
section
variable{A:gO}{T:List af}
def ej.cJ(X:ej C A T):hd dD C 45 (.L A.t)=some (.L<|A.t+1):=let⟨_,h,ae,_⟩:=X.jI;kz h rfl ae
def ej.A6(X:ej C A T):hd dD C 23 (.L A.t)=some (.L<|A.t+2):=let⟨_,h,_,ae,_⟩:=X.jI;kz h rfl ae
def ej.row(X:ej C A T){r:af}(h:T[t]? =some r):fj C (.L<|A.t+1) (J t)=some r.b3:=kb X.lG (by refine V nw<|V h ?_;rfl)
def ej.lt(X:ej C A T):A.t+2<C.length:=(h6 X.av).1
def dY.cJ(X:dY C A T a1):hd dD C 45 (.L A.t)=some (.L<|A.t+1):=let⟨_,h,ae,_⟩:=X.jI;kz h rfl ae
def dY.A7(X:dY C A T a1):hd dD C 14 (.L A.t)=some (.L<|A.t+3):=let⟨_,h,_,_,ae,_⟩:=X.jI;kz h rfl ae
def dY.cy(X:dY C A T a1):hd dD C 51 (.L A.cn)=some (.L A.t):=let⟨_,h,ae,_⟩:=X.cn;kz h rfl ae
def dY.row(X:dY C A T a1){r:af}(h:T[t]? =some r):fj C (.L<|A.t+1) (J t)=some r.b3:=kb X.lG (by refine V nw<|V h ?_;rfl)
def cM{r:af}:fj C r.b3 (.int 0)=some (J r.kind):=bZ (i:=0) rfl
end
section
variable{A:gO}{T:List af}{r:af}
end
end
variable{A:gO}{K:ef->Bool->Prop}{q p:ef}{ps eS dO:List ef}
section
def mU{α:Type}(x:Option α)(K:α->Prop):Prop:=∀v,x=some v->K v
def q6{α:Type}(x:Option (α×St))(K:α->St->Prop):Prop:=∀v S,x=some (v,S)->K v S
def we(x:Option (eG×bS×St))(K:eG->bS->St->Prop):Prop:=∀c aU S,x=some (c,aU,S)->K c aU S
noncomputable def adj:Option I->Option Nat->Option (Option Nat)
 |none,some f=>some<|some f
 |B,cq=>none
noncomputable def Wp(b1:Nat->Nat->Option Nat)(m:Nat):Option b5->Option (Option Nat)
 |some (.cO c F)=>adj (F m)<|b1 c m
 |some B=>some none
 |none=>none
noncomputable def kB(b1:Nat->Nat->Option Nat)(C:St)(m:Nat):I->Option (Option Nat)
 |.L a=>Wp b1 m C[a]?
 |_=>none
noncomputable def adi(a m:Nat)(args:List I)(S:St):Option b5->Option (I×St)
 |some (.list B)=>mH a m args S
 |some (.dict B)=>qv a m args S
 |_=>none
noncomputable def uv(C:St)(m:Nat)(x:I)(args:List I)(S:St):Option (I×St):=
 match x with
 |.L a=>adi a m args S C[a]?
 |_=>none
def Mg(m:Bool)(H:bS)(i:Nat)(K:I->Prop):Prop:=
 match m with
 |true=>match H i with|some v=>K v|none=>True
 |false=>mU (H i) K
def q7(C:St)(v:I)(K:Bool->Prop):Prop:=
 match v with
 |.bool b=>K b
 |v=>mU (g4 C v) K
noncomputable def yj:b2->Option I
 |.bc v=>some v
 |_=>none
mutual
def fe(m:Bool)(O:ht):b2->bS->St->(I->St->Prop)->Prop
 |.bc v,B,C,K=>K v C
 |.E i,H,C,K=>Mg m H i λv=>K v C
 |.ak ax,H,C,K=>sw m O ax H C λl C=>K (.ak l) C
 |.fi ax,H,C,K=>sw m O ax H C λl C=>K (.L C.length)<|C++[.list l]
 |.l2,B,C,K=>K (.L C.length)<|C++[.dict []]
 |.neg e,H,C,K=>fe m O e H C λv C=>match v with|.int i=>K (.int<|-i) C|_=>True
 |.tw e,H,C,K=>fe m O e H C λv C=>match v with|.int i=>K (.int<|PySem.Builtin.bitNot i) C|_=>True
 |.not e,H,C,K=>fe m O e H C λv C=>q7 C v λb=>K (.bool<|!b) C
 |.b6 op a b,H,C,K=>fe m O a H C λx C=>fe m O b H C λy C=>q6 (iF op x y C) K
 |.aK op a b,H,C,K=>fe m O a H C λx C=>fe m O b H C λy C=>mU (d0 C op x y) λt=>K (.bool t) C
 |.vm og ng a b c,H,C,K=>fe m O a H C λx C=>fe m O b H C λy C=>mU (d0 C og x y) λt=>
   match t with
   |true=>fe m O c H C λz C=>mU (d0 C ng y z) λt=>K (.bool t) C
   |false=>K (.bool false) C
 |.and a b,H,C,K=>fe m O a H C λx C=>q7 C x λt=>match t with|true=>fe m O b H C K|false=>K x C
 |.or a b,H,C,K=>fe m O a H C λx C=>q7 C x λt=>match t with|true=>K x C|false=>fe m O b H C K
 |.ite c a b,H,C,K=>fe m O c H C λx C=>q7 C x λt=>match yj a,yj b with
  |some x,some y=>K (bif t then x else y) C
  |B,cq=>match t with|true=>fe m O a H C K|false=>fe m O b H C K
 |.aZ e f,H,C,K=>fe m O e H C λx C=>mU (hd O.b1 C f x) λv=>K v C
 |.av e i,H,C,K=>fe m O e H C λx C=>fe m O i H C λy C=>mU (fj C x y) λv=>K v C
 |.jf e ce ah,H,C,K=>fe m O e H C λx C=>Fd m O ce H C λa C=>Fd m O ah H C λb C=>q6 (nj x a b C) K
 |.a5 f args,H,C,K=>sw m O args H C λl C=>q6 (O.fn f l C) K
 |.l3 c args,H,C,K=>sw m O args H C λl C=>q6 (O.make c l C) K
 |.b1 e n args,H,C,K=>fe m O e H C λx C=>mU (kB O.b1 C n x) λs=>match s with
  |some f=>sw m O args H C λl C=>q6 (O.fn f (x::l) C) K
  |none=>sw m O args H C λl S=>q6 (uv C n x l S) K
 |.cw b e,H,C,K=>fe m O e H C λx C=>q6 (kS b x C) K
 |.comp elt cL cf ifs,H,C,K=>q6 (bq O (.comp elt cL cf ifs) H C) K
 |.jX elt i cf ifs,H,C,K=>q6 (bq O (.jX elt i cf ifs) H C) K
def sw(m:Bool)(O:ht):List b2->bS->St->(List I->St->Prop)->Prop
 |[],B,C,K=>K [] C
 |e::ax,H,C,K=>fe m O e H C λv C=>sw m O ax H C λl C=>K (v::l) C
def Fd(m:Bool)(O:ht):Option b2->bS->St->(Option I->St->Prop)->Prop
 |none,B,C,K=>K none C
 |some e,H,C,K=>fe m O e H C λv C=>K (some v) C
end
mutual
def A8(m:Bool)(O:ht):dA->bS->St->(eG->bS->St->Prop)->Prop
 |.assign cL e,H,C,K=>fe m O e H C λv C=>match cL with
  |.aS i=>K .next (ar H i v) C
  |cL=>mU (gq cL v H) λH=>K .next H C
 |.setAttr o f e,H,C,K=>fe m O e H C λv C=>fe m O o H C λx C=>mU (jZ O.b1 C f v x) λC=>K .next H C
 |.setItem o i e,H,C,K=>fe m O e H C λv C=>fe m O o H C λx C=>fe m O i H C λk C=>mU (pA C k v x) λC=>K .next H C
 |.tx i op e,H,C,K=>we (cr O (.tx i op e) H C) K
 |.rK o f op e,H,C,K=>we (cr O (.rK o f op e) H C) K
 |.delItem o i,H,C,K=>fe m O o H C λx C=>fe m O i H C λk C=>mU (tA C k x) λC=>K .next H C
 |.xl o ce,H,C,K=>fe m O o H C λx C=>fe m O ce H C λk C=>mU (rM C k x) λC=>K .next H C
 |.ite c a b,H,C,K=>fe m O c H C λx C=>q7 C x λt=>match t with|true=>q8 m O a [] H C K|false=>q8 m O b [] H C K
 |.gQ cL cf body,H,C,K=>we (cr O (.gQ cL cf body) H C) K
 |.ip i cf body,H,C,K=>we (cr O (.ip i cf body) H C) K
 |.pw c body,H,C,K=>we (cr O (.pw c body) H C) K
 |.ret e,H,C,K=>fe m O e H C λv C=>K (.ret v) H C
 |.xm,H,C,K=>K (.ret .none) H C
 |.expr e,H,C,K=>fe m O e H C λB C=>K .next H C
 |.fA,B,cq,eE=>True
def q8(m:Bool)(O:ht):List dA->List Bool->bS->St->(eG->bS->St->Prop)->Prop
 |[],B,H,C,K=>K .next H C
 |s::ss,dm,H,C,K=>match dm with
  |true::dm=>we (cr O s H C) λc H C=>match c with
   |.next=>q8 m O ss dm H C K
   |.ret v=>K (.ret v) H C
  |dm=>A8 m O s H C λc H C=>match c with
   |.next=>q8 m O ss dm.tail H C K
   |.ret v=>K (.ret v) H C
end
def uw{K:Bool->Prop}(h:∀b,g4 C v=some b->K b):q7 C v K:=by
 cases v with
 |bool b=>exact h _ rfl
 |_=>exact h
def Xc{m:Bool}{K:I->Prop}(h:∀v,H i=some v->K v):Mg m H i K:=by
 cases m with
 |false=>exact h
 |true=>
  delta Mg;dsimp only;cases aR:H i with
  |none=>trivial
  |some v=>exact h _ aR
def Mh{e:b2}(h:yj e=some v):e=.bc v:=by
 cases e<;>cases h<;>rfl
mutual
theorem e7(m:Bool)(O:ht):∀(e:b2) (H:bS) (C:St) (K:I->St->Prop),(∀v S,bq O e H C=some (v,S)->K v S)->fe m O e H C K
 |.bc v,H,C,K,h=>h _ _ rfl
 |.E i,H,C,K,h=>Xc λv aR=>h _ _<|ai (Option.map _) aR
 |.ak ax,H,C,K,h=>sx m O ax H C _ λl S e=>h _ _<|cF e rfl
 |.fi ax,H,C,K,h=>sx m O ax H C _ λl S e=>h _ _<|cF e rfl
 |.l2,H,C,K,h=>h _ _ rfl
 |.neg e,H,C,K,h=>e7 m O e H C _ λv S aD=>by
  cases v with
  |int i=>exact h _ _<|cF aD rfl
  |_=>trivial
 |.tw e,H,C,K,h=>e7 m O e H C _ λv S aD=>by
  cases v with
  |int i=>exact h _ _<|cF aD rfl
  |_=>trivial
 |.not e,H,C,K,h=>e7 m O e H C _ λv S aD=>uw λb aF=>h _ _<|cF aD<|cF aF rfl
 |.b6 op a b,H,C,K,h=>e7 m O a H C _ λx aw aD=>e7 m O b H aw _ λy bn aF B B cS=>h _ _<|cF aD<|cF aF cS
 |.aK op a b,H,C,K,h=>e7 m O a H C _ λx aw aD=>e7 m O b H aw _ λy bn aF r cS=>h _ _<|cF aD<|cF aF<|cF cS rfl
 |.vm og ng a b c,H,C,K,h=>e7 m O a H C _ λx aw aD=>e7 m O b H aw _ λy bn aF r cS=>by
  cases r with
  |false=>exact h _ _<|cF aD<|cF aF<|cF cS rfl
  |true=>exact e7 m O c H bn _ λz cA dM t j2=>h _ _<|cF aD<|cF aF<|cF cS<|(bg rfl).trans<|cF dM<|cF j2 rfl
 |.and a b,H,C,K,h=>e7 m O a H C _ λx aw aD=>uw λt aF=>by
  cases t with
  |false=>exact h _ _<|cF aD<|cF aF rfl
  |true=>exact e7 m O b H aw _ λz cA dM=>h _ _<|cF aD<|cF aF dM
 |.or a b,H,C,K,h=>e7 m O a H C _ λx aw aD=>uw λt aF=>by
  cases t with
  |false=>exact e7 m O b H aw _ λz cA dM=>h _ _<|cF aD<|cF aF dM
  |true=>exact h _ _<|cF aD<|cF aF rfl
 |.ite c a b,H,C,K,h=>e7 m O c H C _ λx aw aD=>uw λt aF=>by
  have g:∀{y cA},(if t=true then bq O a H aw else bq O b H aw)=some (y,cA)->K y cA:=λe=>h _ _<|cF aD<|cF aF e;have k:match (generalizing:=false) t with|true=>fe m O a H aw K|false=>fe m O b H aw K:=by
   cases t with
   |false=>exact e7 m O b H aw _ λz cA dM=>g dM
   |true=>exact e7 m O a H aw _ λz cA dM=>g dM
  cases ac:yj a with
  |none=>exact k
  |some x=>cases a8:yj b with
   |none=>exact k
   |some y=>refine g ?_;rw[Mh ac,Mh a8];cases t<;>rfl
 |.aZ e f,H,C,K,h=>e7 m O e H C _ λx aw aD v aF=>h _ _<|cF aD<|ai (Option.map _) aF
 |.av e i,H,C,K,h=>e7 m O e H C _ λx aw aD=>e7 m O i H aw _ λy bn aF r cS=>h _ _<|cF aD<|cF aF<|ai (Option.map _) cS
 |.jf e ce ah,H,C,K,h=>e7 m O e H C _ λx aw aD=>Mi m O ce H aw _ λy bn aF=>Mi m O ah H bn _ λz cA cS B B dM=>h _ _<|cF aD<|cF aF<|cF cS dM
 |.a5 f args,H,C,K,h=>sx m O args H C _ λl aw aD B B aF=>h _ _<|cF aD aF
 |.l3 f args,H,C,K,h=>sx m O args H C _ λl aw aD B B aF=>h _ _<|cF aD aF
 |.b1 e n args,H,C,K,h=>e7 m O e H C _ λx aw aD s aF=>by
  cases x with
  |L a=>
   have aF:Wp O.b1 n aw[a]? =some s:=aF;cases aA:aw[a]?with
   |none=>rw[aA]at aF;exact bj aF
   |some o=>
    rw[aA]at aF;cases o with
    |cO c F=>
     have aF:adj (F n) (O.b1 c n)=some s:=aF;cases ir:F n with
     |some v=>rw[ir]at aF;exact bj aF
     |none=>
      rw[ir]at aF;cases An:O.b1 c n with
      |none=>rw[An]at aF;exact bj aF
      |some f=>rw[An]at aF;cases aF;exact sx m O args H aw _ λl bn cS B B dM=>h _ _ (cF aD (by dsimp only;rw[aA];dsimp only;rw[ir,An];exact cF cS dM))
    |list l=>
     cases aF;exact sx m O args H aw _ λl bn cS B B dM=>h _ _ (cF aD (by dsimp only;rw[aA];exact cF cS<|(ai (adi a n l bn) aA).symm.trans dM))
    |dict l=>
     cases aF;exact sx m O args H aw _ λl bn cS B B dM=>h _ _ (cF aD (by dsimp only;rw[aA];exact cF cS<|(ai (adi a n l bn) aA).symm.trans dM))
  |_=>exact bj aF
 |.cw b e,H,C,K,h=>e7 m O e H C _ λx aw aD B B aF=>h _ _<|cF aD aF
 |.comp elt cL cf ifs,H,C,K,h=>h
 |.jX elt i cf ifs,H,C,K,h=>h
theorem sx(m:Bool)(O:ht):∀(ax:List b2) (H:bS) (C:St) (K:List I->St->Prop),(∀v S,iX O ax H C=some (v,S)->K v S)->sw m O ax H C K
 |[],H,C,K,h=>h _ _ rfl
 |e::ax,H,C,K,h=>e7 m O e H C _ λv aw aD=>sx m O ax H aw _ λl bn aF=>h _ _<|cF aD<|cF aF rfl
theorem Mi(m:Bool)(O:ht):∀(e:Option b2) (H:bS) (C:St) (K:Option I->St->Prop),(∀v S,vp O e H C=some (v,S)->K v S)->Fd m O e H C K
 |none,H,C,K,h=>h _ _ rfl
 |some e,H,C,K,h=>e7 m O e H C _ λv aw aD=>h _ _<|cF aD rfl
end
mutual
theorem A9(m:Bool)(O:ht):∀(s:dA) (H:bS) (C:St) (K:eG->bS->St->Prop),(∀c aU S,cr O s H C=some (c,aU,S)->K c aU S)->A8 m O s H C K
 |.assign cL e,H,C,K,h=>e7 m O e H C _ λv aw aD=>by
  cases cL with
  |aS i=>exact h _ _ _<|cF aD rfl
  |iV l=>exactλaU aF=>h _ _ _<|cF aD<|cF aF rfl
 |.setAttr o f e,H,C,K,h=>e7 m O e H C _ λv aw aD=>e7 m O o H aw _ λx bn aF s cS=>h _ _ _<|cF aD<|cF aF<|cF cS rfl
 |.setItem o i e,H,C,K,h=>e7 m O e H C _ λv aw aD=>e7 m O o H aw _ λx bn aF=>e7 m O i H bn _ λk cA cS s dM=>h _ _ _<|cF aD<|cF aF<|cF cS<|cF dM rfl
 |.tx i op e,H,C,K,h=>h
 |.rK o f op e,H,C,K,h=>h
 |.delItem o i,H,C,K,h=>e7 m O o H C _ λx aw aD=>e7 m O i H aw _ λk bn aF s cS=>h _ _ _<|cF aD<|cF aF<|cF cS rfl
 |.xl o i,H,C,K,h=>e7 m O o H C _ λx aw aD=>e7 m O i H aw _ λk bn aF s cS=>h _ _ _<|cF aD<|cF aF<|cF cS rfl
 |.ite c a b,H,C,K,h=>e7 m O c H C _ λx aw aD=>uw λt aF=>by
  have g:∀{c aU S},(if t=true then cG O a H aw else cG O b H aw)=some (c,aU,S)->K c aU S:=λe=>h _ _ _<|cF (cF aD<|cF aF rfl) e;cases t with
  |false=>exact wf m O b [] H aw _ λc aU S e=>g e
  |true=>exact wf m O a [] H aw _ λc aU S e=>g e
 |.gQ cL cf body,H,C,K,h=>h
 |.ip i cf body,H,C,K,h=>h
 |.pw c body,H,C,K,h=>h
 |.ret e,H,C,K,h=>e7 m O e H C _ λv aw aD=>h _ _ _<|cF aD rfl
 |.xm,H,C,K,h=>h _ _ _ rfl
 |.expr e,H,C,K,h=>e7 m O e H C _ λv aw aD=>h _ _ _<|cF aD rfl
 |.fA,H,C,K,h=>trivial
theorem wf(m:Bool)(O:ht):∀(ss:List dA) (dm:List Bool) (H:bS) (C:St) (K:eG->bS->St->Prop),(∀c aU S,cG O ss H C=some (c,aU,S)->K c aU S)->q8 m O ss dm H C K
 |[],dm,H,C,K,h=>h _ _ _ rfl
 |s::ss,dm,H,C,K,h=>by
  have key:∀Fe c aU S,cr O s H C=some (c,aU,S)->(match c with|.next=>q8 m O ss Fe aU S K|.ret v=>K (.ret v) aU S):=λFe c aU S aD=>by
   cases c with
   |next=>exact wf m O ss Fe aU S _ λc dr bn e=>h _ _ _<|cF aD e
   |ret v=>exact h _ _ _<|cF aD rfl
  cases dm with
  |nil=>exact A9 m O s H C _<|key _
  |cons b dm=>cases b with
   |true=>exact key dm
   |false=>exact A9 m O s H C _<|key _
end
def wg(m:Bool)(dm:List Bool)(d f:Nat)(args:List I)(C:St):Prop:=
 match lo[f]?with
 |some fn=>(match decide (args.length=fn.np)with
  |true=>q8 m (bk d) fn.body dm (ck args) C λc B S=>match c with
   |.ret v=>a0 a2 (d+1) f args C=some (v,S)
   |.next=>a0 a2 (d+1) f args C=some (.none,S)
  |false=>True)
 |none=>True
def Ba(m:Bool)(dm:List Bool)(d f:Nat)(args:List I)(C:St):wg m dm d f args C:=by
 delta wg;cases hf:lo[f]?with
 |none=>trivial
 |some fn=>
  obtain⟨np,hH,body⟩:=fn;dsimp only;cases an:decide (args.length=np)with
  |false=>trivial
  |true=>
   refine wf _ _ _ _ _ _ _ λc aU S e=> ?_;have g:=su (d:=d) (C:=C) hf<|dw an;cases c with
   |next=>exact g.trans<|V e rfl
   |ret v=>exact g.trans<|V e rfl
def go{f:Nat}{r:I×St}(k:wg true [] d f args C->a0 a2 (d+1) f args C=some r):a0 a2 (d+1) f args C=some r:=k<|Ba _ _ _ _ _ _
def p6{f:Nat}{r:I×St}(k:wg false [] d f args C->a0 a2 (d+1) f args C=some r):a0 a2 (d+1) f args C=some r:=k<|Ba _ _ _ _ _ _
def gj(dm:List Bool){f:Nat}{r:I×St}(k:wg true dm d f args C->a0 a2 (d+1) f args C=some r):a0 a2 (d+1) f args C=some r:=k<|Ba _ _ _ _ _ _
def q9(dm:List Bool){f:Nat}{r:I×St}(k:wg false dm d f args C->a0 a2 (d+1) f args C=some r):a0 a2 (d+1) f args C=some r:=k<|Ba _ _ _ _ _ _
section
def hp{r:eG×bS×St}(k:q8 true O ss [] H C (λc aU S=>cG O ss H C=some (c,aU,S))->cG O ss H C=some r):cG O ss H C=some r:=k<|wf _ _ _ _ _ _ _ λB B B h=>h
def eK{r:eG×bS×St}(k:q8 false O ss [] H C (λc aU S=>cG O ss H C=some (c,aU,S))->cG O ss H C=some r):cG O ss H C=some r:=k<|wf _ _ _ _ _ _ _ λB B B h=>h
def dk{s:dA}{r:eG×bS×St}(k:A8 true O s H C (λc aU S=>cr O s H C=some (c,aU,S))->cr O s H C=some r):cr O s H C=some r:=k<|A9 _ _ _ _ _ _ λB B B h=>h
def gy{s:dA}{r:eG×bS×St}(k:A8 false O s H C (λc aU S=>cr O s H C=some (c,aU,S))->cr O s H C=some r):cr O s H C=some r:=k<|A9 _ _ _ _ _ _ λB B B h=>h
def jk{e:b2}{r:I×St}(k:fe true O e H C (λv S=>bq O e H C=some (v,S))->bq O e H C=some r):bq O e H C=some r:=k<|e7 _ _ _ _ _ _ λB B h=>h
def i8{e:b2}{r:I×St}(k:fe false O e H C (λv S=>bq O e H C=some (v,S))->bq O e H C=some r):bq O e H C=some r:=k<|e7 _ _ _ _ _ _ λB B h=>h
def Mj{c:b2}{a b:List dA}{r:eG×bS×St}(h:jg O c H C=some (true,aw))(aj:cG O a H aw=some r):cr O (.ite c a b) H C=some r:=by show(jg O c H C).bind _=_;refine V h ?_;exact aj
def Bb{e:b2}{b:Bool}(h:bq O e H C=some (v,S))(aP:g4 S v=some b):jg O e H C=some (b,S):=by unfold jg;refine V h<|V (tZ _ _)<|V aP ?_;rfl
def Bc{e:b2}{r:Bool×St}(k:fe true O e H C (λv S=>q7 S v λb=>jg O e H C=some (b,S))->jg O e H C=some r):jg O e H C=some r:=k<|e7 _ _ _ _ _ _ λB B h=>uw λB ae=>Bb h ae
def Ff{e:b2}{r:Bool×St}(k:fe false O e H C (λv S=>q7 S v λb=>jg O e H C=some (b,S))->jg O e H C=some r):jg O e H C=some r:=k<|e7 _ _ _ _ _ _ λB B h=>uw λB ae=>Bb h ae
end
def dH{α:Type}{x:Option α}{a b:α}(h:x=some a)(e:a=b):x=some b:=e▸h
def gX{x:Option (I×St)}{a b:Bool}(h:x=some (.bool a,C))(e:a=b):x=some (.bool b,C):=e▸h
def gY{a b:Int}{t:Bool}(h:decide (a=b)=t):d0 C .eq (.int a) (.int b)=some t:=by exact V (A4 _ _ _)<|V h rfl
def kC{a b:Int}{t:Bool}(h:decide (a≠b)=t):d0 C .bw (.int a) (.int b)=some t:=by exact V (W0 _ _ _)<|V h rfl
def lH{a b:Int}{t:Bool}(h:decide (a<b)=t):d0 C .lt (.int a) (.int b)=some t:=by exact V (W2 _ _ _)<|V h rfl
def k8{a b:Int}{t:Bool}(h:decide (b<a)=t):d0 C .gt (.int a) (.int b)=some t:=by exact V (W3 _ _ _)<|V h rfl
def kc{a b:Int}{t:Bool}(h:decide (b<=a)=t):d0 C .ge (.int a) (.int b)=some t:=by exact V (W4 _ _ _)<|V h rfl
def ek{t:Bool}(h:l4 C x y=some t):d0 C .dU x y=some t:=h
def p7{i:Int}{t:Bool}(h:decide (i≠0)=t):g4 C (.int i)=some t:=by exact V (Md _ _)<|V h rfl
def hN{c f:Nat}{F:Nat->Option I}(h:C[a]? =some (.cO c F))(ir:F m=none)(hm:dD c m=some f):kB dD C m (.L a)=some (some f):=(ai (Wp dD m) h).trans<|congr (ai adj ir) hm
def lI(h:C[a]? =some (.list l)):kB dD C m (.L a)=some none:=ai (Wp dD m) h
def Fg{l:List (I×I)}(h:C[a]? =some (.dict l)):kB dD C m (.L a)=some none:=ai (Wp dD m) h
def lJ{r:I×St}(h:C[a]? =some (.list l))(aj:mH a m args S=some r):uv C m (.L a) args S=some r:=(ai (adi a m args S) h).trans aj
def Fh{l:List (I×I)}{r:I×St}(h:C[a]? =some (.dict l))(aj:qv a m args S=some r):uv C m (.L a) args S=some r:=(ai (adi a m args S) h).trans aj
section
variable{a b c e:b2}{z:I}{f D:Nat}{ax:List b2}
def fJ(h:H i=some v):bq O (.E i) H C=some (v,C):=ai (Option.map λv=>(v,C)) h
def lK:bq O (.bc v) H C=some (v,C):=rfl
def sy(Y:bq O a H C=some (x,aw))(ae:bq O b H aw=some (y,bn))(aj:fj bn x y=some v):bq O (.av a b) H C=some (v,bn):=cF Y<|cF ae<|ai (Option.map λv=>(v,bn)) aj
def Bd{r:Option (I×St)}(Y:bq O a H C=some (x,aw))(ae:bq O b H aw=some (y,bn))(aj:iF op x y bn=r):bq O (.b6 op a b) H C=r:=cF Y<|cF ae aj
def ux(h:bq O e H C=some (v,aw)):cr O (.assign (.aS i) e) H C=some (.next,ar H i v,aw):=cF h rfl
end
section
variable{T:List af}{r:af}
def Mk(X:ej C A T)(h:T[t]? =some r):a0 a2 (d+1) 23 [.L A.t,J t] C=some (.bool<|decide<|r.kind∈[2,3,4,5],C):=go λk=>k _ X.cJ _ (X.row h) _ cM _<|ek<|mT C r.kind [2,3,4,5]
end
end
section
def Fi(h:J a=J b):a=b:=k0<|I.int.inj h
noncomputable def nM:I->Nat
 |.int i=>i.toNat
 |_=>0
noncomputable def Fj:I->Str
 |.str s=>s
 |_=>""
noncomputable def Fk:I->List I
 |.ak l=>l
 |_=>[]
noncomputable def k9(v:I)(i:Nat):I:=(Fk v).getD i .none
noncomputable def Xd(v:I):ef:=⟨Fj<|k9 v 0,nM<|k9 v 1,nM<|k9 v 2,nM<|k9 v 3⟩
noncomputable def Ml(v:I):af:=match nM (k9 v 0)with
 |1=>.key<|Fj<|k9 v 1
 |2=>.bool (nM<|k9 v 1)<|nM<|k9 v 2
 |3=>.str (Fj<|k9 v 1)<|nM<|k9 v 2
 |4=>.num (nM<|k9 v 1)<|nM<|k9 v 2
 |6=>.dI<|(Fk<|k9 v 1).map nM
 |8=>.obj ((Fk<|k9 v 1).map Xd)<|nM<|k9 v 6
 |_=>.ref<|nM<|k9 v 1
def Mm{α:Type}{f:α->I}{g:I->α}(h:∀a,g (f a)=a)(l:List α):(l.map f).map g=l:=by
 induction l with
 |nil=>rfl
 |cons a l ay=>exact ui.mpr ⟨h a,ay⟩
def Mn(r:af):Ml r.b3=r:=by
 cases r with
 |dI ps=>exact ai af.dI<|Mm (λB=>rfl) ps
 |obj ps f=>exact ai (af.obj · f)<|Mm (λB=>rfl) ps
 |_=>rfl
def Fl{r q:af}(h:r.b3=q.b3):r=q:=(Mn r).symm.trans<|(ai Ml h).trans<|Mn q
noncomputable instance:DecidableEq af:=λB B=>decidable_of_iff _ ⟨Fl,ai af.b3⟩
noncomputable def lL(T:List af):List (I×I):=T.zipIdx.map λp=>(p.1.b3,J p.2)
def Xe{T:List af}{r:af}:∀{n k:Nat},T[n]? =some r->T.Nodup->((T.zipIdx k).map λp=>(p.1.b3,J p.2)).find? (λp=>decide<|p.1=r.b3)=some (r.b3,J<|k+n):=by
 induction T with
 |nil=>exactλh=>bj h
 |cons x T ay=>
  intro n k h aG;have aG:=hI aG;cases n with
  |zero=>exact br h▸vK (cj rfl)
  |succ n=>exact xj (co λq=>aG.1<|(Fl q:x=r)▸dL h)<|(ay h aG.2).trans<|ai (λj:Nat=>some (r.b3,J j))<|Nat.succ_add k n
def Xf{T:List af}{r:af}:∀{k:Nat},r∉T->((T.zipIdx k).map λp=>(p.1.b3,J p.2)).find? (λp=>decide<|p.1=r.b3)=none:=by
 induction T with
 |nil=>exactλB=>rfl
 |cons x T ay=>exactλh=>xj (co λq=>h<|(Fl q:x=r)▸bp)<|ay λq=>h<|bQ _ q
def Be{T:List af}{r:af}{n:Nat}(h:T[n]? =some r)(aG:T.Nodup):cD (lL T) r.b3=some (J n):=ai (Option.map Prod.snd)<|(Xe (k:=0) h aG).trans<|ai (λj:Nat=>some (r.b3,J j))<|ow n
def Fm{T:List af}{r:af}(h:r∉T):cD (lL T) r.b3=none:=ai (Option.map Prod.snd)<|Xf h
def Bf{T:List af}{k:I}(h:I.key k)(ag:nh k=2):e2 (lL T) k=true:=dJ h (nv.mpr λp ab=>let⟨q,_,e⟩:=e3 ab;e▸ag▸rfl)
noncomputable def iP(T:List af)(r:af):List af:=if r∈T then T else T++[r]
section
variable{T:List af}{r:af}
def wh{D:List (I×I)}{k:I}(h:C[a]? =some (.dict D))(ao:e2 D k):l4 C k (.L a)=some (cD D k).isSome:=by
 show(match C[a]?with
  |some (.list l)=>if I.key k&&I.iW l then some (decide<|k∈l)else none
  |some (.dict l)=>if e2 l k then some (cD l k).isSome else none
  |_=>none)=_
 exact V h<|bg ao
def Bg{D:List (I×I)}{k:I}(h:C[a]? =some (.dict D))(ao:e2 D k)(aR:cD D k=some v):fj C (.L a) k=some v:=by
 show(match C[a]?with
  |some (.list l)=>match k with|.int i=>(jY i l.length).bind (l[·]?)|_=>none
  |some (.dict l)=>if e2 l k then cD l k else none
  |_=>none)=_
 exact V h<|(bg ao).trans aR
def ej.Mo(X:ej C A T){k:I}(h:I.key k)(ag:nh k=2):l4 C k (.L<|A.t+2)=some (cD (lL T) k).isSome:=wh X.av<|Bf h ag
def Xg(X:ej C A T)(aG:T.Nodup)(ao:I.key r.b3)(h:T[t]? =some r):a0 a2 (d+1) 5 [.L A.t,r.b3] C=some (J t,C):=go λk=>k _ X.A6 _ (ek<|dH (X.Mo ao rfl)<|ai Option.isSome<|Be h aG) _ X.A6 _<|Bg X.av (Bf ao rfl)<|Be h aG
def Xh(T:List af):(lL T).length=T.length:=(c2 _).trans List.length_zipIdx
def Xi(h:r∉T):fB (lL T) r.b3 (J T.length)=lL (T++[r]):=by delta fB;exact V (Fm h)<|(ai (λj=>lL T++[(r.b3,J j)]) (ow _).symm).trans<|bu iI<|ai (List.map λ(p:af×Nat)=>(p.1.b3,J p.2)) (List.zipIdx_append (xs:=T) (ys:=[r]) (k:=0)).symm
def Fn(X:ej C A T)(ao:I.key r.b3)(h:r∉T)(an:T.length<16000000)(aq:∀S,a0 a2 (d+1) 5 [.L A.t,r.b3] C=some (J T.length,S)->ej S A (T++[r])->bx C S [A.t+1,A.t+2]->S.length=C.length->bY):bY:=by
 refine ut (v:=r.b3) X.lG (qB _) (V (c2 _) an) λaw aT u=> ?_;have e:=u.get X.av<|dd<|oY _;refine oX (v:=J T.length) e (qB _) (Bf ao rfl) (V (Xh T) an) λbn aJ w=> ?_;have bU:=(u.bU.ci (ns:=[A.t+1,A.t+2]) λB q=>pE.mpr<|(cR q).imp_right nofun).trans<|w.bU.ci λB=>bQ _;obtain⟨F,g6,gv,hK,ra⟩:=X.jI;refine aq bn (go λk=>k _ X.A6 _ (ek<|dH (X.Mo ao rfl)<|ai Option.isSome<|Fm h) _ X.cJ _ _ (nL X.lG) _ X.cJ _ (lI X.lG) _ _ (lJ X.lG aT) _ (kz (u.get g6<|dV<|oY _) rfl hK) _ aJ) ⟨X.pos,⟨F,bU.get g6<|mi (dV<|oY _)<|dV<|oy<|oY _,gv,hK,ra⟩,?_,?_⟩ bU<|w.len.trans u.len
 ·exact V iI<|w.get (u.i7 X.lG)<|dV<|oY _
 ·exact(w.i7 e).trans<|ai (λl=>some<|b5.dict l)<|Xi h
def Bh(X:ej C A T)(aG:T.Nodup)(ao:I.key r.b3)(an:T.length<16000000)(aq:∀t S,a0 a2 (d+1) 5 [.L A.t,r.b3] C=some (J t,S)->ej S A (iP T r)->bx C S [A.t+1,A.t+2]->(iP T r)[t]? =some r->S.length=C.length->bY):bY:=by
 delta iP at aq;by_cases h:r∈T
 ·obtain⟨t,aP⟩:=rb.mp h;rw[bg h]at aq;exact aq t C (Xg X aG ao aP) X (.refl _ _) aP rfl
 ·rw[bI h]at aq;exact Fn (d:=d) X ao h an λS Y ae ba cp=>aq _ _ Y ae ba List.getElem?_concat_length cp
end
end
section
noncomputable def dT(T:List af)(t:Nat):List Nat:=if t=2 then[]else match T[t]?with
 |some (.dI ps)=>ps
 |_=>[t]
noncomputable def eY:af->Int
 |.str B cq=>6
 |.num B cq=>7
 |_=> -1
noncomputable def af.bU:af->Option Nat
 |.bool B f=>some f
 |.str B f=>some f
 |.num B f=>some f
 |.obj B f=>some f
 |_=>none
noncomputable def af.d8(r:af):Bool:=decide<|r.bU=some 1
noncomputable def af.f3:af->af
 |.bool b B=>.bool b 0
 |.str s B=>.str s 0
 |.num n B=>.num n 0
 |.obj p B=>.obj p 0
 |r=>r
noncomputable def af.bc(r:af):Bool:=decide<|r.kind∈[2,3,4,5]
noncomputable def af.val(r:af):Bool:=decide<|r.kind∈[1,2,3,4,5]
def Mp(r:af)(gi:r.bU=none->decide (r.kind∈[2,3,4,5,8])=false->R)(dK:∀f,r.bU=some f->decide (r.kind∈[2,3,4,5,8])=true->R):R:=by
 cases r with
 |key s=>exact gi rfl rfl
 |dI ps=>exact gi rfl rfl
 |ref d=>exact gi rfl rfl
 |_=>exact dK _ rfl rfl
section
variable{r:af}{f:Nat}
def Bi(h:r.bU=some f):fj C r.b3 (.int<|-1)=some (J f):=by
 refine W6 ?_;cases r with
 |key s=>exact bj h
 |dI ps=>exact bj h
 |ref d=>exact bj h
 |_=>exact ai (λn=>some<|J n)<|br h
def Mq(h:r.bU=some f):nj r.b3 none (some<|.int<|-1) C=some (.ak (J r.kind::r.rest.dropLast),C):=by
 cases r with
 |key s=>exact bj h
 |dI ps=>exact bj h
 |ref d=>exact bj h
 |_=>rfl
def Mr{a b:List I}(h:a.length+b.length<=16000000):iF .add (.ak a) (.ak b) C=some (.ak<|a++b,C):=bg h
def Ms(h:r.bU=some f):iF .add (.ak (J r.kind::r.rest.dropLast)) (.ak [.int 0]) C=some (r.f3.b3,C):=by
 cases r with
 |key s=>exact bj h
 |dI ps=>exact bj h
 |ref d=>exact bj h
 |_=>exact Mr<|p0 rfl
def wi{o:Option Nat}(h:r.bU=o):r.d8=decide (o=some 1):=ai (λo=>decide<|o=some 1) h
end
section
variable{T:List af}{r:af}
def cY(h:a=b):d0 C .eq (J a) (J b)=some true:=gY (cj<|by exact V h rfl)
def bN(h:¬a=b):d0 C .eq (J a) (J b)=some false:=gY<|co λq=>h<|k0 q
def kd(h:¬a=b):d0 C .bw (J a) (J b)=some true:=kC<|cj λq=>h<|k0 q
def ke(h:a=b):d0 C .bw (J a) (J b)=some false:=kC (co λq=>q<|by exact V h rfl)
def yk(X:ej C A T)(h:T[t]? =some r):a0 a2 (d+1) 15 [.L A.t,J t] C=some (.ak<|(dT T t).map J,C):=by
 delta dT;by_cases ae:t=2
 ·exact V (bg ae)<|go λr=>r _<|cY (b:=2) ae
 ·refine V (bI ae)<|V h ?_;have yl:=λ(t9:¬r.kind=6)=>go (d:=d) (f:=15) (args:=[.L A.t,J t]) (C:=C) (r:=(.ak [J t],C)) λk=>k _ (bN (b:=2) ae) _ X.cJ _ (X.row h) _ cM _<|bN (b:=6) t9;cases r with
  |dI ps=>exact go λk=>k _ (bN (b:=2) ae) _ X.cJ _ (X.row h) _ cM _ (cY (b:=6) rfl) _ rfl
  |_=>exact yl nofun
def uy:a0 a2 (d+1) 16 [r.b3] C=some (.int<|eY r,C):=by refine V (su rfl rfl) ?_;cases r<;>rfl
def Bj(X:ej C A T)(h:T[t]? =some r):a0 a2 (d+1) 25 [.L A.t,J t] C=some (.bool r.d8,C):=by
 have mV:=ek<|mT C r.kind [2,3,4,5,8];refine Mp r (λhf ao=>gX (go λk=>k _ X.cJ _ (X.row h) _ cM _<|dH mV ao) (wi hf).symm) λf hf ao=> ?_;by_cases q:f=1
 ·exact gX (go λk=>k _ X.cJ _ (X.row h) _ cM _ (dH mV ao) _ (Bi hf) _<|cY (b:=1) q) ((wi hf).trans<|cj<|ai some q).symm
 ·exact gX (go λk=>k _ X.cJ _ (X.row h) _ cM _ (dH mV ao) _ (Bi hf) _<|bN (b:=1) q) ((wi hf).trans<|co λh=>q<|br h).symm
end
end
section
def Xj{l:List (I×I)}{k:I}(h:C[a]? =some (.dict l))(ao:e2 l k):qv a 3 [k,v] C=some ((cD l k).getD v,C):=by delta qv;exact V h<|bg ao
def Mt{l:List (I×I)}{k:I}(h:C[a]? =some (.dict l))(ao:e2 l k):qv a 3 [k] C=some ((cD l k).getD .none,C):=by delta qv;exact V h<|bg ao
def Mu{r:af}(h:I.key r.b3):I.key r.f3.b3:=by
 cases r with
 |str s f=>exact(show(I.hs 5 (.str s)&&true)=true from h)
 |obj p f=>exact(show(I.hs 5 (.ak<|p.map cm)&&true)=true from h)
 |bool b f=>rfl
 |num n f=>rfl
 |_=>exact h
noncomputable def sz(T:List af)(r:af):I:=if r.d8 then(cD (lL T) r.f3.b3).getD (.int<|-1)else .int (-1)
noncomputable def gH(gl:List Nat):List (I×I):=gl.map λn=>(J n,J 1)
noncomputable def kD(gl:List Nat)(i:Int):Bool:=decide (i∈gl.map λn:Nat=>(n:Int))
def Mv{i:Int}:(cD (gH gl)<|.int i).isSome=kD gl i:=by
 induction gl with
 |nil=>rfl
 |cons n gl ay=>
  by_cases h:(n:Int)=i
  ·exact(ai (λo=>(Option.map Prod.snd o).isSome)<|vK<|cj<|ai I.int h).trans (cj<|h▸bp).symm
  ·exact(ai (λo=>(Option.map Prod.snd o).isSome)<|xj (co λq=>h<|I.int.inj q) rfl).trans<|ay.trans<|decide_eq_decide.mpr ⟨bQ _,λq=>(cR q).resolve_left λq=>h q.symm⟩
def Fo{i:Int}:e2 (gH gl) (.int i)=true:=dJ rfl (nv.mpr λp ab=>let⟨q,_,e⟩:=e3 ab;e▸rfl)
def oZ{n:Nat}:kD gl (n:Int)=decide (n∈gl):=decide_eq_decide.mpr ⟨λq=>let⟨_,aj,e⟩:=e3 q;k0 e▸aj,λh=>i2 ⟨n,h,rfl⟩⟩
def sA{g:Nat}{i:Int}(h:C[g]? =some (.dict<|gH gl)):l4 C (.int i) (.L g)=some (kD gl i):=dH (wh h Fo) Mv
noncomputable def kE(gl:List Nat)(n:Nat):List Nat:=if n∈gl then gl else gl++[n]
def Xk{n:Nat}:fB (gH gl) (J n) (J 1)=gH (kE gl n):=by
 delta fB kE;refine V (Mv.trans oZ) ?_;by_cases hn:n∈gl
 ·exact V (cj hn)<|V (bg hn)<|jC.trans<|tM λm B=>ite_self _
 ·exact V (co hn)<|V (bI hn) (iI (l₁:=gl) (l₂:=[n]) (f:=λn=>(J n,J 1))).symm
def Fp{n:Nat}:m∈kE gl n↔m∈gl\/m=n:=by
 delta kE;by_cases h:n∈gl
 ·exact V (bg h) ⟨.inl,λq=>q.elim id λq=>q▸h⟩
 ·exact V (bI h)<|qz.trans<|or_congr_right tQ
def Fq{n:Nat}(aG:gl.Nodup):(kE gl n).Nodup:=by
 delta kE;by_cases h:n∈gl
 ·exact V (bg h) aG
 ·exact V (bI h)<|kU.mpr ⟨aG,p8 ⟨nofun,.nil⟩,λa aT b aj q=>h<|bT aj▸q▸aT⟩
def ym{n:Nat}:(kE gl n).length<=gl.length+1:=by unfold kE;split<;>simp
section
variable{T:List af}{r:af}
def Fr(h:r.d8=false):sz T r=.int (-1):=bI λq=>b8<|bu h q
def Xl(X:ej C A T)(qI:I.key r.b3)(h:T[t]? =some r):a0 a2 (d+1) 17 [.L A.t,J t] C=some (sz T r,C):=by
 have mV:=ek<|mT C r.kind [2,3,4,5,8];refine Mp r (λhf ao=>V (Fr<|wi hf)<|go λk=>k _ X.cJ _ (X.row h) _ cM _<|dH mV ao) λf hf ao=> ?_;by_cases q:f=1
 ·exact V (show sz T r=(cD (lL T) r.f3.b3).getD (.int<|-1)from bg<|(wi hf).trans<|cj<|ai some q)<|go λk=>k _ X.cJ _ (X.row h) _ cM _ (dH mV ao) _ (Bi hf) _ (cY (b:=1) q) _ X.A6 _ (Fg X.av) _ _ (Mq hf) _ _ (Ms hf) _ _<|Fh X.av<|Xj (v:=.int<|-1) X.av<|Bf (T:=T) (Mu qI) rfl
 ·exact V (Fr<|(wi hf).trans<|co λh=>q<|br h)<|go λk=>k _ X.cJ _ (X.row h) _ cM _ (dH mV ao) _ (Bi hf) _<|bN (b:=1) q
noncomputable def mW(T:List af)(gl:List Nat)(r:af):Bool:=(match sz T r with
 |.int i=> !kD gl i
 |_=>true)&& !kD gl (eY r)
def Xm(T:List af)(r:af)(k:∀i:Int,sz T r=.int i->R):R:=by
 cases hf:r.d8 with
 |false=>exact k _<|Fr hf
 |true=>
  have e:sz T r=(((lL T).find? λp=>decide<|p.1=r.f3.b3).map Prod.snd).getD (.int<|-1):=bg hf;cases aC:(lL T).find? (λp=>decide<|p.1=r.f3.b3)with
  |none=>exact k _<|e.trans<|ai (λo=>(Option.map Prod.snd o).getD<|.int<|-1) aC
  |some p=>obtain⟨q,B,rfl⟩:=e3<|List.mem_of_find?_eq_some aC;exact k _<|e.trans<|ai (λo=>(Option.map Prod.snd o).getD<|.int<|-1) aC
def Xn{g:Nat}(X:ej C A T)(qI:I.key r.b3)(h:T[t]? =some r)(bB:C[g]? =some (.dict<|gH gl)):
  a0 a2 (d+2) 19 [.L A.t,.L g,J t] C=some (.bool<|mW T gl r,C):=by
 refine Xm T r λi ah=> ?_;have Y:=eF ah (P:=λv=>a0 a2 (d+1) 17 [.L A.t,J t] C=some (v,C))<|Xl X qI h;delta mW;refine V ah ?_;show _=some (I.bool<|!kD gl i&& !kD gl (eY r),C);cases dp:kD gl i with
 |true=>exact go λk=>k _ _ Y _<|dH (ek<|sA bB) dp
 |false=>exact go λk=>k _ _ Y _ (dH (ek<|sA bB) dp) _ X.cJ _ (X.row h) _ _ uy _ (ai (Option.map (!·))<|sA bB)
noncomputable def fT(gl:List Nat):Int:=if 0∈gl then 0 else if 13∈gl then 13 else if 1∈gl then 1 else-1
def lM{body:List dA}{r:eG×bS×St}(Y:bq O cf H C=some (.ak l,C))(ae:fX (λB=>true) (λx H s=>cG O body (ar H i x) s) l H C=some r):cr O (.gQ (.aS i) cf body) H C=some r:=by refine V (A2 (l:=l) (iv:=none) Y rfl) ?_;exact ae
def wj{body:List dA}{z:I}{r:Option (eG×bS×St)}(Y:bq O cf H C=some (z,aw))(ae:nk aw z=some (l,iv))(h:fX (λs=>hg s iv l) (λx H s=>(gq cL x H).bind λcg=>cG O body cg s) l H aw=r):cr O (.gQ cL cf body) H C=r:=(A2 Y ae).trans h
def eT{de:I->bS->St->Option (eG×bS×St)}{r:eG×bS×St}(h:en C)(aP:de x H C=some (.next,cg,aw))(aH:fX en de xs cg aw=some r):fX en de (x::xs) H C=some r:=by exact V (WZ h aP)<|V aH rfl
def Bk{g:Nat}(bB:C[g]? =some (.dict<|gH gl)):a0 a2 (d+1) 20 [.L g] C=some (.int<|fT gl,C):=by
 have e:∀{n:Nat},n∈gl->d0 C .dU (J n) (.L g)=some true:=λh=>dH (sA bB)<|oZ.trans<|cj h;have n:∀{n:Nat},¬n∈gl->d0 C .dU (J n) (.L g)=some false:=λh=>dH (sA bB)<|oZ.trans<|co h;delta fT;by_cases h0:0∈gl
 ·exact V (bg h0)<|go λr=>r _ _ _<|lM rfl<|mS rfl<|hp λr=>r _<|e h0
 ·refine V (bI h0) ?_;by_cases ka:13∈gl
  ·exact V (bg ka)<|go λr=>r _ _ _<|lM rfl<|eT rfl (hp λr=>r _<|n h0)<|mS rfl<|hp λr=>r _<|e ka
  ·refine V (bI ka) ?_;by_cases Y:1∈gl
   ·exact V (bg Y)<|go λr=>r _ _ _<|lM rfl<|eT rfl (hp λr=>r _<|n h0)<|eT rfl (hp λr=>r _<|n ka)<|mS rfl<|hp λr=>r _<|e Y
   ·exact V (bI Y)<|go λr=>r _ _ _<|lM rfl<|eT rfl (hp λr=>r _<|n h0)<|eT rfl (hp λr=>r _<|n ka)<|eT rfl (hp λr=>r _<|n Y)<|wc rfl
noncomputable def f5(gl:List Nat):List Nat:=if(8∈gl\/14∈gl)/\(9∈gl\/15∈gl)then kE (kE gl 8) 9 else gl
end
end
section
def p9{g:Nat}(bB:C[g]? =some (.dict<|gH gl)){n:Nat}(h:n∈gl):d0 C .dU (J n) (.L g)=some true:=dH (sA bB)<|oZ.trans<|cj h
def o0{g:Nat}(bB:C[g]? =some (.dict<|gH gl)){n:Nat}(h:¬n∈gl):d0 C .dU (J n) (.L g)=some false:=dH (sA bB)<|oZ.trans<|co h
def Xo(gl:List Nat):(gH gl).length=gl.length:=c2 _
section
variable{T:List af}{r:af}
def Fs{g n:Nat}(bB:C[g]? =some (.dict<|gH gl))(h0:g≠0)(an:gl.length<1001)(k:∀S,pA C (J n) (J 1) (.L g)=some S->S[g]? =some (.dict<|gH<|kE gl n)->bx C S [g]->S.length=C.length->R):R:=oX bB h0 Fo (V (Xo gl)<|ec an<|by decide) λS e u=>k S e ((u.i7 bB).trans<|ai (λD=>some<|b5.dict D) Xk) u.bU u.len
def Xp{g:Nat}(bB:C[g]? =some (.dict<|gH gl))(h0:g≠0)(an:gl.length<1000)(aq:∀S,a0 a2 (d+1) 18 [.L g] C=some (.none,S)->S[g]? =some (.dict<|gH<|f5 gl)->bx C S [g]->S.length=C.length->bY):bY:=by
 delta f5 at aq;by_cases aT:8∈gl\/14∈gl
 ·by_cases aj:9∈gl\/15∈gl
  ·refine Fs (n:=8) bB h0 (oy an) λaw be g1 f1 dW=>Fs (n:=9) g1 h0 (c1 ym<|tX an) λbn bF bd f2 d3=>aq bn ?_ (V (bg ⟨aT,aj⟩) bd) (f1.trans f2)<|d3.trans dW;by_cases iL:8∈gl
   ·by_cases gw:9∈gl
    ·exact go λr=>r _ (p9 bB iL) _ (p9 bB gw) _ be _ bF
    ·exact go λr=>r _ (p9 bB iL) _ (o0 bB gw) _ (p9 bB<|aj.resolve_left gw) _ be _ bF
   ·by_cases gw:9∈gl
    ·exact go λr=>r _ (o0 bB iL) _ (p9 bB<|aT.resolve_left iL) _ (p9 bB gw) _ be _ bF
    ·exact go λr=>r _ (o0 bB iL) _ (p9 bB<|aT.resolve_left iL) _ (o0 bB gw) _ (p9 bB<|aj.resolve_left gw) _ be _ bF
  ·refine aq C ?_ (V (bI λq=>aj q.2) bB) (.refl _ _) rfl;by_cases iL:8∈gl
   ·exact go λr=>r _ (p9 bB iL) _ (o0 bB λq=>aj<|.inl q) _<|o0 bB λq=>aj<|.inr q
   ·exact go λr=>r _ (o0 bB iL) _ (p9 bB<|aT.resolve_left iL) _ (o0 bB λq=>aj<|.inl q) _<|o0 bB λq=>aj<|.inr q
 ·exact aq C (go λr=>r _ (o0 bB λq=>aT<|.inl q) _<|o0 bB λq=>aT<|.inr q) (V (bI λq=>aT q.1) bB) (.refl _ _) rfl
def Xq{g:Nat}(h0:g≠0)(c8:List Nat):∀{gl:List Nat} {H:bS} {C:St},H 2=some (.L g)->C[g]? =some (.dict<|gH gl)->gl.length+c8.length<1000->(∀aU S,fX (λB=>true) (λx H s=>(gq (.aS 4) x H).bind λcg=>cG O [.setItem (.E 2) (.E 4)<|U 1] cg s) (c8.map J) H C=some (.next,aU,S)->(∀i,i≠4->aU i=H i)->S[g]? =some (.dict<|gH<|c8.foldl kE gl)->bx C S [g]->S.length=C.length->bY)->bY:=by
 induction c8 with
 |nil=>exactλae bB an aq=>aq _ _ rfl (λB B=>rfl) bB (.refl _ _) rfl
 |cons q c8 ay=>intro gl H C ae bB an aq;refine Fs (n:=q) bB h0 (pJ<|hj<|c1 (cT _ _) an) λaw aJ g1 f1 dW=> ?_;exact ay (H:=ar H 4<|J q) ae g1 (c1 (a3 (fm ym _)<|cP<|vI _ _) an) λaU S aD aF cS dM j2=>aq aU S (eT rfl (eK λr=>r _ ae _ rfl _ aJ) aD) (λi ah=>(aF i ah).trans<|p4 _ _ ah) cS (f1.trans dM)<|j2.trans dW
noncomputable def sB(T:List af)(ts:List Nat)(gl:List Nat):List Nat:=ts.foldl (λgl t=>(dT T t).foldl kE gl) gl
noncomputable def wk(T:List af)(ts:List Nat):Nat:=(ts.map λt=>(dT T t).length).sum
def Mw(c8:List Nat):∀{gl:List Nat},(c8.foldl kE gl).length<=gl.length+c8.length:=by
 induction c8 with
 |nil=>exact gF _
 |cons q c8 ay=>exact a3 ay<|a3 (fm ym _)<|cP<|vI _ _
def Xr{p:Nat}:∀{gl:List Nat},p∈c8.foldl kE gl↔p∈gl\/p∈c8:=by
 induction c8 with
 |nil=>exact⟨.inl,λq=>q.resolve_right b4⟩
 |cons q c8 ay=>exact ay.trans<|(or_congr_left Fp).trans<|or_assoc.trans<|or_congr_right pE.symm
def Xs:∀{gl:List Nat},gl.Nodup->(c8.foldl kE gl).Nodup:=by
 induction c8 with
 |nil=>exact id
 |cons q c8 ay=>exactλh=>ay<|Fq h
def Ft{p:Nat}:∀{gl:List Nat},p∈sB T ts gl↔p∈gl\/∃t∈ts,p∈dT T t:=by
 induction ts with
 |nil=>exact⟨.inl,λq=>q.resolve_right λ⟨B,h,cq⟩=>b4 h⟩
 |cons t ts ay=>exact ay.trans<|(or_congr_left Xr).trans<|or_assoc.trans<|or_congr_right ⟨λq=>q.elim (λh=>⟨t,bp,h⟩) λ⟨x,h,k⟩=>⟨x,bQ _ h,k⟩,λ⟨x,h,k⟩=>(cR h).elim (λe=>.inl<|e▸k) λh=>.inr ⟨x,h,k⟩⟩
def Xu:∀{gl:List Nat},gl.Nodup->(sB T ts gl).Nodup:=by
 induction ts with
 |nil=>exact id
 |cons t ts ay=>exactλh=>ay<|Xs h
def Xv(ts:List Nat):∀gl:List Nat,(sB T ts gl).length<=gl.length+wk T ts:=by
 induction ts with
 |nil=>exactλgl=>gF _
 |cons t ts ay=>exactλgl=>a3 (ay _)<|a3 (fm (Mw _) _)<|cP<|i0 _ _ _
def Xw{g:Nat}{cf:Option Nat}{items:List I}(dp:A.t+2<g)(ts:List Nat):∀{gl:List Nat} {H:bS} {C:St},ej C A T->H 0=some (.L A.t)->H 2=some (.L g)->C[g]? =some (.dict<|gH gl)->gl.length+wk T ts<1000->(∀t∈ts,(T[t]?).isSome=true)->(∀s:St,bx C s [g]->hg s cf items)->
  (∀aU S,fX (λs=>hg s cf items) (λx H s=>(gq (.aS 3) x H).bind λcg=>cG (bk<|d+1) [.gQ (.aS 4) (.a5 15 [(.E 0),(.E 3)]) [.setItem (.E 2) (.E 4)<|U 1]] cg s) (ts.map J) H C=some (.next,aU,S)->(∀i,i≠4->i≠3->aU i=H i)->S[g]? =some (.dict<|gH<|sB T ts gl)->bx C S [g]->S.length=C.length->bY)->bY:=by
 induction ts with
 |nil=>exactλX fM bf bB an aR hJ aq=>aq _ _ (wc<|hJ _<|.refl _ _) (λB B B=>rfl) bB (.refl _ _) rfl
 |cons t ts ay=>intro gl H C X fM bf bB an aR hJ aq;obtain⟨r,aH⟩:=hT<|aR t bp;have an:gl.length+(dT T t).length+wk T ts<1000:=c1 (cP<|i0 _ _ _) an;refine Xq (O:=bk<|d+1) (dd<|lN dp) (dT T t) (H:=ar H 3<|J t) bf bB (c1 (cT _ _) an) λcg aw p3 nI uo nJ A1=> ?_;exact ay (X.keep nJ λa B h=>fv<|dV<|c1 h dp) ((nI 0<|by decide).trans fM) ((nI 2<|by decide).trans bf) uo (c1 (fm (Mw _) _) an) (λt aP=>aR t<|bQ _ aP) (λs aJ=>hJ s<|nJ.trans aJ) λdr bn fF hu mX Fu Xx=>aq dr bn (eT (hJ C<|.refl _ _) (oV<|lM (i8 λk=>k _ fM _ rfl _ _<|yk X aH) p3) fF) (λi cp ba=>(hu i cp ba).trans<|(nI i cp).trans<|p4 _ _ ba) mX (nJ.trans Fu)<|Xx.trans A1
noncomputable def kf(x:Nat):List Nat->List Nat
 |[]=>[x]
 |y::r=>if x<=y then x::y::r else y::kf x r
noncomputable def la:List Nat->List Nat
 |[]=>[]
 |x::r=>kf x<|la r
def Xy{x:Nat}{l:List Nat}:qu (x:Int) (l.map λn:Nat=>(n:Int))=(kf x l).map λn:Nat=>(n:Int):=by
 induction l with
 |nil=>rfl
 |cons y l ay=>
  by_cases h:x<=y
  ·exact V (show kf x (y::l)=x::y::l from bg h)<|bg<|Int.ofNat_le.mpr h
  ·exact V (show kf x (y::l)=y::kf x l from bI h)<|(bI λq=>h<|Int.ofNat_le.mp q).trans<|ai _ ay
def Xz{l:List Nat}:vo (l.map λn:Nat=>(n:Int))=(la l).map λn:Nat=>(n:Int):=by
 induction l with
 |nil=>rfl
 |cons x l ay=>exact(ai _ ay).trans Xy
def Mx{x y:Nat}{l:List Nat}:y∈kf x l↔y=x\/y∈l:=by
 induction l with
 |nil=>exact pE
 |cons z l ay=>
  by_cases h:x<=z
  ·exact V (show kf x (z::l)=x::z::l from bg h) pE
  ·exact V (show kf x (z::l)=z::kf x l from bI h)<|pE.trans<|(or_congr_right ay).trans<|or_left_comm.trans<|or_congr_right pE.symm
def uz{y:Nat}{l:List Nat}:y∈la l↔y∈l:=by
 induction l with
 |nil=>exact Iff.rfl
 |cons x l ay=>exact Mx.trans<|(or_congr_right ay).trans pE.symm
def XA{x:Nat}{l:List Nat}:x∉l->l.Nodup->(kf x l).Nodup:=by
 induction l with
 |nil=>exactλB B=>p8 ⟨b4,.nil⟩
 |cons z l ay=>
  intro ac aG;by_cases h:x<=z
  ·exact V (show kf x (z::l)=x::z::l from bg h)<|p8 ⟨ac,aG⟩
  ·exact V (show kf x (z::l)=z::kf x l from bI h)<|p8 ⟨λq=>(Mx.mp q).elim (λe=>ac<|e▸bp) (hI aG).1,ay (λq=>ac<|bQ _ q) (hI aG).2⟩
def XB{l:List Nat}:l.Nodup->(la l).Nodup:=by
 induction l with
 |nil=>exact id
 |cons x l ay=>exactλh=>XA (λq=>(hI h).1<|uz.mp q)<|ay (hI h).2
def XC{x:Nat}{l:List Nat}:(kf x l).length=l.length+1:=by
 induction l with
 |nil=>rfl
 |cons z l ay=>
  by_cases h:x<=z
  ·exact V (show kf x (z::l)=x::z::l from bg h) rfl
  ·exact V (show kf x (z::l)=z::kf x l from bI h)<|ai Nat.succ ay
def My{l:List Nat}:(la l).length=l.length:=by
 induction l with
 |nil=>rfl
 |cons x l ay=>exact XC.trans<|ai Nat.succ ay
def XD(l:List Nat):xo (l.map J)=some (l.map λn:Nat=>(n:Int)):=by
 induction l with
 |nil=>rfl
 |cons x l ay=>exact ai (Option.map _) ay
def XE{g:Nat}(bB:C[g]? =some (.dict<|gH gl))(an:gl.length<64):kS .sorted (.L g) C=some (.L C.length,C++[.list<|(la gl).map J]):=by
 have e:tz ((gH gl).map Prod.fst)=some ((la gl).map J):=by rw[show(gH gl).map Prod.fst=gl.map J from jC];delta tz;exact(bg<|V (c2 _) an).trans<|V (XD _)<|ai some<|(ai _ Xz).trans jC
 show(match C[g]?with
  |some (b5.dict l)=>(tz<|l.map Prod.fst).map λr=>(I.L C.length,C++[b5.list r])
  |_=>none)=_
 exact V bB<|ai (Option.map λr=>(I.L C.length,C++[b5.list r])) e
def sC{de:I->St->Option (Option I×St)}{y:Option I}(ag:en C)(aP:de x C=some (y,aw))(h:iq en de xs aw=some (ys,bn)):iq en de (x::xs) C=some (y.toList++ys,bn):=by show(if en C then _ else _)=_;refine(bg ag).trans<|V aP ?_;show(match iq en de xs aw with|none=>none|some (ys,bn)=>some (y.toList++ys,bn))=_;exact V h rfl
def sD{de:I->St->Option (Option I×St)}(ag:en C)(aP:de x C=some (some v,aw))(h:iq en de xs aw=some (ys,bn)):iq en de (x::xs) C=some (v::ys,bn):=sC ag aP h
def XF{de:I->St->Option (Option I×St)}{p:Nat->Bool}(ag:en C)(xs:List Nat):(∀x∈xs,de (J x) C=some (if p x then some (J x)else none,C))->iq en de (xs.map J) C=some ((xs.filter p).map J,C):=by
 induction xs with
 |nil=>exactλB=>bg ag
 |cons x xs ay=>
  intro h;refine(sC ag (h x bp)<|ay λy a8=>h y<|bQ _ a8).trans<|ai (λl=>some (l,C)) ?_;cases ab:p x with
  |true=>exact V (xD ab) rfl
  |false=>exact V (vA λq=>b8<|bu ab q) rfl
end
end
section
def Fv(C:St)(x:I)(ts:List Nat):Prop:=x=.ak (ts.map J)\/∃a,x=.L a/\C[a]? =some (.list<|ts.map J)
noncomputable def dq(T:List af)(ts:List Nat):List Nat:=sB T ts []
noncomputable def d5(T:List af)(ts:List Nat):List Nat:=(la<|f5<|dq T ts).filter λn=>match T[n]?with
 |some r=>mW T (f5<|dq T ts) r
 |none=>false
noncomputable def hO(T:List af)(ts:List Nat):List af:=if 0<=fT (dq T ts)then T else if 2<=(d5 T ts).length then iP T (.dI<|d5 T ts)else T
structure wl(T:List af)(ts:List Nat)(u:Nat):Prop where
 top:0<=fT (dq T ts)->(u:Int)=fT (dq T ts)
 none:fT (dq T ts)<0->d5 T ts=[]->u=2
 aS:fT (dq T ts)<0->∀x,d5 T ts=[x]->u=x
 iV:fT (dq T ts)<0->2<=(d5 T ts).length->(hO T ts)[u]? =some (.dI<|d5 T ts)
def Bl{n:Nat}(l:List Nat):I.gR n (l.map J)=true:=(ai (I.gR n) (jC (g:=I.int) (f:=λn:Nat=>(n:Int)) (l:=l)).symm).trans<|A5 n _
def XG(gl:List Nat):(f5 gl).length<=gl.length+2:=by
 delta f5;by_cases h:(8∈gl\/14∈gl)/\(9∈gl\/15∈gl)
 ·exact V (bg h)<|a3 ym<|kX ym
 ·exact V (bI h)<|cT _ _
def XH(aG:gl.Nodup):(f5 gl).Nodup:=by
 delta f5;by_cases h:(8∈gl\/14∈gl)/\(9∈gl\/15∈gl)
 ·exact V (bg h)<|Fq<|Fq aG
 ·exact V (bI h) aG
def wm{p:Nat}:p∈f5 gl↔p∈gl\/((p=8\/p=9)/\(8∈gl\/14∈gl)/\(9∈gl\/15∈gl)):=by
 delta f5;by_cases h:(8∈gl\/14∈gl)/\(9∈gl\/15∈gl)
 ·exact V (bg h)<|Fp.trans<|(or_congr_left Fp).trans<|or_assoc.trans<|or_congr_right ⟨λq=>⟨q,h⟩,And.left⟩
 ·exact V (bI h) ⟨.inl,λq=>q.elim id λq=>absurd q.2 h⟩
def Mz(gl:List Nat):fT gl=0\/fT gl=13\/fT gl=1\/fT gl= -1:=by
 delta fT;by_cases h0:0∈gl
 ·exact .inl<|bg h0
 ·refine .inr<|V (bI h0) ?_;by_cases Y:13∈gl
  ·exact .inl<|bg Y
  ·refine .inr<|V (bI Y) ?_;by_cases ae:1∈gl
   ·exact .inl<|bg ae
   ·exact .inr<|bI ae
section
variable{T:List af}{r:af}
def rc{z:I}(Y:bq O cf H C=some (z,aw))(ae:nk aw z=some (l,iv))(ba:iq (λs=>hg s iv l) (λx s=>(gq cL x H).bind λcg=>(gr O ifs cg s).bind λq=>if q.1 then(bq O elt cg q.2).bind λu=>some (some u.1,u.2)else some (none,q.2)) l aw=some (ys,bn)):
  bq O (.comp elt cL cf ifs) H C=some (.L bn.length,bn++[.list ys]):=cF Y<|cF ae<|cF ba rfl
def lO(h:C[a]? =some (.list l)):nk C (.L a)=some (l,some a):=by show(match C[a]?with|some (.list l)=>some (l,some a)|_=>none)=_;exact V h rfl
def iw(h:C[a]? =some (.list l)):hg C (some a) l=true:=by show(match C[a]?with|some (.list m)=>decide (m=l)|_=>false)=_;exact V h<|cj rfl
def uA(h:C[a]? =some (.list l)):g4 C (.L a)=some (!l.isEmpty):=by show(match C[a]?with|some (.list l)=>some (!l.isEmpty)|_=>none)=_;exact V h rfl
def yn(h:C[a]? =some (.list l)):kS .tuple (.L a) C=some (.ak l,C):=by show(match C[a]?with|some (.list l)=>some (I.ak l,C)|_=>none)=_;exact V h rfl
def ea{l:List b5}:(C++o::l)[C.length]? =some o:=(wn<|gF _).trans<|V (Nat.sub_self _) rfl
def MA{e:b2}{b:Bool}(h:bq O e H C=some (.bool b,aw)):gr O [e] H C=some (b,aw):=cF h (by cases b<;>rfl)
def MB{e:b2}{b:Bool}(h:bq O e (ar H i x) C=some (.bool b,C)):
  ((gq (.aS i) x H).bind λcg=>(gr O [e] cg C).bind λq=>if q.1 then(bq O (.E i) cg q.2).bind λu=>some (some u.1,u.2)else some (none,q.2))=some (if b then some x else none,C):=
 cF (x:=gq (.aS i) x H) rfl (cF (MA h) (by cases b;exact rfl;exact cF (ai (Option.map _)<|A3 _ _ _) rfl))
def XI(ac:Fv C x ts)(k:∀iv,nk (C++[o]) x=some (ts.map J,iv)->(∀s:St,bx (C++[o]) s [C.length]->hg s iv (ts.map J)=true)->R):R:=ac.elim (λe=>k none (e▸rfl) λB B=>rfl) λ⟨a,e,aT⟩=>have h:=(bx.push C [o] []).get aT b4;k (some a) (e▸lO h) λs aJ=>iw<|aJ.get h<|fv<|dV<|fc aT
def MC(X:ej C A T)(aG:T.Nodup)(qI:∀r∈T,I.key r.b3)(hlen:T.length<16000000)(ac:Fv C x ts)(aR:∀t∈ts,(T[t]?).isSome=true)(XJ:∀t∈ts,∀p∈dT T t,(T[p]?).isSome=true)(iL:(T[8]?).isSome=true)(gw:(T[9]?).isSome=true)(an:wk T ts<60)(aq:∀u S,a0 a2 (d+3) 21 [.L A.t,x] C=some (J u,S)->ej S A (hO T ts)->bx C S [A.t+1,A.t+2]->wl T ts u->bY):bY:=by
 have MD:(dq T ts).length<60:=c1 (a3 (Xv ts [])<|cP<|ow _) an;have f1:bx C (C++[.dict []]) []:=bx.push _ _ _;have dB:=X.keep f1 λB B B h=>nomatch h;have Fw:∀a,A.t<=a->a<=A.t+2->a∉[C.length]:=λa B h=>fv<|dV<|c1 h X.lt;have own:∀{s aY:St},bx C s []->bx s aY [C.length]->bx C aY []:=λf g=>⟨a3 f.len g.len,λa aT B=>(g.same a (c7 aT f.len)<|fv<|dV aT).trans<|f.same a aT b4⟩;refine XI (o:=.dict []) ac λiv hit hJ=> ?_;refine Xw (d:=d+1) X.lt ts (gl:=[]) (H:=ar (ck [.L A.t,x]) 2<|.L C.length) dB rfl rfl ea (c1 (cP<|ow _)<|ec an<|by decide) aR hJ λdr bn p3 nI bB nJ A1=> ?_;change bn[C.length]? =some (.dict<|gH<|dq T ts)at bB;have fM:=nI 0 (by decide) (by decide);have bf:=nI 2 (by decide) (by decide);have bF:=(A2 (O:=bk<|d+2) (cL:=.aS 3) (H:=ar (ck [.L A.t,x]) 2<|.L C.length) (cf:=.E 1) rfl hit).trans p3;by_cases mY:0<=fT (dq T ts)
 ·obtain⟨n,hn⟩:=xI mY;exact aq n bn (dH (p6 λk=>k _ _ _ bF _ bf _ _ (Bk bB) _ rfl _ (kc<|cj mY) _ rfl)<|ai (λi=>(I.int i,bn)) hn) (V (show hO T ts=T from bg mY)<|dB.keep nJ Fw) ((own f1 nJ).ci nofun) ⟨λB=>hn.symm,λh=>absurd mY<|pG.mpr h,λh=>absurd mY<|pG.mpr h,λh=>absurd mY<|pG.mpr h⟩
 refine Xp (d:=d+1) bB (dd<|lN X.lt) (ec MD<|by decide) λcA Fx ME MF Fy=> ?_;have MG:(la<|f5<|dq T ts).length<64:=V My (c1 (XG _)<|ec (Nat.add_lt_add_right MD 2)<|by decide);have hl:=own (own f1 nJ) MF;have f4:=bx.push cA [.list<|(la<|f5<|dq T ts).map J] [];have f6:=((dB.keep nJ Fw).keep MF Fw).keep f4 λB B B h=>nomatch h;have XK:=f4.get ME b4;have ag:=rc (O:=bk<|d+2) (elt:=.E 17) (cf:=.cw .sorted<|.E 2) (cL:=.aS 17) (ifs:=[(.a5 19 [(.E 0),(.E 2),(.E 17)])]) (H:=ar dr 5<|.int<|fT<|dq T ts) (i8 λk=>k _ bf _ _<|XE ME<|eF My MG) (lO ea)
  (XF (p:=λn=>match T[n]?with
   |some r=>mW T (f5<|dq T ts) r
   |none=>false) (iw ea) _ λq aC=>by
   obtain⟨sE,Fz⟩:=hT ((wm.mp (uz.mp aC)).elim (λh=>(Ft.mp h).elim (λh=>absurd h b4) λ⟨t,aP,mZ⟩=>XJ t aP q mZ) λh=>h.1.elim (λe=>e▸iL) λe=>e▸gw);exact V Fz (MB (i8 λk=>k _ fM _ bf _ rfl _ _ (Xn f6 (qI sE (dL Fz)) Fz XK))))
 have ky:=bx.push (cA++[.list<|(la<|f5<|dq T ts).map J]) [.list<|(d5 T ts).map J] [];have jJ:=f6.keep ky λB B B h=>nomatch h;have bU:=(hl.trans f4).trans ky;have qa:=ea (C:=cA++[.list<|(la<|f5<|dq T ts).map J]) (o:=.list<|(d5 T ts).map J) (l:=[]);have j2:(cA++[b5.list<|(la<|f5<|dq T ts).map J]).length=cA.length+1:=er;have wo:hO T ts=if 2<=(d5 T ts).length then iP T (.dI<|d5 T ts)else T:=bI mY
 change bq _ _ _ _=some (.L _,_++[.list<|(d5 T ts).map J])at ag;generalize (cA++[b5.list<|(la<|f5<|dq T ts).map J]).length=Bm at ag qa;generalize (cA++[b5.list<|(la<|f5<|dq T ts).map J])++[.list<|(d5 T ts).map J]=iN at ag jJ bU qa;have hle:=nL qa;cases ls:d5 T ts with
 |nil=>rw[ls]at qa;exact aq 2 iN (p6 λk=>k _ _ _ bF _ bf _ _ (Bk bB) _ rfl _ (kc<|co mY) _ bf _ _ Fx _ _ ag _ rfl _<|uA qa) (V wo<|V ls jJ) (bU.ci nofun) ⟨λh=>absurd h mY,λB B=>rfl,λB x h=>(nomatch ls.symm.trans h),λB h=>(vz 1<|a3 h<|cP<|ai List.length ls).elim⟩
 |cons x xs=>
  cases xs with
  |nil=>rw[ls]at qa hle;exact aq x iN (p6 λk=>k _ _ _ bF _ bf _ _ (Bk bB) _ rfl _ (kc<|co mY) _ bf _ _ Fx _ _ ag _ rfl _ (uA qa) _ rfl _ _ hle _ (cY (b:=1) rfl) _ rfl _<|kb (i:=0) qa rfl) (V wo<|V ls jJ) (bU.ci nofun) ⟨λh=>absurd h mY,λB h=>(nomatch ls.symm.trans h),λB y h=>(List.cons.inj<|bu ls h).1,λB h=>(Nat.lt_irrefl 1<|a3 h<|cP<|ai List.length ls).elim⟩
  |cons y ys=>
   have XL:(d5 T ts).length<64:=c1 (List.length_filter_le _ _) MG;have ae:2<=(d5 T ts).length:=V ls<|Nat.le_add_left _ _;have aj:((d5 T ts).map J).isEmpty=false:=V ls rfl;obtain⟨F,tt,B,cq,eE,FA⟩:=jJ.jI;refine Bh (d:=d+1) (r:=.dI<|d5 T ts) jJ aG (show(I.gR 4 ((d5 T ts).map J)&&true)=true from dJ (Bl _) rfl) hlen λu sF nH eZ hC lE sp=> ?_;exact aq u sF (p6 λk=>k _ _ _ bF _ bf _ _ (Bk bB) _ rfl _ (kc<|co mY) _ bf _ _ Fx _ _ ag _ rfl _ (dH (uA qa) (ai (!·) aj)) _ rfl _ _ hle _ (bN (b:=1) λq=>Nat.lt_irrefl 1<|a3 ae<|cP q) _ rfl _ _ hle _ (k8<|co<|Int.not_lt.mpr<|Int.ofNat_le.mpr<|hj<|ec XL<|by decide) _ fM _ (hN tt FA rfl) _ rfl _ _ (yn qa) _ _ nH)
    (V wo<|V (bg ae) eZ) ((bU.ci nofun).trans hC) ⟨λh=>absurd h mY,λB h=>(nomatch ls.symm.trans h),λB z h=>(nomatch ls.symm.trans h),λB B=>V wo<|V (bg ae) lE⟩
end
end
section
structure wq(T:List af):Prop where
 aG:T.Nodup
 ok:∀r∈T,I.key r.b3=true
 len:T.length<=10000
 ra:(T[4]?).isSome=true
 MH:(T[8]?).isSome=true
 MI:(T[9]?).isSome=true
 parts:∀t,(T[t]?).isSome=true->∀p∈dT T t,(T[p]?).isSome=true
 MJ:∀t,(T[t]?).isSome=true->(dT T t).length<50
 rd:dT T 4=[4]
noncomputable def ct(r:af):af:=if r.bc&&r.d8 then r.f3 else r
noncomputable def o1(T:List af)(r:af):List af:=if r.bc&&r.d8 then iP T r.f3 else T
section
variable{T:List af}{r:af}
def uB{α:Type}{P:α->Prop}{a b:α}(h:P a)(k:P b):∀x∈[a,b],P x:=λx ac=>(cR ac).elim (λe=>e▸h) λac=>bT ac▸k
def XM(X:dY C A T a1)(c4:wq T)(h:(T[t]?).isSome=true)(aq:∀u S,a0 a2 (d+4) 22 [.L A.t,J t] C=some (J u,S)->dY S A (hO T [t,4]) a1->bx C S [A.t+1,A.t+2]->wl T [t,4] u->bY):bY:=
 MC (d:=d) (x:=.ak [J t,.int 4]) (ts:=[t,4]) X.fZ c4.aG c4.ok (c1 c4.len<|by decide) (.inl rfl) (uB h c4.ra) (λs aJ=>c4.parts s<|uB (P:=λs=>(T[s]?).isSome=true) h c4.ra s aJ) c4.MH c4.MI
  (show(dT T t).length+((dT T 4).length+0)<60 from V c4.rd<|c7 (tX<|c4.MJ t h)<|by decide) λu S Y ae ba cp=>aq u S (go λr=>r _ _ Y) (X.with ae ba) ba cp
def XN(X:dY C A T a1)(c4:wq T)(h:T[t]? =some r)(aq:∀u S,a0 a2 (d+2) 26 [.L A.t,J t] C=some (J u,S)->dY S A (if r.d8 then iP T r.f3 else T) a1->bx C S [A.t+1,A.t+2]->(if r.d8 then iP T r.f3 else T)[u]? =some (if r.d8 then r.f3 else r)->(r.d8=false->u=t)->bY):bY:=by
 have hf:=Bj (d:=d) X.fZ h;cases aH:r.d8 with
 |false=>rw[aH]at hf aq;exact aq t C (go λr=>r _ _ hf) X (.refl _ _) h λB=>rfl
 |true=>have wr:r.bU=some 1:=dw aH;rw[aH]at hf aq;refine Bh (d:=d) X.fZ c4.aG (Mu<|c4.ok r<|dL h) (c1 c4.len<|by decide) λu S nH eZ hC lE sp=> ?_;obtain⟨F,tt,B,cq,eE,FA⟩:=X.jI;exact aq u S (go λr=>r _ _ hf _ (hN tt FA rfl) _ X.cJ _ (X.row h) _ _ (Mq wr) _ _ (Ms wr) _ _ nH) (X.with eZ hC) hC lE λq=>b8 q.symm
def wt(X:dY C A T a1):a0 a2 (d+1) 64 [.L A.cn,x] C=some (x,C):=go λr=>r
def yo(r:af):r.f3.d8=false:=by
 cases r with
 |_=>rfl
def MK(X:dY C A T a1)(c4:wq T)(h:T[t]? =some r)(aq:∀u S,a0 a2 (d+3) 39 [.L A.cn,J t] C=some (J u,S)->dY S A (o1 T r) a1->bx C S [A.t+1,A.t+2]->(o1 T r)[u]? =some (ct r)->(ct r=r->u=t/\o1 T r=T)->bY):bY:=by
 obtain⟨uu,dp,FB,kF,uC,FC⟩:=X.cn;have an:=Mk (d:=d+1) X.fZ h;change a0 _ _ _ _ _=some (.bool r.bc,C)at an;delta o1 ct at aq;cases uD:r.bc with
 |false=>rw[uD]at an aq;exact aq t C (go λr=>r _ (hN dp kF rfl) _ _ (wt X) _ X.cy _ _ an) X (.refl _ _) h λB=>⟨rfl,rfl⟩
 |true=>
  rw[uD]at an aq;refine XN (d:=d) X c4 h λu S nH eZ hC lE sp=>aq u S (go λr=>r _ (hN dp kF rfl) _ _ (wt X) _ X.cy _ _ an _ X.cy _ _ nH) eZ hC lE λq=> ?_;cases aH:r.d8 with
  |false=>exact⟨sp aH,rfl⟩
  |true=>rw[aH]at q;exact b8<|(yo r).symm.trans<|(ai af.d8 q).trans aH
noncomputable def d6(T:List af)(a1:Nat->Nat):Nat->Nat->Option Nat
 |0,B=>none
 |n+1,t=>match T[t]?with
  |some (.obj B cq)=>some t
  |some (.ref d)=>if 1<=d/\d<=3 then d6 T a1 n (a1<|d-1)else none
  |some (.dI B)=>none
  |none=>none
  |_=>some 11
def gf(h:i<3):i=0\/i=1\/i=2:=match i,h with
 |0,B=>.inl rfl
 |1,B=>.inr<|.inl rfl
 |2,B=>.inr<|.inr rfl
def dY.FD(X:dY C A T a1)(Y:1<=d)(ba:d<=3):fj C (.L<|A.t+3) (J d)=some (.L<|A.fw<|d-1):=by
 cases d with
 |zero=>exact absurd Y<|vz 0
 |succ k=>rcases gf ba with rfl|rfl|rfl<;>exact kb X.sv rfl
noncomputable def Bn:List dA:=[
  .ite (.aK .lt (.E 1)<|U 0) [
   .fA] [],
  .assign (.aS 3) (.av (.aZ (.E 0) 45)<|.E 1),
  .ite (.aK .eq (.av (.E 3)<|U 0)<|U 8) [
   .ret (.E 1)] [],
  .ite (.aK .eq (.av (.E 3)<|U 0)<|U 13) [
   .ret (.a5 13 [(.E 0),(.E 1)])] [],
  .ite (.aK .dU (.av (.E 3)<|U 0)<|.bc<|.ak [.int<|1,.int<|2,.int<|3,.int<|4,.int<|5]) [
   .ret (U 11)] [],
  .ite (.or (.aK .bw (.av (.E 3)<|U 0)<|U 9)<|.or (.av (.E 3)<|U 2)<|.aZ (.av (.aZ (.E 0) 14)<|.av (.E 3)<|U 1) 9) [
   .fA] [],
  .assign (.aS 1) (.aZ (.av (.aZ (.E 0) 14) (.av (.E 3) (U 1))) 10)]
def XO(X:dY C A T a1)(h:T[t]? =some r)(aR:r.val)(h0:H 0=some (.L A.t))(Y:H 1=some (J t)):cG (bk d) Bn H C=some (.ret<|J 11,ar H 3 r.b3,C):=by
 have e:∀k:Nat,(k=8\/k=13)->d0 C .eq (J r.kind) (J k)=some false:=λk ao=>bN λq=>by
  have aR:decide (r.kind∈[1,2,3,4,5])=true:=aR;rw[q]at aR;exact ao.elim (λe=>by subst e;exact b8 aR) λe=>by subst e;exact b8 aR
 exact eK λr=>r _ Y _ (lH<|co C7) _ h0 _ X.cJ _ Y _ (X.row h) _ rfl _ cM _ (e 8<|.inl rfl) _ rfl _ cM _ (e 13<|.inr rfl) _ rfl _ cM _<|dH (ek<|mT C _ [1,2,3,4,5]) aR
def XQ(X:dY C A T a1)(n:Nat):∀{t u:Nat} {items:List I} {H:bS},items.length=n->d6 T a1 n t=some u->H 0=some (.L A.t)->H 1=some (J t)->
  ∃aU,fX (λB=>true) (λx H s=>cG (bk d) Bn (ar H 2 x) s) items H C=some (.ret<|J u,aU,C):=by
 induction n with
 |zero=>exactλB aJ=>bj aJ
 |succ n ay=>
  intro t u items H hn aJ h0 Y;cases items with
  |nil=>exact Nat.noConfusion hn
  |cons x items=>
   have aJ:(match T[t]?with
     |some (.obj B cq)=>some t
     |some (.ref d)=>if 1<=d/\d<=3 then d6 T a1 n (a1<|d-1)else none
     |some (.dI B)=>none
     |none=>none
     |_=>some 11)=some u:=aJ
   cases aH:T[t]?with
   |none=>rw[aH]at aJ;exact bj aJ
   |some r=>
    rw[aH]at aJ;have f9:=λ(aR:r.val) (aJ:some 11=some u)=>(⟨_,mS rfl<|eF (ai (λn=>I.int (n:Nat))<|br aJ) (P:=λv=>cG (bk d) Bn (ar H 2 x) C=some (.ret v,_,C))<|XO X aH aR h0 Y⟩:∃aU,fX (λB=>true) (λx H s=>cG (bk d) Bn (ar H 2 x) s) (x::items) H C=some (.ret<|J u,aU,C));cases r with
    |dI ps=>exact bj aJ
    |obj ps f=>exact br aJ▸⟨_,mS rfl<|eK λr=>r _ Y _ (lH<|co C7) _ h0 _ X.cJ _ Y _ (X.row aH) _ rfl _ cM _ (cY (b:=8) rfl) _ Y⟩
    |ref kV=>refine d1 aJ λbC aJ=> ?_;obtain⟨F,hA,eW,nA,B⟩:=X.kA (kV-1)<|c7 (Nat.sub_lt bC.1 Nat.one_pos) bC.2;have h9:fj C (af.ref kV).b3 (.int 1)=some (J kV):=bZ (i:=1) rfl;obtain⟨aU,e⟩:=ay (items:=items) (H:=ar (ar (ar H 2 x) 3 (af.ref kV).b3) 1<|J<|a1<|kV-1) (nq hn) aJ h0 rfl;exact⟨aU,eT rfl (eK λr=>r _ Y _ (lH<|co C7) _ h0 _ X.cJ _ Y _ (X.row aH) _ rfl _ cM _ (bN (a:=9) (b:=8)<|by decide) _ rfl _ cM _ (bN (a:=9) (b:=13)<|by decide) _ rfl _ cM _ (dH (ek<|mT C _ [1,2,3,4,5]) rfl) _ rfl _ cM _ (ke (a:=9) (b:=9) rfl) _ rfl _ (bZ (i:=2) rfl) _ rfl _ h0 _ X.A7 _ rfl _ h9 _ (X.FD bC.1 bC.2) _ (kz hA rfl nA) _ rfl _ h0 _ X.A7 _ rfl _ h9 _ (X.FD bC.1 bC.2) _<|kz hA rfl eW) e⟩
    |_=>exact f9 rfl aJ
def XR(n:Nat):(qw n).length=n:=(c2 _).trans tY
def wu{n:Nat}{body:List dA}{r:eG×bS×St}(Y:bq O cf H C=some (J n,aw))(hn:n<16000000)(h:fX (λB=>true) (λx H s=>cG O body (ar H i x) s) (qw n) H aw=some r):cr O (.ip i cf body) H C=some r:=cF Y<|(bg ⟨qb _,hx hn⟩).trans h
def re(X:dY C A T a1)(h:d6 T a1 40 t=some u):a0 a2 (d+2) 68 [.L A.cn,J t] C=some (J u,C):=
 let⟨_,e⟩:=XQ (d:=d) X 40 (H:=ck [.L A.t,J t]) (XR 40) h rfl rfl
 go λr=>r _ X.cy _ _ (go λk=>k _ _ _<|wu (n:=40) rfl (by decide) e)
end
end
section
noncomputable def yp:Option ef->I
 |none=>.none
 |some p=>cm p
def FE{a b:Str}(aT:e9 a)(aj:e9 b):d0 C .eq (.str a) (.str b)=some (decide<|a=b):=(bg (dJ aT aj):(if(e9 a&&e9 b)=true then some (decide<|I.str a=I.str b)else none)=_).trans<|ai some<|decide_eq_decide.mpr ⟨I.str.inj,ai I.str⟩
def Bo(r:af)(h:Nat.ble k 9=false):¬r.kind=k:=λq=>b8 (bu h (q▸Nat.ble_eq_true_of_le (show r.kind<=9 by
 cases r with
 |_=>exact p0 rfl)))
noncomputable def gk(f:Nat):Bool:=decide<|PySem.Builtin.bitAnd (f:Int) 1≠0
section
variable{T:List af}{r:af}{f:Nat}
def XS(hn:e9 nm)(ps:List ef):∀{H:bS},(∀p∈ps,e9 p.name)->H 1=some (.str nm)->(∀aU,fX (λB=>true) (λx H s=>cG O [.ite (.aK .eq (.av (.E 2)<|U 0)<|.E 1) [.ret<|.E 2] []] (ar H 2 x) s) (ps.map cm) H C=
   some ((match ps.find? λp=>decide (p.name=nm)with|some p=>eG.ret (cm p)|none=>eG.next),aU,C)->bY)->bY:=by
 induction ps with
 |nil=>exactλB B aq=>aq _ rfl
 |cons p ps ay=>
  intro H hf Y aq;have ag:=FE (C:=C) (hf p bp) hn;by_cases h:p.name=nm
  ·exact aq (ar H 2<|cm p)<|V (show(p::ps).find? (λp=>decide<|p.name=nm)=some p from vK<|cj h)<|mS rfl<|eK λr=>r _ rfl _ (bZ (i:=0) rfl) _ Y _ (dH ag<|cj h) _ rfl
  ·exact ay (H:=ar H 2<|cm p) (λq aC=>hf q<|bQ _ aC) Y λaU e=>aq aU<|V (show(p::ps).find? (λp=>decide<|p.name=nm)=ps.find? _ from xj (co h) rfl)<|eT rfl (eK λr=>r _ rfl _ (bZ (i:=0) rfl) _ Y _<|dH ag<|co h) e
def XT(hn:e9 nm)(hf:∀p∈ps,e9 p.name):a0 a2 (d+1) 69 [(af.obj ps f).b3,.str nm] C=some (yp<|ps.find? λp=>decide<|p.name=nm,C):=by
 refine XS (C:=C) (O:=bk d) hn ps (H:=ck [(af.obj ps f).b3,.str nm]) hf rfl λaU e=> ?_;have hf:=lM (O:=bk d) (i:=2) (cf:=.av (.E 0)<|U 1) (H:=ck [(af.obj ps f).b3,.str nm]) (jk λk=>k _<|bZ (i:=1) rfl) e;cases aC:ps.find? λp=>decide (p.name=nm)with
 |none=>rw[aC]at hf;exact go λk=>k _ _ _ hf
 |some p=>rw[aC]at hf;exact go λk=>k _ _ _ hf
def XU(h:(ps.find? λp=>decide<|p.name=nm)=some p):p.name=nm:=dw<|List.find?_some (p:=λp:ef=>decide<|p.name=nm) h
def XV(X:dY C A T a1)(aP:T[t]? =some r)(aJ:d6 T a1 40 t=some u)(bD:T[u]? =some (.obj ps f))(hn:e9 nm)(hf:∀p∈ps,e9 p.name):
  a0 a2 (d+3) 70 [.L A.cn,J t,.str nm] C=some (yp<|ps.find? λp=>decide<|p.name=nm,C):=by
 have Bp:=XT (C:=C) (d:=d+1) (f:=f) hn hf;obtain⟨uu,dp,FB,kF,uC,FC⟩:=X.cn;cases aC:ps.find? λp=>decide (p.name=nm)with
 |none=>rw[aC]at Bp;exact go λk=>k _ (hN dp kF rfl) _ _ (wt X) _ X.cy _ X.cJ _ (X.row aP) _ cM _ (bN<|Bo r (k:=11) rfl) _ cM _ (bN<|Bo r (k:=12) rfl) _ X.cy _ X.cJ _ (hN dp uC rfl) _ _ (re X aJ) _ (X.row bD) _ _ Bp _ rfl
 |some p=>
  rw[aC]at Bp;exact dH (go λk=>k _ (hN dp kF rfl) _ _ (wt X) _ X.cy _ X.cJ _ (X.row aP) _ cM _ (bN<|Bo r (k:=11) rfl) _ cM _ (bN<|Bo r (k:=12) rfl) _ X.cy _ X.cJ _ (hN dp uC rfl) _ _ (re X aJ) _ (X.row bD) _ _ Bp _ rfl _ (hN dp kF rfl) _ (bZ (i:=1) rfl) _ _ (wt X) _ (bZ (i:=2) rfl) _<|bZ (i:=3) rfl)
   (ai (λs=>(I.ak [.str s,J p.dc,J p.b0,J p.dG],C)) (XU aC).symm)
def di(C:St)(a b:Int):iF .dj (.int a) (.int b) C=some (.int<|PySem.Builtin.bitAnd a b,C):=rfl
def FF{f:Nat}{r:Option (I×St)}(h:a0 a2 d f l C=r):(bk d).fn f l C=r:=h
def Bq(C:St)(f:Nat):g4 C (.int<|PySem.Builtin.bitAnd (f:Int) 1)=some (gk f):=rfl
def XW(X:dY C A T a1)(c4:wq T)(h:(T[p.dc]?).isSome=true)(aq:∀u S,a0 a2 (d+5) 71 [.L A.t,cm p] C=some (J u,S)->dY S A (if gk p.b0 then hO T [p.dc,4]else T) a1->bx C S [A.t+1,A.t+2]->(if gk p.b0 then wl T [p.dc,4] u else u=p.dc)->bY):bY:=by
 cases hf:gk p.b0 with
 |true=>rw[hf]at aq;exact XM (d:=d) X c4 h λu S Y ae ba cp=>aq u S (go λk=>k _ (bZ (i:=2) rfl) _ _ (di _ _ _) _ (dH (Bq C p.b0) hf) _ (bZ (i:=1) rfl) _ _<|FF Y) ae ba cp
 |false=>rw[hf]at aq;exact aq p.dc C (go λk=>k _ (bZ (i:=2) rfl) _ _ (di _ _ _) _ (dH (Bq C p.b0) hf) _<|bZ (i:=1) rfl) X (.refl _ _) rfl
noncomputable def mj:af->Nat
 |.ref d=>d
 |_=>0
def wv:a0 a2 (d+1) 77 [r.b3] C=some (J<|mj r,C):=by refine V (su rfl rfl) ?_;cases r<;>rfl
noncomputable def ii(f:Nat):Bool:=decide<|PySem.Builtin.bitAnd (f:Int) 34≠0
def XX(X:dY C A T a1)(h:T[t]? =some r):a0 a2 (d+2) 24 [.L A.t,J t] C=some (.bool (decide (t=4)||decide (t=5)||r.bc),C):=by
 by_cases cp:t=4
 ·exact V (cj cp)<|go λk=>k _<|cY (b:=4) cp
 ·refine V (co cp) ?_;by_cases dF:t=5
  ·exact V (cj dF)<|go λk=>k _ (bN (b:=4) cp) _<|cY (b:=5) dF
  ·exact V (co dF)<|go λk=>k _ (bN (b:=4) cp) _ (bN (b:=5) dF) _ _<|Mk X.fZ h
end
end
section
def o2{b:Bool}(h:l4 C x y=some b):d0 C .je x y=some (!b):=ai (Option.map (!·)) h
def FG{a b:List I}(aT:I.key (.ak a)=true)(aj:I.key (.ak b)=true):d0 C .eq (.ak a) (.ak b)=some (decide<|a=b):=(bg (dJ aT aj):(if(I.key (.ak a)&&I.key (.ak b))=true then some (decide<|I.ak a=I.ak b)else none)=_).trans<|ai some<|decide_eq_decide.mpr ⟨I.ak.inj,ai I.ak⟩
def FH{n:Nat}(h:∀p∈ps,e9 p.name):I.gR (n+1) (ps.map cm)=true:=by
 induction ps with
 |nil=>rfl
 |cons p ps ay=>exact dJ (show(e9 p.name&&true)=true from dJ (h p bp) rfl)<|ay λq aC=>h q<|bQ _ aC
def FI(h:∀p∈ps,e9 p.name):I.key (.ak<|ps.map cm)=true:=FH (n:=4) h
def ML{α:Type}{de:I->St->Option (Option I×St)}{b3:α->I}{h:α->Option I}(ag:en C)(xs:List α):(∀x∈xs,de (b3 x) C=some (h x,C))->iq en de (xs.map b3) C=some (xs.filterMap h,C):=by
 induction xs with
 |nil=>exactλB=>bg ag
 |cons x xs ay=>
  intro k;refine(sC ag (k x bp)<|ay λy a8=>k y<|bQ _ a8).trans<|ai (λl=>some (l,C)) ?_;cases e:h x with
  |none=>exact(List.filterMap_cons_none e).symm
  |some y=>exact(List.filterMap_cons_some e).symm
def FJ{l:List Bool}(h:C[a]? =some (.list<|l.map .bool)):kS .all (.L a) C=some (.bool<|l.all id,C):=by
 show(match C[a]?with
  |some (b5.list l)=>if l.all (λv=>match v with|I.bool _=>true|_=>false)then some (I.bool<|l.all λv=>v==I.bool true,C)else none
  |_=>none)=_
 refine V h<|(bg<|List.all_map.trans<|nv.mpr λB B=>rfl).trans<|ai (λb=>some (I.bool b,C))<|List.all_map.trans<|ai l.all<|funext λb=> ?_;cases b with
 |_=>rfl
def XY{α β:Type}(g:α->β)(xs:List α):xs.filterMap (λx=>some<|g x)=xs.map g:=by
 induction xs with
 |nil=>rfl
 |cons x xs ay=>exact ai (g x::·) ay
section
variable{T:List af}{r:af}{f:Nat}
def sG:a0 a2 (d+1) 83 [cm p] C=some (.bool<|ii p.b0,C):=go λr=>r _ (bZ (i:=2) rfl) _ _ rfl _ _ (di _ _ _) _<|kC rfl
def yq{α:Type}{b3:α->I}{xs:List α}{g:α->I}{z:I}(Y:bq O cf H ij=some (z,C))(ah:nk C z=some (xs.map b3,iv))(aJ:hg C iv (xs.map b3)=true)(ae:∀p∈xs,bq O elt (ar H i<|b3 p) C=some (g p,C)):
  bq O (.comp elt (.aS i) cf []) H ij=some (.L C.length,C++[.list<|xs.map g]):=
 rc Y ah (eF (XY g xs)<|ML (h:=λp=>some<|g p) aJ xs λp ab=>cF (x:=gq (.aS i) (b3 p) H) rfl<|cF (x:=gr O [] _ C) rfl<|cF (ae p ab) rfl)
def yr{α:Type}{b3:α->I}{xs:List α}{g:α->I}(Y:bq O cf H C=some (.ak<|xs.map b3,C))(ae:∀p∈xs,bq O elt (ar H i<|b3 p) C=some (g p,C)):
  bq O (.comp elt (.aS i) cf []) H C=some (.L C.length,C++[.list<|xs.map g]):=yq Y rfl rfl ae
def XZ(hf:∀p∈ps,e9 p.name)(aq:∀S,a0 a2 (d+1) 73 [(af.obj ps f).b3] C=some (.bool<|!ps.isEmpty&&ps.all λp=>gk p.b0,S)->bx C S []->bY):bY:=by
 have he:=FG (C:=C) (FI hf) (b:=[]) rfl;have f7:d0 C .bw (.ak []) (.ak [])=some false:=rfl;cases ps with
 |nil=>exact aq C (go λk=>k _ (bZ (i:=1) rfl) _ he)<|.refl _ _
 |cons p c8=>
  have ag:=yr (b3:=cm) (C:=C) (O:=bk d) (H:=ck [(af.obj (p::c8) f).b3]) (i:=2) (elt:=.aK .bw (.b6 .dj (.av (.E 2)<|U 2)<|U 1)<|U 0) (cf:=.av (.E 0)<|U 1) (xs:=p::c8) (g:=λp=>.bool<|gk p.b0)
   (jk λk=>k _<|bZ (i:=1) rfl) λq B=>i8 λk=>k _ rfl _ (bZ (i:=2) rfl) _ _ (di _ _ _) _<|kC rfl
  have aT:=FJ (l:=(p::c8).map λp=>gk p.b0)<|(ea (C:=C) (l:=[])).trans<|ai (λl=>some<|b5.list l) jC.symm;exact aq _ (go λk=>k _ (bZ (i:=1) rfl) _ (dH he<|co nofun) _ (bZ (i:=2) rfl) _ f7 _ (bZ (i:=3) rfl) _ f7 _ (bZ (i:=4) rfl) _ f7 _ (bZ (i:=5) rfl) _ f7 _ _ ag _ _<|gX aT List.all_map)<|.push _ _ _
def yt(h:k=8\/k=9):decide (k∈[8,9])=true:=cj<|pE.mpr<|h.imp_right tQ.mpr
def X0(h:¬(k=8\/k=9)):decide (k∈[8,9])=false:=co λq=>h<|(cR q).imp_right bT
def X1(X:dY C A T a1)(aP:T[t]? =some r)(aH:r.kind=8\/r.kind=9)(aJ:d6 T a1 40 t=some u)(bD:T[u]? =some (.obj ps f))(hf:∀p∈ps,e9 p.name)(aq:∀S,a0 a2 (d+3) 75 [.L A.cn,J t] C=some (.bool<|!ps.isEmpty&&ps.all λp=>gk p.b0,S)->bx C S []->bY):bY:=by refine XZ (C:=C) (d:=d+1) (f:=f) hf λS Y ae=> ?_;refine aq S ?_ ae;obtain⟨uu,dp,FB,kF,uC,FC⟩:=X.cn;exact go λk=>k _ X.cy _ X.cJ _ (X.row aP) _ cM _ (bN (b:=7) λq=>aH.elim (λh=>absurd (bu h q)<|by decide) λh=>absurd (bu h q)<|by decide) _ cM _ (dH (ek<|mT C r.kind [8,9])<|yt aH) _ X.cy _ X.cJ _ (hN dp uC rfl) _ _ (re X aJ) _ (X.row bD) _ _ Y
noncomputable def rf(T:List af)(s:Nat):Bool:=decide<|s∈[0,1,2,13,3,4,5,10]
def X2(X:dY C A T a1)(aP:T[t]? =some r)(ao:(r.kind=8\/r.kind=9)->d6 T a1 40 t=some u/\T[u]? =some (.obj ps f)/\ps≠[]/\∀p∈ps,e9 p.name)(X3:r.kind≠6):
  a0 a2 (d+3) 74 [.L A.cn,J t] C=some (.bool<|rf T t,C):=by
 have FK:d0 C .dU (J t) (.ak [.int 0,.int 1,.int 2,.int 13,.int 3,.int 4,.int 5,.int 10])=some (rf T t):=ek<|mT C t [0,1,2,13,3,4,5,10];have mV:=o2<|mT C r.kind [8,9];cases h0:rf T t with
 |true=>exact go λk=>k _<|dH FK h0
 |false=>
  by_cases i4:r.kind=8\/r.kind=9
  ·obtain⟨aJ,bD,f7,hf⟩:=ao i4;obtain⟨uu,dp,FB,kF,uC,FC⟩:=X.cn;exact go λk=>k _ (dH FK h0) _ X.cy _ X.cJ _ (X.row aP) _ cM _ (dH mV<|ai _<|yt i4) _ X.cy _ X.cJ _ (hN dp uC rfl) _ _ (re X aJ) _ (X.row bD) _ (bZ (i:=1) rfl) _<|dH (FG (FI hf) rfl)<|co λq=>f7<|List.map_eq_nil_iff.mp q
  ·have v3:decide (r.kind∈[6,7,10,14,15,16,17,18,19])=false:=by
    cases r with
    |dI=>exact absurd rfl X3
    |_=>rfl
   exact go λk=>k _ (dH FK h0) _ X.cy _ X.cJ _ (X.row aP) _ cM _ (dH mV<|ai _<|X0 i4) _<|dH (o2<|mT C r.kind [6,7,10,14,15,16,17,18,19])<|ai _ v3
end
end
def el(T a7:List af):Prop:=∃aB,a7=T++aB
def el.refl(T:List af):el T T:=⟨[],by exact iY<|ew _⟩
def el.trans{T a7 yu:List af}(x:el T a7)(y:el a7 yu):el T yu:=let⟨aB,e⟩:=x;let⟨F,f⟩:=y;⟨aB++F,f.trans<|e▸iG _ _ _⟩
def el.get{T a7:List af}(x:el T a7){r:af}(h:T[i]? =some r):a7[i]? =some r:=let⟨_,e⟩:=x;e▸(nr<|fc h).trans h
def el.some{T a7:List af}(x:el T a7)(h:(T[i]?).isSome=true):(a7[i]?).isSome=true:=(hT h).elim λB aH=>ai Option.isSome<|x.get aH
def MM{T yv:List af}{p:Prop}[Decidable p](h:el T yv):el T (if p then T else yv):=by by_cases q:p;exact V (bg q)<|.refl T;exact V (bI q) h
def MN{T yv:List af}{p:Prop}[Decidable p](h:el T yv):el T (if p then yv else T):=by by_cases q:p;exact V (bg q) h;exact V (bI q)<|.refl T
def uE(T:List af)(r:af):el T (iP T r):=MM ⟨[r],rfl⟩
def Br(T:List af)(ts:List Nat):el T (hO T ts):=MM<|MN<|uE _ _
def Bs(T:List af)(r:af):el T (o1 T r):=MN<|uE _ _
def Bt{T a7:List af}(x:el T a7)(h:(T[t]?).isSome=true):dT a7 t=dT T t:=by obtain⟨r,aH⟩:=hT h;delta dT;exact V (x.get aH)<|V aH rfl
def X4{T a7:List af}(x:el T a7):∀{gl:List Nat},(∀t∈ts,(T[t]?).isSome=true)->sB a7 ts gl=sB T ts gl:=by
 induction ts with
 |nil=>exactλB=>rfl
 |cons t ts ay=>exactλ{gl} h=>(ai (λ(l:List Nat)=>sB a7 ts<|l.foldl kE gl)<|Bt x<|h t bp).trans<|ay λt aP=>h t<|bQ _ aP
def X5{T:List af}{r:af}(aG:T.Nodup)(h:cD (lL T) r.b3=some v)(aq:∀n,v=J n->T[n]? =some r->bY):bY:=by
 by_cases aH:r∈T
 ·obtain⟨n,hn⟩:=rb.mp aH;exact aq n (br<|bu h<|Be hn aG) hn
 ·exact bj<|(Fm aH).symm.trans h
def nN{T:List af}(aG:T.Nodup){r:af}(Y:T[i]? =some r)(ae:T[j]? =some r):i=j:=by
 obtain⟨dW,aD⟩:=h6 Y;obtain⟨d3,aF⟩:=h6 ae;rw[List.Nodup,List.pairwise_iff_getElem]at aG;rcases Nat.lt_trichotomy i j with h|h|h
 ·exact absurd (aD.trans aF.symm)<|aG i j dW d3 h
 ·exact h
 ·exact absurd (aF.trans aD.symm)<|aG j i d3 dW h
def yw:kD gl (-1)=false:=co λq=>let⟨_,_,e⟩:=e3 q;vq e
def FL{T:List af}{r:af}{i:Int}(h:sz T r=.int i):mW T gl r=true↔kD gl i=false/\kD gl (eY r)=false:=by delta mW;exact V h<|Bool.and_eq_true_iff.trans<|and_congr (Iff.of_eq<|oC _)<|Iff.of_eq<|oC _
def sH{T:List af}{r:af}(aG:T.Nodup):mW T gl r=true↔¬(r.d8=true/\∃n∈gl,T[n]? =some r.f3)/\kD gl (eY r)=false:=by
 by_cases hf:r.d8=true
 ·have e:sz T r=(cD (lL T) r.f3.b3).getD (.int<|-1):=bg hf;cases bB:cD (lL T) r.f3.b3 with
  |none=>rw[bB]at e;exact(FL e).trans<|and_congr_left' ⟨λB ⟨cq,n,eE,hn⟩=>bj<|bu bB<|Be hn aG,λB=>yw⟩
  |some v=>rw[bB]at e;refine X5 aG bB λn bM hn=> ?_;subst bM;exact(FL e).trans<|and_congr_left' ⟨λh ⟨B,m,hm,aO⟩=>b8<|bu h<|oZ.trans<|cj<|nN aG aO hn▸hm,λh=>oZ.trans<|co λq=>h ⟨hf,n,q,hn⟩⟩
 ·exact(FL<|bI hf).trans<|and_congr_left' ⟨λB h=>hf h.1,λB=>yw⟩
def X6{T a7:List af}{r:af}(x:el T a7)(FM:a7.Nodup)(aG:T.Nodup)(h:∀n∈gl,(T[n]?).isSome=true):mW a7 gl r=mW T gl r:=Bool.eq_iff_iff.mpr<|(sH FM).trans<|(and_congr_left'<|not_congr<|and_congr_right λB=>⟨λ⟨n,hn,e⟩=>(hT<|h n hn).elim λq aC=>⟨n,hn,aC.trans<|(x.get aC).symm.trans e⟩,λ⟨n,hn,e⟩=>⟨n,hn,x.get e⟩⟩).trans (sH aG).symm
def X7{T a7:List af}(x:el T a7)(FM:a7.Nodup)(aG:T.Nodup)(h:∀t∈ts,(T[t]?).isSome=true)(ab:∀t∈ts,∀p∈dT T t,(T[p]?).isSome=true)(iL:(T[8]?).isSome=true)(gw:(T[9]?).isSome=true):
  dq a7 ts=dq T ts/\d5 a7 ts=d5 T ts:=by
 have bB:dq a7 ts=dq T ts:=X4 x h;have aR:∀n∈f5 (dq T ts),(T[n]?).isSome=true:=λp q=>(wm.mp q).elim (λq=>(Ft.mp q).elim (λq=>absurd q b4) λ⟨t,aP,mZ⟩=>ab t aP p mZ) λq=>q.1.elim (λe=>e▸iL) λe=>e▸gw;refine⟨bB,(ai (λg=>(la<|f5 g).filter λn=>match a7[n]?with
  |some r=>mW a7 (f5 g) r
  |none=>false) bB).trans (List.filter_congr λn hn=> ?_)⟩
 obtain⟨q,aC⟩:=hT<|aR n<|uz.mp hn;exact V (x.get aC)<|V aC<|X6 x FM aG aR
section
def cC{α β:Type}(c4:α->β->Prop):List α->List β->Prop
 |[],[]=>True
 |x::xs,y::ys=>c4 x y/\cC c4 xs ys
 |B,cq=>False
section
variable{α β kR:Type}{c4:α->β->Prop}
def cC.imp{W:α->β->Prop}(h:∀x y,c4 x y->W x y){xs:List α}:∀{ys:List β},cC c4 xs ys->cC W xs ys:=by
 induction xs with
 |nil=>exactλ{ys} v=>by cases ys with
  |nil=>exact v
  |cons=>exact v.elim
 |cons x xs ay=>exactλ{ys} v=>by cases ys with
  |nil=>exact v.elim
  |cons=>exact⟨h _ _ v.1,ay v.2⟩
def cC.swap{xs:List α}:∀{ys:List β},cC c4 xs ys->cC (λy x=>c4 x y) ys xs:=by
 induction xs with
 |nil=>exactλ{ys} v=>by cases ys with
  |nil=>exact v
  |cons=>exact v.elim
 |cons x xs ay=>exactλ{ys} v=>by cases ys with
  |nil=>exact v.elim
  |cons=>exact⟨v.1,ay v.2⟩
def cC.comp{W:β->kR->Prop}{a4:α->kR->Prop}(h:∀x y z,c4 x y->W y z->a4 x z){ys:List β}:∀{xs:List α} {zs:List kR},cC c4 xs ys->cC W ys zs->cC a4 xs zs:=by
 induction ys with
 |nil=>
  intro xs zs v w;cases xs with
  |nil=>cases zs with
   |nil=>exact v
   |cons=>exact w.elim
  |cons=>exact v.elim
 |cons y ys ay=>
  intro xs zs v w;cases xs with
  |nil=>exact v.elim
  |cons=>cases zs with
   |nil=>exact w.elim
   |cons=>exact⟨h _ _ _ v.1 w.1,ay v.2 w.2⟩
def cC.map{f:kR->β}{xs:List α}:∀{zs:List kR},cC (λx z=>c4 x<|f z) xs zs->cC c4 xs (zs.map f):=by
 induction xs with
 |nil=>exactλ{zs} v=>by cases zs with
  |nil=>exact v
  |cons=>exact v.elim
 |cons x xs ay=>exactλ{zs} v=>by cases zs with
  |nil=>exact v.elim
  |cons=>exact⟨v.1,ay v.2⟩
def cC.refl{c4:α->α->Prop}(h:∀x,c4 x x)(xs:List α):cC c4 xs xs:=by
 induction xs with
 |nil=>exact trivial
 |cons x xs ay=>exact⟨h x,ay⟩
end
noncomputable def dj(a b:Nat):Int:=PySem.Builtin.bitAnd (a:Int) (b:Int)
structure g9 where
 name:Str
 b0:Nat
 dG:Nat
 lb:List af
abbrev rg:=List af->List af->Prop
noncomputable def af.shaped:af->Bool
 |.obj B cq=>true
 |.ref B=>true
 |_=>false
structure ix(p q:g9):Prop where
 name:p.name=q.name
 uF:dj p.b0 25=dj q.b0 25
 dG:p.dG=q.dG
 rh:ii p.b0=ii q.b0
def ix.symm{p q:g9}(h:ix p q):ix q p:=⟨h.name.symm,h.uF.symm,h.dG.symm,h.rh.symm⟩
def hV(K:rg)(c bK:List af):Prop:=c=bK\/K c bK
def m1(K:rg):List g9->List g9->Prop:=cC λp q=>ix p q/\hV K p.lb q.lb
structure yx(K:rg)(c bK:List af):Prop where
 dW:c.length≠1
 d3:bK.length≠1
 ml:∀x∈c,∃y∈bK,hV K [x] [y]
 nO:∀y∈bK,∃x∈c,hV K [y] [x]
structure Bu(P:af->List g9)(K:rg)(x y:af):Prop where
 be:x.shaped=true
 bF:y.shaped=true
 gP:m1 K (P x) (P y)
def jK(P:af->List g9)(K:rg)(c bK:List af):Prop:=(∃x y,c=[x]/\bK=[y]/\Bu P K x y)\/yx K c bK
def cK(P:af->List g9)(c bK:List af):Prop:=∃K:rg,(∀a b,K a b->jK P K a b)/\hV K c bK
section
variable{P:af->List g9}{K dR:rg}{a b c bK:List af}
def hV.i9(h:∀a b,K a b->dR a b):∀a b,hV K a b->hV dR a b:=λB B x=>x.imp_right<|h _ _
def m1.ci(h:∀a b,hV K a b->hV dR a b){ps c8:List g9}(x:m1 K ps c8):m1 dR ps c8:=x.imp λB B q=>⟨q.1,h _ _ q.2⟩
def m1.refl{ps:List g9}:m1 K ps ps:=cC.refl (λB=>⟨⟨rfl,rfl,rfl,rfl⟩,.inl rfl⟩) ps
def m1.de(h:∀a b,hV K a b->hV dR b a){ps c8:List g9}(x:m1 K ps c8):m1 dR c8 ps:=x.swap.imp λB B q=>⟨q.1.symm,h _ _ q.2⟩
def jK.eb(h:jK P K c bK)(dK:∀x y,c=[x]->bK=[y]->Bu P K x y->Q)(fk:yx K c bK->Q):Q:=h.elim (λh=>h.elim λx h=>h.elim λy h=>dK x y h.1 h.2.1 h.2.2) fk
def yx.ci(h:∀a b,hV K a b->hV dR a b)(x:yx K c bK):yx dR c bK:=⟨x.dW,x.d3,λa aT=>(x.ml a aT).imp λB q=>⟨q.1,h _ _ q.2⟩,λa aT=>(x.nO a aT).imp λB q=>⟨q.1,h _ _ q.2⟩⟩
def jK.ci(h:∀a b,hV K a b->hV dR a b)(x:jK P K c bK):jK P dR c bK:=x.eb (λa b aD aF o=>.inl ⟨a,b,aD,aF,o.be,o.bF,o.gP.ci h⟩) λu=>.inr<|u.ci h
def jK.up(h:∀a b,K a b->dR a b)(x:jK P K c bK):jK P dR c bK:=x.ci<|.i9 h
def cK.refl:cK P c c:=⟨λB B=>False,λB B h=>h.elim,.inl rfl⟩
def cK.uG(h:hV (cK P) c bK):cK P c bK:=h.elim (λe=>e▸.refl) id
def cK.step(h:cK P c bK):c=bK\/jK P (cK P) c bK:=h.elim λK k=>k.2.imp_right λe=>(k.1 _ _ e).up λa b q=>⟨K,k.1,.inr q⟩
def cK.yy(h:∀a b,K a b->a=b\/jK P (λc bK=>cK P c bK\/K c bK) a b)(x:K c bK):cK P c bK:=by
 have up:∀a b,hV (λc bK=>cK P c bK\/K c bK) a b->hV (λc bK=>jK P (cK P) c bK\/K c bK/\c≠bK) a b:=λa b q=>q.elim .inl λq=>q.elim (λq=>q.step.imp_right .inl) λq=>by
  by_cases e:a=b
  ·exact .inl e
  ·exact .inr<|.inr ⟨q,e⟩
 exact⟨_,λa b q=>q.elim (λq=>q.ci λa b q=>up a b<|q.imp_right .inl) λq=>((h a b q.1).resolve_left q.2).ci up,up c bK<|.inr<|.inr x⟩
def cK.MO(h:jK P (cK P) c bK):cK P c bK:=yy (K:=jK P<|cK P) (λa b q=>.inr<|q.up λB B=>.inl) h
def jK.swap(h:∀a b,hV K a b->hV dR a b/\hV dR b a)(x:jK P K c bK):jK P dR bK c:=x.eb (λa b aD aF o=>.inl ⟨b,a,aF,aD,o.bF,o.be,o.gP.de λa b q=>(h a b q).2⟩) λu=>.inr ⟨u.d3,u.dW,λy a8=>(u.nO y a8).imp λx ac=>⟨ac.1,(h _ _ ac.2).1⟩,λx ac=>(u.ml x ac).imp λy a8=>⟨a8.1,(h _ _ a8.2).1⟩⟩
def cK.symm(h:cK P c bK):cK P bK c:=yy (K:=λa b=>cK P b a) (λa b q=>q.step.imp iY λs=>s.swap λa b q=>⟨q.imp_right .inl,q.imp iY .inr⟩) h
def cK.trans(Y:cK P a b)(ae:cK P b c):cK P a c:=by refine yy (K:=λa c=>∃b,cK P a b/\cK P b c) (λa c q=>q.elim λb q=>q.1.step.elim (λe=>e▸q.2.step.imp_right λs=>s.up λB B=>.inl) λbe=>q.2.step.elim (λe=>.inr<|e▸be.up λB B=>.inl) λbF=>.inr ?_) ⟨b,Y,ae⟩;have tr:∀{x y z:List af},hV (cK P) x y->hV (cK P) y z->hV (λc bK=>cK P c bK\/∃b,cK P c b/\cK P b bK) x z:=λh k=>.inr<|.inr ⟨_,.uG h,.uG k⟩;refine be.eb (λv8 v9 aD aF o=>bF.eb (λr9 um cS dM o'=> ?_) λu=>absurd (ai List.length aF) u.dW) λu=>bF.eb (λr9 um cS B B=>absurd (ai List.length cS) u.d3) λv=>.inr ⟨u.dW,v.d3,λz hz=>(u.ml z hz).elim λw Y=>(v.ml w Y.1).imp λv ae=>⟨ae.1,tr Y.2 ae.2⟩,λz hz=>(v.nO z hz).elim λw Y=>(u.nO w Y.1).imp λv ae=>⟨ae.1,tr Y.2 ae.2⟩⟩;have e:v9=r9:=h2 (bu aF cS) λe B=>e;exact .inl ⟨v8,um,aD,dM,o.be,o'.bF,o.gP.comp (λB B B p q=>⟨⟨p.1.name.trans q.1.name,p.1.uF.trans q.1.uF,p.1.dG.trans q.1.dG,p.1.rh.trans q.1.rh⟩,tr p.2 q.2⟩)<|e▸o'.gP⟩
structure m2(R:af->af->Prop)(c bK:List af):Prop where
 len:c.length=1↔bK.length=1
 ml:∀x∈c,∃y∈bK,R x y
 nO:∀y∈bK,∃x∈c,R y x
def m2.refl{R:af->af->Prop}(h:∀x,R x x):m2 R c c:=⟨Iff.rfl,λx ac=>⟨x,ac,h x⟩,λx ac=>⟨x,ac,h x⟩⟩
def m2.eb{R:af->af->Prop}(h:m2 R c bK)(dK:∀x y,c=[x]->bK=[y]->R x y->Q)(fk:c.length≠1->bK.length≠1->Q):Q:=by
 by_cases l:c.length=1
 ·obtain⟨x,rfl⟩:=List.length_eq_one_iff.mp l;obtain⟨y,rfl⟩:=List.length_eq_one_iff.mp<|h.len.mp l;exact dK x y rfl rfl<|(h.ml x bp).elim λz hz=>bT hz.1▸hz.2
 ·exact fk l λq=>l<|h.len.mpr q
def cK.eb(h:cK P c bK):m2 (λx y=>cK P [x] [y]) c bK:=h.step.elim (λe=>e▸.refl λB=>.refl) λs=>s.eb (λx y aD aF o=>by
  subst aD;subst aF;exact⟨Iff.rfl,λz hz=>⟨y,bp,bT hz▸h⟩,λz hz=>⟨x,bp,bT hz▸h.symm⟩⟩)
 λu=>⟨⟨λq=>absurd q u.dW,λq=>absurd q u.d3⟩,λx ac=>(u.ml x ac).imp λB q=>⟨q.1,.uG q.2⟩,λx ac=>(u.nO x ac).imp λB q=>⟨q.1,.uG q.2⟩⟩
def m2.MP(h:m2 (λx y=>cK P [x] [y]) c bK):cK P c bK:=h.eb (λx y aD aF r=>aD▸aF▸r) λdW d3=>.MO<|.inr ⟨dW,d3,λx ac=>(h.ml x ac).imp λB q=>⟨q.1,.inr q.2⟩,λx ac=>(h.nO x ac).imp λB q=>⟨q.1,.inr q.2⟩⟩
def cK.aS{x y:af}(h:cK P [x] [y]):x=y\/Bu P (cK P) x y:=h.step.elim (λe=>.inl<|h2 e λe B=>e) λs=>s.eb (λa b aD aF o=>.inr<|h2 aD λaD B=>h2 aF λaF B=>aD▸aF▸o) λu=>absurd rfl u.dW
end
end
section
noncomputable def cu(s:String):af:=.key<|Str.ofString s
noncomputable def fU:List af:=[cu "any",cu "unknown",cu "never",cu "void",cu "undefined",cu "null",cu "string",cu "number",.bool 0 0,.bool 1 0,cu "object",.obj [] 0,.dI [8,9],cu "error",.bool 0 1,.bool 1 1,.ref 1,.ref 2,.ref 3]
structure m3(T:List af)(ps:List Nat):Prop where
 j6:2<=ps.length
 gb:ps.length<50
 aG:ps.Nodup
 o3:∀p∈ps,p≠0/\p≠1/\p≠2/\p≠10/\p≠11/\p≠13/\∃r,T[p]? =some r/\r.kind≠6
 tK:∀p∈ps,∀q∈ps,∀r r',T[p]? =some r->T[q]? =some r'->r.d8->r'≠r.f3
 join:(8∈ps\/14∈ps)->(9∈ps\/15∈ps)->8∈ps/\9∈ps
 eY:∀p∈ps,∀r,T[p]? =some r->∀q∈ps,(q:Int)≠eY r
def ri(T:List af)(t:Nat):Prop:=(∃r,T[t]? =some r)/\t≠10/\t≠11/\t≠13/\∀p∈dT T t,∃r,T[p]? =some r/\(r.val=true\/∃d,r=.ref d)
structure Bv(T:List af)(p:ef):Prop where
 dc:ri T p.dc
 gb:(dT T p.dc).length<40
 dG:p.dG<=3
 name:e9 p.name=true
structure sI(T:List af)(ps:List ef)(f:Nat):Prop where
 bw:ps≠[]
 gb:ps.length<=3
 bU:f<=1
 names:(ps.map ef.name).Nodup
 o4:∀p∈ps,Bv T p
def ww(T:List af)(i:Nat):af->Prop
 |.key B=>i<16
 |.bool b f=>i<16
 |.ref d=>i=15+d/\1<=d/\d<=3
 |.str s f=>(s=aa "a"\/s=aa "b")/\f<=1
 |.num n f=>n<=1/\f<=1
 |.dI ps=>m3 T ps
 |.obj ps f=>i=11\/sI T ps f
structure bO(T:List af):Prop where
 aG:T.Nodup
 au:fU<+:T
 row:∀i r,T[i]? =some r->ww T i r
noncomputable def lP(o:Option af):af:=match o with
 |some r=>ct r
 |none=>.obj [] 0
noncomputable def lc(T:List af)(ps:List Nat):List af:=ps.map λp=>lP T[p]?
noncomputable def aE(T:List af)(t:Nat):List af:=lc T<|dT T t
def FN{T a7:List af}(x:el T a7){ps:List Nat}(h:∀p∈ps,(T[p]?).isSome=true):lc a7 ps=lc T ps:=tM λp ab=>(hT<|h p ab).elim λr aH=>V (x.get aH)<|V aH rfl
def FO{T a7:List af}(x:el T a7)(h:(T[t]?).isSome=true)(ab:∀p∈dT T t,(T[p]?).isSome=true):aE a7 t=aE T t:=(ai (lc a7)<|Bt x h).trans<|FN x ab
noncomputable def fK(T:List af)(p:ef):List af:=if gk p.b0 then(if 0<=fT (dq T [p.dc,4])then aE T p.dc else lc T (d5 T [p.dc,4]))else aE T p.dc
noncomputable def gz(T:List af)(p:ef):g9:=⟨p.name,p.b0,p.dG,fK T p⟩
section
variable{T a7:List af}{r:af}
def MQ{p:Nat}:p∈dq T ts↔∃t∈ts,p∈dT T t:=Ft.trans ⟨λh=>h.resolve_left b4,.inr⟩
def bO.at(G:bO T)(h:fU[i]? =some r):T[i]? =some r:=G.au.elim λB e=>e▸(nr<|fc h).trans h
def o5(h:r.kind=6)(k:∀ps,r=.dI ps->R):R:=by
 cases r with
 |dI ps=>exact k ps rfl
 |_=>exact mE h rfl
def bO.uH(G:bO T)(h:T[t]? =some r)(ao:r.kind≠6):dT T t=if t=2 then[]else[t]:=by
 delta dT;refine V h ?_;cases r with
 |dI ps=>exact absurd rfl ao
 |_=>rfl
def bO.uI(G:bO T)(h:T[t]? =some r)(gi:t=2->dT T t=[]->R)(dK:r.kind≠6->t≠2->dT T t=[t]->R)(fk:∀ps,r=.dI ps->t≠2->dT T t=ps->m3 T ps->R):R:=by
 by_cases ae:t=2
 ·exact gi ae<|bg ae
 ·by_cases ao:r.kind=6
  ·refine o5 ao λps e=> ?_;subst e;exact fk ps rfl ae ((bI ae).trans<|V h rfl)<|G.row t _ h
  ·exact dK ao ae<|(G.uH h ao).trans<|bI ae
def bO.parts(G:bO T)(h:T[t]? =some r):∀p∈dT T t,∃q,T[p]? =some q/\q.kind≠6:=G.uI h (λB e p ab=>absurd (e▸ab) b4) (λao B e p ab=>bT (e▸ab)▸⟨r,h,ao⟩) λps B B e u p ab=>(u.o3 p<|e▸ab).2.2.2.2.2.2
def bO.lE(G:bO T):dT T 4=[4]:=G.uH (G.at (i:=4) rfl) (by decide)
end
end
section
section
variable{T a7:List af}{r:af}
structure X8(T:List af)(ps:List Nat):Prop where
 aG:ps.Nodup
 row:∀p∈ps,∃r,T[p]? =some r/\r.kind≠6
 tK:∀p∈ps,∀q∈ps,∀r r',T[p]? =some r->T[q]? =some r'->r.d8->r'≠r.f3
 join:(8∈ps\/14∈ps)->(9∈ps\/15∈ps)->8∈ps/\9∈ps
 eY:∀p∈ps,∀r,T[p]? =some r->∀q∈ps,(q:Int)≠eY r
def MR(h:r.d8):r.f3≠r:=λe=>b8<|(yo r).symm.trans<|(ai af.d8 e).trans h
def MS(r:af):r.f3.kind=r.kind:=by
 cases r with
 |_=>rfl
def X9{q:af}(h:q.kind=1):q.d8=false:=by
 cases q with
 |key=>rfl
 |_=>exact mE h rfl
def bO.rj(G:bO T):T[4]? =some (cu "undefined"):=G.at rfl
def bO.MT(G:bO T)(h:T[4]? =some r):r.kind=1:=br (bu G.rj h)▸rfl
def FP(r:af)(k:eY r= -1->R)(cx:∀n:Nat,eY r=n->(n=6\/n=7)->r.kind≠1->R):R:=by
 cases r with
 |str s f=>exact cx 6 rfl (.inl rfl) λh=>mE h rfl
 |num n f=>exact cx 7 rfl (.inr rfl) λh=>mE h rfl
 |_=>exact k rfl
def Yb(a:8∈[t]\/14∈[t])(b:9∈[t]\/15∈[t]):False:=
 have c:∀{x y:Nat},x∈[t]->y∈[t]->x=y:=λx y=>(bT x).trans (bT y).symm
 a.elim (λx=>b.elim (λy=>nomatch c x y) λy=>nomatch c x y) λx=>b.elim (λy=>nomatch c x y) λy=>nomatch c x y
def bO.FQ(G:bO T)(h:T[t]? =some r):X8 T (dT T t):=
 G.uI h (λB e=>V e ⟨.nil,nofun,nofun,λa=>a.elim nofun nofun,nofun⟩)
  (λao B e=>V e ⟨p8 ⟨b4,.nil⟩,λp ab=>bT ab▸⟨r,h,ao⟩,λp ab q aC bh bf Y ae hf y=>by
   obtain rfl:=bT ab;obtain rfl:=bT aC;exact MR hf<|bu y<|br<|bu ae Y,λa b=>(Yb a b).elim,λp ab bh Y q aC y=>by
   obtain rfl:=bT ab;obtain rfl:=bT aC;refine FP bh (λw=>vq (y.trans w)) λn w c k=> ?_;obtain rfl:=k0 (y.trans w);exact k (c.elim (λc=>by subst c;exact br ((G.at (i:=6) rfl).symm.trans Y)▸rfl) λc=>by subst c;exact br ((G.at (i:=7) rfl).symm.trans Y)▸rfl)⟩)
  λps B B e bD=>V e ⟨bD.aG,λp ab=>(bD.o3 p ab).2.2.2.2.2.2,bD.tK,bD.join,bD.eY⟩
def bO.uJ(G:bO T){x:Nat}:x∈dq T [t,4]↔x∈dT T t\/x=4:=MQ.trans ⟨λh=>h.elim λs h=>(cR h.1).elim (λe=>.inl<|e▸h.2) λaJ=>.inr<|bT<|G.lE▸bT aJ▸h.2,λh=>h.elim (λh=>⟨t,bp,h⟩) λe=>⟨4,bQ _ bp,G.lE▸tQ.mpr e⟩⟩
def bO.MU(G:bO T){x y:Nat}(ac:x≠4)(a8:y≠4)(h:x∈dq T [t,4]\/y∈dq T [t,4]):x∈dT T t\/y∈dT T t:=h.imp (λz=>(G.uJ.mp z).resolve_right ac) λz=>(G.uJ.mp z).resolve_right a8
def bO.sJ(G:bO T)(h:T[t]? =some r){x:Nat}:x∈f5 (dq T [t,4])↔x∈dT T t\/x=4:=wm.trans ⟨λq=>q.elim G.uJ.mp λq=>have j:=(G.FQ h).join (G.MU (by decide) (by decide) q.2.1) (G.MU (by decide) (by decide) q.2.2);.inl<|q.1.elim (λe=>e▸j.1) λe=>e▸j.2,λq=>.inl<|G.uJ.mpr q⟩
def bO.MV(G:bO T)(aP:T[t]? =some r){x:Nat}{q:af}(ac:x∈f5 (dq T [t,4]))(aC:T[x]? =some q):mW T (f5<|dq T [t,4]) q=true:=by
 have P:=G.FQ aP;have ac:=(G.sJ aP).mp ac;have qy:x=4->q.kind=1:=λe=>G.MT<|e▸aC;refine(sH G.aG).mpr ⟨λh=>h.2.elim λn e=> ?_,FP q (λe=>V e yw) λn e c k=>V e<|oZ.trans<|co λm=> ?_⟩
 ·have du:q.kind≠1:=λk=>b8<|(X9 k).symm.trans h.1;exact ac.elim (λac=>((G.sJ aP).mp e.1).elim (λhn=>P.tK x ac n hn _ _ aC e.2 h.1 rfl) λhn=>du<|(MS q).symm.trans<|G.MT<|hn▸e.2) λac=>du<|qy ac
 ·exact ac.elim (λac=>((G.sJ aP).mp m).elim (λm=>P.eY x ac q aC n m e.symm) λm=>c.elim (λc=>absurd (bu m c)<|by decide) λc=>absurd (bu m c)<|by decide) λac=>k<|qy ac
def bO.Yc(G:bO T)(h:T[t]? =some r){x:Nat}(ac:x∈dT T t\/x=4):∃q,T[x]? =some q:=ac.elim (λac=>(G.parts h x ac).imp λB=>And.left) λe=>⟨_,e▸G.rj⟩
def bO.sK(G:bO T)(h:T[t]? =some r){x:Nat}:x∈d5 T [t,4]↔x∈dT T t\/x=4:=r8.trans ⟨λac=>(G.sJ h).mp<|uz.mp ac.1,λac=>have aQ:=(G.sJ h).mpr ac;⟨uz.mpr aQ,(G.Yc h ac).elim λB aC=>V aC<|G.MV h aQ aC⟩⟩
end
end
noncomputable def af.gP:af->List ef
 |.obj ps B=>ps
 |_=>[]
noncomputable def yz(T0:List af):List af:=T0.map af.f3++(T0.flatMap af.gP).map λp=>.dI<|d5 T0 [p.dc,4]
structure hD(T0 T:List af):Prop where
 pre:el T0 T
 aG:T.Nodup
 new:∀i r,T[i]? =some r->T0.length<=i->(∃q∈T0,q.bc/\r=q.f3)\/∃o∈T0,∃p∈o.gP,r=.dI (d5 T0 [p.dc,4])/\fT (dq T0 [p.dc,4])<0/\2<=(d5 T0 [p.dc,4]).length
def hD.refl{T0:List af}(aG:T0.Nodup):hD T0 T0:=⟨.refl _,aG,λi r h an=>absurd an<|Nat.not_le_of_lt (h6 h).1⟩
theorem o6{α:Type}[DecidableEq α]:∀{l m:List α},l.Nodup->(∀x∈l,x∈m)->l.length<=m.length
 |[],B,cq,eE=>jB _
 |x::l,m,aG,h=>by
  rw[List.nodup_cons]at aG;have ac:x∈m:=h x bp;have:=o6 (l:=l) (m:=m.erase x) aG.2 λy a8=>(List.mem_erase_of_ne (by rintro rfl;exact aG.1 a8)).mpr<|h y<|bQ _ a8;rw[List.length_erase_of_mem ac]at this;exact V List.length_cons<|Nat.add_le_of_le_sub (List.length_pos_of_mem ac) this
def hD.len{T0 T:List af}(bi:hD T0 T):T.length<=T0.length+(yz T0).length:=by
 obtain⟨aB,rfl⟩:=bi.pre;have aG:=bi.aG;rw[kU]at aG;have:aB.length<=(yz T0).length:=o6 aG.2.1 λx ac=>by
  obtain⟨i,ah⟩:=rb.mp ac;have:=bi.new (T0.length+i) x (by refine V (wn<|by exact HO) ?_;simpa using ah) (by exact HO);unfold yz;rw[qz,List.mem_map,List.mem_map];rcases this with⟨q,aC,B,rfl⟩|⟨o,aA,p,ab,rfl,cq⟩
  ·exact .inl ⟨q,aC,rfl⟩
  ·exact .inr ⟨p,List.mem_flatMap.mpr ⟨o,aA,ab⟩,rfl⟩
 refine V er ?_;exact hB this _
def MW{T:List af}{q:af}{r:af}(h:(iP T q)[i]? =some r):T[i]? =some r\/(r=q/\i=T.length):=by
 unfold iP at h
 split at h
 ·exact .inl h
 ·by_cases an:i<T.length
  ·rw[nr an]at h;exact .inl h
  ·rw[wn (by exact vr an)]at h;obtain⟨k,rfl⟩:∃k,i=T.length+k:=⟨i-T.length,by exact iY<|HT<|vr an⟩;rw[Nat.add_sub_cancel_left]at h;cases k with
   |zero=>simp at h;exact .inr ⟨h.symm,rfl⟩
   |succ k=>simp at h
def MX{T:List af}{q:af}(aG:T.Nodup):(iP T q).Nodup:=by
 unfold iP;split
 ·exact aG
 ·rename_i h
  rw[kU];exact⟨aG,by simp,λa aT b aj e=>by simp at aj;subst aj;subst e;exact h aT⟩
def hD.wx{T0 T:List af}(bi:hD T0 T){q:af}(h:(∃nu∈T0,nu.bc/\q=nu.f3)\/∃o∈T0,∃p∈o.gP,q=.dI (d5 T0 [p.dc,4])/\fT (dq T0 [p.dc,4])<0/\2<=(d5 T0 [p.dc,4]).length):hD T0 (iP T q):=
 ⟨bi.pre.trans<|uE T q,MX bi.aG,λi r aH an=>by
  rcases MW aH with aH|⟨rfl,B⟩
  ·exact bi.new i r aH an
  ·exact h⟩
section
section
variable{T0 T:List af}{r:af}
def FR{T a7:List af}(x:el T a7)(h:a7[i]? =some r)(an:i<T.length):T[i]? =some r:=by obtain⟨aB,rfl⟩:=x;exact(nr an).symm.trans h
def FS{T a7:List af}(x:el T a7){q:af}(h:a7[i]? =some r)(aC:T[i]? =some q):r=q:=by exact br<|bu h<|x.get aC
def m3.pre{T a7:List af}(x:el T a7){ps:List Nat}(u:m3 T ps):m3 a7 ps:=
 have g:=λp ab=>(u.o3 p ab).2.2.2.2.2.2
 ⟨u.j6,u.gb,u.aG,λp ab=>have c:=u.o3 p ab;⟨c.1,c.2.1,c.2.2.1,c.2.2.2.1,c.2.2.2.2.1,c.2.2.2.2.2.1,(g p ab).imp λq h=>⟨x.get h.1,h.2⟩⟩,
  λp ab q aC r r' Y ae=>(g p ab).elim λa aT=>(g q aC).elim λb aj=>V (FS x Y aT.1)<|V (FS x ae aj.1)<|u.tK p ab q aC a b aT.1 aj.1,
  u.join,λp ab r Y q aC=>(g p ab).elim λa aT=>V (FS x Y aT.1) (u.eY p ab a aT.1 q aC)⟩
def ri.pre{T a7:List af}(x:el T a7)(h:ri T t):ri a7 t:=⟨h.1.imp λB=>x.get,h.2.1,h.2.2.1,h.2.2.2.1,λp ab=>h.1.elim λr aH=>(h.2.2.2.2 p<|Bt x (ai Option.isSome aH)▸ab).imp λq h=>⟨x.get h.1,h.2⟩⟩
def sI.pre{T a7:List af}(x:el T a7){f:Nat}(h:sI T ps f):sI a7 ps f:=⟨h.bw,h.gb,h.bU,h.names,λp ab=>have q:=h.o4 p ab;⟨q.dc.pre x,q.dc.1.elim λr aH=>V (Bt x<|ai Option.isSome aH) q.gb,q.dG,q.name⟩⟩
def ww.pre{T a7:List af}(x:el T a7)(h:ww T i r):ww a7 i r:=by
 cases r with
 |dI ps=>exact m3.pre x h
 |obj ps f=>exact h.imp_right<|sI.pre x
 |_=>exact h
def bO.obj(G:bO T){f:Nat}(h:T[i]? =some (.obj ps f))(ab:p∈ps):sI T ps f:=
 (G.row i _ h).resolve_left λe=>by
  subst e;exact absurd ((af.obj.inj<|br<|(G.at (i:=11) rfl).symm.trans h).1▸ab) b4
def bO.FT(G:bO T){f:Nat}(h:T[i]? =some (.obj ps f))(ab:p∈ps):ri T p.dc:=((G.obj h ab).o4 p ab).dc
def bO.yA(G:bO T){o:af}(h:o∈T)(ab:p∈o.gP):ri T p.dc:=by
 obtain⟨i,ah⟩:=rb.mp h;cases o with
 |obj ps f=>exact G.FT ah ab
 |_=>exact absurd ab b4
def yB:(d5 T ts).Nodup:=(XB<|XH<|Xu (gl:=[]) .nil).filter _
def FU(h:0∈gl):fT gl=0:=bg h
def FV(h:1∈gl):0<=fT gl:=by
 delta fT;by_cases h0:0∈gl
 ·exact V (bg h0) (by decide)
 ·refine V (bI h0) ?_;by_cases ka:13∈gl
  ·exact V (bg ka) (by decide)
  ·exact V (bI ka) (V (bg h)<|by decide)
def bO.FW(G:bO T)(h:ri T t)(Yd:(dT T t).length<40)(h0:fT (dq T [t,4])<0)(ae:2<=(d5 T [t,4]).length):m3 T (d5 T [t,4]):=by
 obtain⟨⟨r,aH⟩,E9,eU,ka,ab⟩:=h;have P:=G.FQ aH;have df:=λx=>G.sK aH (x:=x);have hJ:∀x,x∈d5 T [t,4]->∀q,T[x]? =some q->¬(q.d8=true/\∃n∈f5 (dq T [t,4]),T[n]? =some q.f3)/\kD (f5<|dq T [t,4]) (Mine.eY q)=false:=λx ac q aC=>(sH G.aG).mp<|G.MV aH ((G.sJ aH).mpr<|(df x).mp ac) aC;refine⟨ae,?_,yB,λp yC=>((df p).mp yC).elim ?_ λe=>e▸⟨by decide,by decide,by decide,by decide,by decide,by decide,_,G.rj,by decide⟩,λp yC q FX a b aT aj hf e=>(hJ p yC a aT).1 ⟨hf,q,(G.sJ aH).mpr<|(df q).mp FX,aj.trans<|ai some e⟩,λa b=> ?_,λp yC a aT q FX e=>b8<|(hJ p yC a aT).2.symm.trans<|e▸oZ.trans (cj<|(G.sJ aH).mpr<|(df q).mp FX)⟩
 ·exact c1 (o6 (m:=4::dT T t) yB λx ac=>((df x).mp ac).elim (bQ _) λe=>e▸bp) (ec (tX Yd)<|by decide)
 ·exact G.uI aH (λB e mZ=>absurd (e▸mZ) b4) (λao ae e mZ=>by
   obtain rfl:=bT (e▸mZ:);have bB:=G.uJ.mpr<|.inl mZ;refine⟨λq=> ?_,λq=> ?_,ae,E9,eU,ka,r,aH,ao⟩
   ·subst q;exact Int.lt_irrefl 0<|FU bB▸h0
   ·subst q;exact pG.mpr h0 (FV bB)) λps B B e u mZ=>u.o3 p (e▸mZ)
 ·have j:=λ{x:Nat} (h:x≠4) (q:x∈d5 T [t,4])=>((df x).mp q).resolve_right h;have:=P.join (a.imp (j<|by decide)<|j<|by decide) (b.imp (j<|by decide)<|j<|by decide);exact⟨(df 8).mpr<|.inl this.1,(df 9).mpr<|.inl this.2⟩
end
end
section
section
variable{T0 T:List af}{r:af}
def bO.isSome(G:bO T)(h:i<19):(T[i]?).isSome=true:=ai Option.isSome<|G.at (ji (l:=fU) h)
def bO.Ye(G:bO T):19<=T.length:=let⟨_,e⟩:=G.au;e▸er▸cT 19 _
def bO.rk(G:bO T)(h:T[i]? =some r)(ah:i<19):fU[i]? =some r:=(ji (l:=fU) ah).trans<|(G.at (ji (l:=fU) ah)).symm.trans h
def bO.MY{p:af->Bool}(ab:fU.all p)(G:bO T)(h:T[t]? =some r)(ah:t<19):p r:=hh ab r<|dL<|G.rk h ah
def MZ{T:List af}(G:bO T0)(bi:hD T0 T)(h:ri T0 t):dq T [t,4]=dq T0 [t,4]/\d5 T [t,4]=d5 T0 [t,4]:=
 have aJ:=uB (P:=λs=>∃r,T0[s]? =some r) h.1 ⟨_,G.rj⟩
 X7 bi.pre bi.aG G.aG (λs h=>(aJ s h).elim λB aC=>ai Option.isSome aC) (λs h p ab=>let⟨_,aC⟩:=aJ s h;let⟨_,hz,_⟩:=G.parts aC p ab;ai Option.isSome hz) (G.isSome<|by decide) (G.isSome<|by decide)
def bO.gb(G:bO T){o:af}(h:o∈T)(ab:p∈o.gP):(dT T p.dc).length<40:=by
 obtain⟨i,ah⟩:=rb.mp h;cases o with
 |obj ps f=>
  rcases G.row i _ ah with rfl|q
  ·rw[G.at (i:=11) rfl]at ah;cases ah;cases ab
  ·exact(q.o4 p ab).gb
 |_=>contradiction
def bO.bc(G:bO T)(h:T[t]? =some r)(an:r.bc):(∃b f,r=.bool b f/\b<=1)\/(∃s f,r=.str s f/\(s=aa "a"\/s=aa "b"))\/∃n f,r=.num n f/\n<=1:=by
 have aH:=G.row t r h;cases r with
 |bool b f=>
  refine .inl ⟨b,f,rfl,?_⟩;exact dw (G.MY (p:=λr=>match r with
   |.bool b B=>decide<|b<=1
   |_=>true) rfl h (ec (show t<16 from aH) (by decide)))
 |str s f=>exact .inr<|.inl ⟨s,f,rfl,aH.1⟩
 |num n f=>exact .inr<|.inr ⟨n,f,rfl,aH.1⟩
 |_=>exact Bool.noConfusion an
theorem bO.h8(G:bO T0)(bi:hD T0 T):bO T where
 aG:=bi.aG
 au:=by obtain⟨aB,rfl⟩:=bi.pre;obtain⟨F,rfl⟩:=G.au;exact⟨F++aB,by exact rfl⟩
 row:=λi r h=>by
  by_cases an:i<T0.length
  ·exact(G.row i r<|FR bi.pre h an).pre bi.pre
  ·rcases bi.new i r h (by exact vr an)with⟨q,aC,uD,rfl⟩|⟨o,aA,p,ab,rfl,h0,ae⟩
   ·obtain⟨j,aQ⟩:=rb.mp aC;rcases G.bc aQ uD with⟨b,f,rfl,aj⟩|⟨s,f,rfl,aJ⟩|⟨n,f,rfl,hn⟩
    ·have sL:=G.Ye;have ov:b=0\/b=1:=by exact HR aj
     rcases ov with rfl|rfl
     ·have:=nN bi.aG h<|bi.pre.get<|G.at (i:=8) rfl;lia
     ·have:=nN bi.aG h<|bi.pre.get<|G.at (i:=9) rfl;lia
    ·exact⟨aJ,jB _⟩
    ·exact⟨hn,jB _⟩
   ·exact m3.pre bi.pre<|G.FW (G.yA aA ab) (G.gb aA ab) h0 ae
end
end
section
section
variable{T0 T:List af}{r:af}
def Yg:r.f3.bc=r.bc:=by cases r<;>rfl
def hD.FY(bi:hD T0 T)(h:T[t]? =some r):hD T0 (o1 T r):=by
 unfold o1
 split
 ·rename_i ag
  rw[Bool.and_eq_true]at ag;by_cases an:t<T0.length
  ·exact bi.wx<|.inl ⟨r,dL<|FR bi.pre h an,ag.1,rfl⟩
  ·rcases bi.new t r h (by exact vr an)with⟨q,aC,uD,rfl⟩|⟨o,aA,p,ab,rfl,B⟩
   ·rw[yo]at ag;exact absurd ag.2 (by decide)
   ·exact Bool.noConfusion ag.1
 ·exact bi
def bO.Yh(bi:hD T0 T){f:Nat}(h:T[t]? =some (.obj ps f)):T0[t]? =some (.obj ps f):=by
 by_cases an:t<T0.length
 ·exact FR bi.pre h an
 ·rcases bi.new t _ h (by exact vr an)with⟨q,aC,uD,e⟩|⟨o,aA,p,ab,e,B⟩
  ·cases q<;>simp [af.f3]at e;exact Bool.noConfusion uD
  ·exact af.noConfusion e
theorem hD.wy(G:bO T0)(bi:hD T0 T){o:af}(aA:o∈T0)(ab:p∈o.gP):hD T0 (hO T [p.dc,4]):=by
 obtain⟨aD,aF⟩:=MZ G bi<|G.yA aA ab;unfold hO;refine V aD<|V aF ?_
 split
 ·exact bi
 ·split
  ·exact bi.wx (.inr ⟨o,aA,p,ab,rfl,by lia,by assumption⟩)
  ·exact bi
def Yi{s:Str}(h:s=aa "a"\/s=aa "b"):e9 s:=h.elim (λe=>e▸by decide) λe=>e▸by decide
def bO.M0(G:bO T)(h:T[t]? =some r):I.key r.b3:=by
 have aH:=G.row t r h;have ce:=G.MY (p:=λr=>I.key r.b3) (by decide) h;cases r with
 |key s=>exact ce (ec (show t<16 from aH)<|by decide)
 |bool b f=>rfl
 |ref d=>rfl
 |str s f=>exact(show(I.hs 5 (.str s)&&true)=true from dJ (Yi aH.1) rfl)
 |num n f=>rfl
 |dI ps=>exact(show(I.gR 4 (ps.map J)&&true)=true from dJ (Bl _) rfl)
 |obj ps f=>exact aH.elim (λe=>ce<|e▸by decide) λq=>(show(I.gR 4 (ps.map cm)&&true)=true from dJ (FH λp ab=>(q.o4 p ab).name) rfl)
def bO.yD(G:bO T)(h:T.length<=10000):wq T where
 aG:=G.aG
 ok:=λr aH=>let⟨i,ah⟩:=rb.mp aH;G.M0 ah
 len:=h
 ra:=G.isSome (by decide)
 MH:=G.isSome (by decide)
 MI:=G.isSome (by decide)
 parts:=λt aP p ab=>by
  obtain⟨r,aH⟩:=hT aP;obtain⟨q,aC,B⟩:=G.parts aH p ab;refine V aC ?_;rfl
 MJ:=λt aP=>by
  obtain⟨r,aH⟩:=hT aP;unfold dT
  split
  ·decide
  ·refine V aH ?_;cases r<;>try (show 1<50;decide)
   exact m3.gb (T:=T)<|G.row t _ aH
 rd:=G.lE
end
end
section
section
variable{T0 T:List af}{r:af}
def bO.o5(G:bO T){ps:List Nat}(h:T[t]? =some (.dI ps)):t≠2:=λe=>by
 subst e;exact af.noConfusion<|br<|(G.at (i:=2) rfl).symm.trans h
def Bw(G:bO T){ps:List Nat}(h:T[t]? =some (.dI ps)):aE T t=lc T ps:=ai (lc T) ((bI<|G.o5 h).trans (V h rfl):dT T t=ps)
def Yj{ps:List Nat}(ae:t≠2)(h:T[t]? =some (.dI ps)):aE T t=lc T ps:=ai (lc T) ((bI ae).trans (V h rfl):dT T t=ps)
def FZ(h:T[t]? =some r):lc T [t]=[ct r]:=ai (λo=>[lP o]) h
def uK(G:bO T)(h:T[t]? =some r)(ao:r.kind≠6)(ae:t≠2):aE T t=[ct r]:=(ai (lc T)<|(G.uH h ao).trans<|bI ae).trans<|FZ h
def M1:aE T 2=[]:=rfl
def wz:(ct r).kind=r.kind:=by
 delta ct;cases r.bc&&r.d8 with
 |true=>exact MS r
 |false=>rfl
def jp:ct (ct r)=ct r:=by
 cases h:r.bc&&r.d8 with
 |true=>have e:ct r=r.f3:=bg h;exact V e<|bI λq=>b8<|(yo r).symm.trans<|cN q
 |false=>exact ai ct<|bI λq=>b8<|bu h q
def Bx(h:(u:Int)=fT gl):u∈gl/\(u=0\/u=1\/u=13):=by
 delta fT at h;by_cases h0:0∈gl
 ·obtain rfl:=k0<|h.trans<|bg h0;exact⟨h0,.inl rfl⟩
 ·rw[bI h0]at h;by_cases ka:13∈gl
  ·obtain rfl:=k0<|h.trans<|bg ka;exact⟨ka,.inr<|.inr rfl⟩
  ·rw[bI ka]at h;by_cases Y:1∈gl
   ·obtain rfl:=k0<|h.trans<|bg Y;exact⟨Y,.inr<|.inl rfl⟩
   ·exact(vq<|h.trans<|bI Y).elim
def Yk(G:bO T0)(bi:hD T0 T){o:af}(aA:o∈T0)(ab:p∈o.gP)(h:if gk p.b0 then wl T [p.dc,4] u else u=p.dc):aE (if gk p.b0 then hO T [p.dc,4]else T) u=fK T0 p/\((if gk p.b0 then hO T [p.dc,4]else T)[u]?).isSome=true:=by
 have mV:=G.yA aA ab;refine mV.1.elim λr aH=> ?_;have pt:∀q∈dT T0 p.dc,(T0[q]?).isSome=true:=λq aC=>(G.parts aH q aC).elim λB z=>ai Option.isSome z.1;have M2:aE T p.dc=aE T0 p.dc:=FO bi.pre (ai Option.isSome aH) pt;have aP:(T[p.dc]?).isSome=true:=ai Option.isSome<|bi.pre.get aH;delta fK;cases hf:gk p.b0 with
 |false=>rw[hf]at h;obtain rfl:u=p.dc:=h;exact⟨M2,aP⟩
 |true=>
  rw[hf]at h;have h:wl T [p.dc,4] u:=h;have e:=MZ G bi mV;have GT:=G.h8 bi;show aE (hO T [p.dc,4]) u=(if _ then _ else _)/\((hO T [p.dc,4])[u]?).isSome=true;by_cases h0:0<=fT (dq T0 [p.dc,4])
  ·have Y:0<=fT (dq T [p.dc,4]):=V e.1 h0;have c:=Bx<|h.top Y;rw[e.1]at c;have hm:=(G.uJ.mp c.1).resolve_right λe=>by subst e;exact absurd c.2 (by decide)
   have bD:u=p.dc:=G.uI aH (λB e=>absurd (e▸hm) b4) (λB B e=>bT<|e▸hm) λps B B e By=>have k:=By.o3 u<|e▸hm;(c.2.elim k.1 λc=>c.elim k.2.1 k.2.2.2.2.2.1).elim;exact V (bg h0)<|V (show hO T [p.dc,4]=T from bg Y)<|V bD ⟨M2,aP⟩
  ·have Y:¬0<=fT (dq T [p.dc,4]):=V e.1 h0;have hn:=pG.mp Y;refine V (bI h0) ?_;by_cases ae:2<=(d5 T [p.dc,4]).length
   ·have hm:=h.iV hn ae;refine⟨(Yj (λq=>by
     subst q;exact af.noConfusion (br (((Br T [p.dc,4]).get (GT.at (i:=2) rfl)).symm.trans hm))) hm).trans (V e.2 (FN (bi.pre.trans (Br T _)) λq aC=>((G.sK aH).mp aC).elim (pt q) λe=>e▸G.isSome (by decide))),ai Option.isSome hm⟩
   ·have cp:4∈d5 T0 [p.dc,4]:=(G.sK aH).mpr<|.inr rfl;refine(List.length_eq_one_iff.mp<|Nat.le_antisymm (pC<|Nat.lt_of_not_le ae)<|Nat.succ_le_of_lt<|List.length_pos_of_mem<|e.2▸cp).elim λx ac=> ?_;obtain rfl:=bT (ac▸e.2▸cp:4∈[x]);obtain rfl:=h.aS hn 4 ac;exact V (show hO T [p.dc,4]=T from(bI Y).trans<|bI ae) ⟨(uK GT GT.rj (by decide)<|by decide).trans<|V e.2.symm<|V ac (FZ G.rj).symm,GT.isSome<|by decide⟩
end
end
section
section
variable{T0 T:List af}{r:af}
def M3(G:bO T0)(bi:hD T0 T)(h:T[t]? =some r)(bD:(o1 T r)[u]? =some (ct r))(aJ:ct r=r->u=t/\o1 T r=T):aE (o1 T r) u=aE T t:=by
 have GT:=G.h8 bi;have Yl:=bi.FY h;have M4:=G.h8 Yl;by_cases ao:r.kind=6
 ·have:ct r=r:=by
   cases r<;>first|rfl|cases ao
  obtain⟨rfl,e⟩:=aJ this;exact V e rfl
 ·by_cases ae:t=2
  ·subst ae;have yE:=GT.at (i:=2) (r:=cu "never") rfl;rw[h]at yE;cases yE;obtain⟨rfl,e⟩:=aJ rfl;exact gu M1<|iY M1
  ·have Ym:u≠2:=by
    rintro rfl;have yE:=M4.at (i:=2) (r:=cu "never") rfl;rw[bD]at yE;have Bz:ct r=cu "never":=by simpa using yE
    have:r=cu "never":=by
     unfold ct at Bz
     split at Bz
     ·cases r<;>simp [af.f3,cu]at Bz
      rename_i ag;simp [af.bc,af.kind]at ag
     ·exact Bz
    have Yn:=GT.at (i:=2) (r:=cu "never") rfl;exact ae<|nN bi.aG h<|this▸Yn
   exact V (uK GT h ao ae) (V (uK M4 bD (by refine V wz ?_;exact ao) Ym)<|V jp rfl)
end
end
section
structure mm(T:List af)(a1:Nat->Nat)(t:Nat)(r:af)(ps:List ef):Prop where
 row:T[t]? =some r
 M5:r.kind≠6
 d6:∃u f,d6 T a1 40 t=some u/\T[u]? =some (.obj ps f)
 names:∀p∈ps,e9 p.name=true
 cE:(r.kind=8\/r.kind=9)->ps≠[]
noncomputable def M6(T0:List af)(o:Option Nat):List ef:=match o with
 |some u=>match T0[u]?with
  |some q=>q.gP
  |none=>[]
 |none=>[]
noncomputable def fP(T0:List af)(a1:Nat->Nat):af->List ef
 |.obj ps B=>ps
 |.ref d=>M6 T0<|d6 T0 a1 40<|15+d
 |_=>[]
noncomputable def yF(T0:List af)(a1:Nat->Nat)(r:af):List g9:=(fP T0 a1 r).map<|gz T0
section
variable{T0 T:List af}{r:af}
theorem BA{T a7:List af}(x:el T a7):∀{n t u:Nat},d6 T a1 n t=some u->d6 a7 a1 n t=some u
 |0,t,u,h=>by contradiction
 |n+1,t,u,h=>by
  unfold d6 at h⊢;cases aH:T[t]?with
  |none=>rw[aH]at h;contradiction
  |some r=>
   rw[aH]at h;refine V (x.get aH) ?_;cases r with
   |ref d=>
    simp only at h⊢
    split at h
    ·rename_i bC;refine V (bg bC) ?_;exact BA x h
    ·contradiction
   |_=>exact h
structure F0(T0:List af)(a1:Nat->Nat):Prop where
 body:∀d,1<=d->d<=3->∃u ps f,d6 T0 a1 40 (15+d)=some u/\T0[u]? =some (.obj ps f)/\u≠11
def M7{f:Nat}(Y:d6 T0 a1 40 (15+d)=some u)(ae:T0[u]? =some (.obj ps f)):fP T0 a1 (.ref d)=ps:=by delta fP M6;simp only[Y,ae];rfl
structure BB(T0:List af)(ps:List ef):Prop where
 bw:ps≠[]
 gb:ps.length<=3
 names:(ps.map ef.name).Nodup
 mem:∀p∈ps,Bv T0 p/\∃o∈T0,p∈o.gP
def bO.M8(G:bO T){f:Nat}(h:T[t]? =some (.obj ps f))(f7:t≠11):BB T ps:=by
 rcases G.row t _ h with q|q
 ·exact absurd q f7
 ·exact⟨q.bw,q.gb,q.names,λp ab=>⟨q.o4 p ab,_,dL h,ab⟩⟩
def yG(G:bO T0)(D:F0 T0 a1)(bi:hD T0 T)(h:T[t]? =some r)(aJ:r.shaped)(f7:t≠11):mm T a1 t r (fP T0 a1 r)/\BB T0 (fP T0 a1 r):=by
 have GT:=G.h8 bi;cases r with
 |obj ps f=>have h0:=bO.Yh bi h;have W:=G.M8 h0 f7;refine⟨⟨h,(show(8:Nat)≠6 by decide),⟨t,f,?_,h⟩,λp ab=>(W.mem p ab).1.name,λB=>W.bw⟩,W⟩;unfold d6;exact V h rfl
 |ref d=>obtain⟨e,iO,fI⟩:t=15+d/\1<=d/\d<=3:=GT.row t _ h;subst e;obtain⟨u,ps,f,Y,ae,ba⟩:=D.body d iO fI;refine V (M7 Y ae) ?_;have W:=G.M8 ae ba;exact⟨⟨h,(show(9:Nat)≠6 by decide),⟨u,f,BA bi.pre Y,bi.pre.get ae⟩,λp ab=>(W.mem p ab).1.name,λB=>W.bw⟩,W⟩
 |_=>exact Bool.noConfusion aJ
def Yo(G:bO T)(h:T[t]? =some r)(aR:r.val):mm T a1 t r []:=by
 refine⟨h,by rintro q;unfold af.val at aR;rw[q]at aR;exact absurd aR<|by decide,⟨11,0,?_,G.at (i:=11) rfl⟩,by exact by decide,λq=> ?_⟩
 ·unfold d6;refine V h ?_;cases r<;>first|rfl|exact Bool.noConfusion aR
 ·rcases q with q|q<;>(unfold af.val at aR;rw[q]at aR;exact absurd aR<|by decide)
end
end
section
def yH{n:Nat}(h:n<16000000): -lim<(n:Int)/\(n:Int)<lim:=⟨Int.lt_of_lt_of_le (by decide)<|qb n,Int.lt_trans (hx h)<|by decide⟩
section
def wA(h:0<b):iF .mF (J a) (J b) C=some (J<|a%b,C):=(bg<|hx h).trans<|ai (λz=>some (I.int z,C)) (Int.ofNat_fmod a b).symm
def Yp(h:0<b)(k:b<16000000):iF .fdiv (J a) (J b) C=some (J<|a/b,C):=(bg ⟨hx h,(yH k).2⟩).trans<|ai (λz=>some (I.int z,C)) (Int.ofNat_fdiv a b).symm
def M9(h:a<16000000)(k:b<16000000):iF .mul (J a) (J b) C=some (J<|a*b,C):=(bg ⟨(yH h).1,(yH h).2,yH k⟩:(if-lim<(a:Int)/\(a:Int)<lim/\-lim<(b:Int)/\(b:Int)<lim then some (I.int<|(a:Int)*(b:Int),C)else none)=_)
end
def Yq{n:Nat}(an:n<=l.length):pz l (some (n:Int)) none=l.drop n:=by have Y:ni (n:Int) l.length=n:=(bI<|Int.not_lt.mpr<|qb n).trans<|Nat.min_eq_left an;show(l.take l.length).drop (ni (n:Int) l.length)=_;exact V Y<|V (List.take_length) rfl
def Na{o:Nat}{ce ah:Option I}{a b:Option Int}(Y:l5 ce=some a)(ae:l5 ah=some b)(h:C[o]? =some (.list l)):nj (.L o) ce ah C=some (.L C.length,C++[.list<|pz l a b]):=by delta nj;refine V Y<|V ae ?_;show(match C[o]?with|some (b5.list l)=>some (I.L C.length,C++[b5.list<|pz l a b])|_=>none)=_;exact V h rfl
def Nb{i:Int}(h: -lim<i/\i<lim):l5 (some<|.int i)=some (some i):=bg h
def F1{o n:Nat}(h:C[o]? =some (.list l))(hn:n<16000000)(an:n<=l.length):nj (.L o) (some<|J n) none C=some (.L C.length,C++[.list<|l.drop n]):=(Na (Nb<|yH hn) (rfl:l5 none=some none) h).trans<|ai (λl=>some (I.L C.length,C++[b5.list l]))<|Yq an
def yI(h:C[a]? =some (.list l))(h0:a≠0)(ah:i<l.length)(c:∀S,pA C (J i) v (.L a)=some S->hM C a (.list<|l.set i v) S->R):R:=by
 refine c (C.set a<|.list<|l.set i v) ?_ rfl;show(match C[a]?with
  |some (.list l)=>if a≠0/\0<=(i:Int)/\(i:Int)<l.length then some (C.set a<|.list<|l.set (i:Int).toNat v)else none
  |some (.dict l)=>if e2 l (J i)&&decide (l.length<16000000)&&decide (a≠0)then some (C.set a<|.dict<|fB l (J i) v)else none
  |_=>none)=_
 exact V h<|bg ⟨h0,qb _,hx ah⟩
structure kG where
 n:Nat
 a:Nat
 l:List Nat
structure Yr(D:kG):Prop where
 bw:D.l≠[]
 gb:D.l.length<=40
 pos:0<D.a
 Ys:D.n≠D.a
structure hE(D:kG)(b:Nat)(C:St):Prop where
 ok:Yr D
 ns:C[D.n]? =some (.list<|D.l.map J)
 BC:∃i,i<=b/\C[D.a]? =some (.list [J i])
structure hP(D:kG)(b:Nat)(C S:St):Prop where
 w:hE D b S
 f:bx C S [D.a]
section
variable{D:kG}{n:Nat}
def hE.keep(h:hE D b C)(f:bx C S ms)(Y:D.n∉ms)(ae:D.a∉ms):hE D b S:=⟨h.ok,f.get h.ns Y,h.BC.imp λB h=>⟨h.1,f.get h.2 ae⟩⟩
def hE.ci(h:hE D b C)(k:b<=b'):hE D b' C:=⟨h.ok,h.ns,h.BC.imp λB h=>⟨a3 h.1 k,h.2⟩⟩
def hE.refl(h:hE D b C):hP D b C C:=⟨h,.refl _ _⟩
def hE.lt(h:hE D b C):D.a<C.length:=h.BC.elim λB h=>fc h.2
def hP.trans(x:hP D b C S)(y:hP D b' S ox):hP D b' C ox:=⟨y.w,x.f.trans y.f⟩
def hP.go(x:hP D b C S)(f:bx S ox []):hP D b C ox:=⟨x.w.keep f b4 b4,x.f.trans<|f.ci nofun⟩
def hP.push(x:hP D b C S)(g:St):hP D b C (S++g):=x.go<|.push _ _ _
def hP.ci(x:hP D b C S)(k:b<=b'):hP D b' C S:=⟨x.w.ci k,x.f⟩
def lf(h:hE D b C)(aj:b<=10000)(hn:0<n)(aq:∀x S,x<n->a0 a2 (d+1) 98 [.L D.n,.L D.a,J n] C=some (J x,S)->hP D (b+1) C S->bY):bY:=by
 refine h.BC.elim λi ag=> ?_;have ao:0<D.l.length:=List.length_pos_iff.mpr h.ok.bw;have ah:i<16000000:=c1 (a3 ag.1 aj) (by decide);refine yI (i:=0) (v:=J<|i+1) ag.2 (dd h.ok.pos) Nat.one_pos λaw aJ u=> ?_;have du:=u.get h.ns h.ok.Ys;have d2:∀{j:Nat} (aQ:j<D.l.length),fj aw (.L D.n) (J j)=some (J D.l[j]):=λaQ=>kb du<|nw.trans<|ai (Option.map J)<|ji aQ;exact aq _ aw (Nat.mod_lt _ hn) (go λk=>k _ (kb (i:=0) ag.2 rfl) _ _ rfl _ aJ _ _ (nL du) _ _ (wA ao) _ (d2<|Nat.mod_lt i ao) _ _ (Yp ao<|c1 h.ok.gb<|by decide) _ (d2 ao) _ _ (wA (b:=7)<|by decide) _ _ (M9 (a:=3) (by decide) ah) _ _ rfl
  _ _ (M9 (b:=D.l[0]%7+3*i) (c1 (Nat.div_le_self _ _) ah) (c1 (lg (hj (Nat.mod_lt _ (by decide))) (m4 3 (a3 ag.1 aj))) (by decide))) _ _ rfl _ _ (wA hn))
  ⟨⟨h.ok,du,i+1,kX ag.1,u.i7 ag.2⟩,u.bU⟩
def Nc{de:I->St->Option (Option I×St)}{p:Nat->Bool}{g:Nat->I}(ag:en C)(xs:List Nat):(∀x∈xs,de (J x) C=some (if p x then some (g x)else none,C))->iq en de (xs.map J) C=some ((xs.filter p).map g,C):=by
 induction xs with
 |nil=>exactλB=>bg ag
 |cons x xs ay=>
  intro h;refine(sC ag (h x bp)<|ay λy a8=>h y<|bQ _ a8).trans<|ai (λl=>some (l,C)) ?_;cases ab:p x with
  |true=>exact V (xD ab) rfl
  |false=>exact V (vA λq=>b8<|bu ab q) rfl
def Yt{p:Nat->Bool}{g:Nat->I}(Y:bq O cf H C=some (J n,C))(hn:n<16000000)(ae:∀x,x<n->gr O ifs (ar H k<|J x) C=some (p x,C))(ba:∀x,x<n->p x->bq O elt (ar H k<|J x) C=some (g x,C)):
  bq O (.jX elt k cf ifs) H C=some (.L C.length,C++[.list<|((List.range n).filter p).map g]):=
 cF Y ((bg ⟨qb _,hx hn⟩).trans (cF (Nc rfl (List.range n) λx ac=>cF (ae x<|pK.mp ac) (by
  cases ab:p x with
  |true=>exact cF (ba x (pK.mp ac) ab) rfl
  |false=>rfl)) rfl))
def F2{s0 be bF s3:St}{Nd r9 um:Option I}(h0:((gr O ifs (ar H k<|J 0) s0).bind λq=>if q.1 then(bq O elt (ar H k<|J 0) q.2).bind λu=>some (some u.1,u.2)else some (none,q.2))=some (Nd,be))(Y:((gr O ifs (ar H k<|J 1) be).bind λq=>if q.1 then(bq O elt (ar H k<|J 1) q.2).bind λu=>some (some u.1,u.2)else some (none,q.2))=some (r9,bF))(ae:((gr O ifs (ar H k<|J 2) bF).bind λq=>if q.1 then(bq O elt (ar H k<|J 2) q.2).bind λu=>some (some u.1,u.2)else some (none,q.2))=some (um,s3)):
  bq O (.jX elt k (U 3) ifs) H s0=some (.L s3.length,s3++[.list<|Nd.toList++(r9.toList++(um.toList++[]))]):=
 cF (x:=some (I.int 3,s0)) rfl ((bg<|by decide).trans<|cF (sC rfl h0<|sC rfl Y<|sC rfl ae rfl) rfl)
end
end
section
structure e0 where
 m:Nat
 aV:List Nat
noncomputable def dz(k:e0):I:=.ak [J k.m,.ak<|k.aV.map J]
noncomputable def jq:List Nat:=[1,2,4,8,3,32,36,192,0,256,512,513,1024,2048,4096,64]
noncomputable def uL:List (List Nat):=[[],[0],[1],[0,1],[2],[0,2],[1,2],[0,1,2]]
structure jL(k:e0):Prop where
 m:k.m∈jq
 aV:k.aV∈uL
 top:k.m=2048\/k.m=4096->k.aV=[]
structure cZ where
 name:Str
 k:e0
 b0:Nat
 dG:Nat
noncomputable def fQ(p:cZ):I:=.ak [.str p.name,dz p.k,J p.b0,J p.dG]
noncomputable def yJ:List Nat:=[0,0,1,2,4,32,8,16,3]
structure mn(p:cZ):Prop where
 k:jL p.k
 b0:p.b0∈yJ
 dG:p.dG<=2
noncomputable def sM(w x:Nat):Bool:=decide<|PySem.Builtin.bitAnd ((w:Int).fdiv<|2^x) 1≠0
noncomputable def F3(w:Nat):List Nat:=(List.range 3).filter λx=>sM w x
def Nf:∀w,w<8->F3 w∈uL:=by decide
def F4:∀m∈jq,(m=2048\/m=4096)↔PySem.Builtin.bitAnd (m:Int) 6144≠0:=by decide
def nP{α β:Type}{l:List α}{f:α->β}{x:α}(h:l[i]? =some x):(l.map f)[i]? =some (f x):=nw.trans<|ai (Option.map f) h
section
variable{D:kG}{n:Nat}
def Ng{e:b2}{z:Int}(h:bq O e H C=some (.int z,C)):gr O [e] H C=some (decide<|z≠0,C):=cF h (cF (Md _ _) (by cases decide (z≠0)<;>rfl))
def F5{w:Nat}(Y:bq O cf H C=some (J m,C))(hm:m<16000000){e:b2}(he:∀x,bq O e (ar H k<|J x) C=some (J w,C)):bq O (.jX (.E k) k cf [(.b6 .dj (.b6 .oe e<|.E k)<|U 1)]) H C=some (.L C.length,C++[.list<|((List.range m).filter λx=>sM w x).map J]):=Yt Y hm (λx B=>Ng<|Bd (Bd (he x) (fJ<|A3 _ _ _)<|(bg (qb x):(if 0<=(x:Int)then some (I.int<|(w:Int).fdiv<|2^(x:Int).toNat,C)else none)=_)) lK<|di _ _ _) λx B B=>fJ<|A3 _ _ _
def F6(C:St){x:Nat}(h:x<16)(k:∀m∈jq,fj C (.ak [.int 1,.int 2,.int 4,.int 8,.int 3,.int 32,.int 36,.int 192,.int 0,.int 256,.int 512,.int 513,.int 1024,.int 2048,.int 4096,.int 64]) (J x)=some (J m)->R):R:=k _ (List.getElem_mem (l:=jq) h)<|bZ (l:=jq.map J)<|nP<|ji (l:=jq) h
def Yu(h:hE D b C)(aj:b<=9990)(aq:∀k S,jL k->a0 a2 (d+2) 100 [.L D.n,.L D.a] C=some (dz k,S)->hP D (b+2) C S->bY):bY:=by
 refine lf (d:=d) (n:=16) h (a3 aj<|by decide) (by decide) λx be ac a6 fS=>lf (d:=d) (n:=14) fS.w (a3 (kX aj)<|by decide) (by decide) λy bF a8 bR hk=>F6 be ac λm hm im=> ?_;have F7:=fS.trans hk;by_cases aP:PySem.Builtin.bitAnd (m:Int) 6144≠0
 ·have t:g4 bF (.int<|PySem.Builtin.bitAnd (m:Int) 6144)=some true:=p7<|cj aP;exact aq ⟨m,[]⟩ bF ⟨hm,bp,λB=>rfl⟩ (go λk=>k _ _ a6 _ im _ _ bR _ _ (di _ _ _) _ t _ t) F7
 ·have t:g4 bF (.int<|PySem.Builtin.bitAnd (m:Int) 6144)=some false:=p7<|co aP;by_cases sg:7<y
  ·exact aq ⟨m,[]⟩ bF ⟨hm,bp,λB=>rfl⟩ (go λk=>k _ _ a6 _ im _ _ bR _ _ (di _ _ _) _ t _<|k8<|cj<|hx sg) F7
  ·exact aq ⟨m,F3 y⟩ _ ⟨hm,Nf y<|pJ<|Nat.le_of_not_lt sg,λh=>absurd ((F4 m hm).mp h) aP⟩ (go λk=>k _ _ a6 _ im _ _ bR _ _ (di _ _ _) _ t _ (k8<|co λq=>sg<|qJ.mp q) _ _ (F5 (m:=3) rfl (by decide) λB=>fJ rfl) _ _<|yn ea)<|F7.push _
def Nh(h:hE D b C)(aj:b<=9980)(nm:Str)(aq:∀p S,p.name=nm->mn p->a0 a2 (d+3) 101 [.L D.n,.L D.a,.str nm] C=some (fQ p,S)->hP D (b+4) C S->bY):bY:=by
 refine Yu (d:=d) h (a3 aj<|by decide) λq be ao a6 fS=>lf (d:=d+1) (n:=9) fS.w (a3 (fm aj 2)<|by decide) (by decide) λx bF ac bR hk=>lf (d:=d+1) (n:=2) hk.w (a3 (fm aj 3)<|by decide) (by decide) λy s3 a8 d4 j7=> ?_;have an:x<yJ.length:=ac;have F8:fj bF (.ak [.int 0,.int 0,.int 1,.int 2,.int 4,.int 32,.int 8,.int 16,.int 3]) (J x)=some (J yJ[x]):=bZ (l:=yJ.map J)<|nP<|ji an;have F9:=List.getElem_mem an;generalize yJ[x]=dm at F8 F9;have o:∀C,iF .io (.int 1) (.int 2) C=some (.int 3,C):=λB=>rfl;have gD:∀C,iF .io (.int 8) (.int 16) C=some (.int 24,C):=λB=>rfl;by_cases hf:PySem.Builtin.bitAnd (dm:Int) 24≠0
 ·exact aq ⟨nm,q,dm,1+y⟩ s3 rfl ⟨ao,F9,hB (pC a8) 1⟩ (go λk=>k _ _ a6 _ _ (o _) _ _ bR _ F8 _ _ (gD _) _ _ (di _ _ _) _ (p7<|cj hf) _ _ (FF d4) _ _ rfl)<|(fS.trans hk).trans j7
 ·exact aq ⟨nm,q,dm,0⟩ bF rfl ⟨ao,F9,jB _⟩ (go λk=>k _ _ a6 _ _ (o _) _ _ bR _ F8 _ _ (gD _) _ _ (di _ _ _) _<|p7<|co hf)<|(fS.trans hk).ci<|j1 _
end
end
variable{N:Nat->List cZ}{df:List cZ}
section
noncomputable def rl:List (List Str):=[[aa "p"],[aa "p",aa "q"],[aa "p",aa "q",aa "r"],[aa "q"],[aa "q",aa "r"]]
structure lh(N:List cZ):Prop where
 names:N.map cZ.name∈rl
 ok:∀p∈N,mn p
noncomputable def nameP:List (List Str):=[[aa "p"],[aa "p",aa "q"],[aa "p",aa "q",aa "r"]]
def Yv:∀l∈nameP,1<l.length->l.drop 1∈rl:=by decide
def Ni:∀l∈nameP,l∈rl:=by decide
noncomputable def Ga:Nat->Str
 |0=>aa "p"
 |1=>aa "q"
 |_=>aa "r"
def Yw{x:Nat}(h:x<3):fj C (.str<|aa "pqr") (J x)=some (.str<|Ga x):=by rcases gf h with rfl|rfl|rfl<;>rfl
def uM:∀aV∈uL,∀j∈aV,j<3:=by decide
def Yx{x:Nat}{l:List Nat}(h:C[a]? =some (.list<|l.map J)):l4 C (J x) (.L a)=some (decide<|x∈l):=by
 show(match C[a]?with
  |some (.list l)=>if I.key (J x)&&I.iW l then some (decide<|J x∈l)else none
  |some (.dict l)=>if e2 l (J x)then some (cD l<|J x).isSome else none
  |_=>none)=_
 exact V h<|(bg<|dJ (a:=true) rfl<|Bl l).trans<|ai some<|decide_eq_decide.mpr ⟨λq=>(e3 q).elim λy h=>Fi h.2▸h.1,λh=>i2 ⟨x,h,rfl⟩⟩
def BD{α:Type}{l m:List α}{x:α}(h:l.drop k=x::m):l[k]? =some x/\l.drop (k+1)=m:=⟨(ai (l[·]?) (Nat.add_zero k).symm).trans ((List.getElem?_drop (xs:=l) (i:=k) (j:=0)).symm.trans (ai (·[0]?) h)),(List.drop_drop (l:=l) (i:=1) (j:=k)).symm.trans<|ai (List.drop 1) h⟩
section
variable{D:kG}{n:Nat}{N:List cZ}
noncomputable def eA(kH fF hu:Bool):List Nat:=(if kH then[0]else[])++((if fF then[1]else[])++if hu then[2]else[])
def Yy:∀kH fF hu,eA kH fF hu∈uL:=by decide
def Yz(kH fF hu:Bool):(if kH then some (J 0)else none).toList++((if fF then some (J 1)else none).toList++((if hu then some (J 2)else none).toList++[]))=(eA kH fF hu).map J:=by cases kH<;>cases fF<;>cases hu<;>rfl
def YA{l:List Nat}(h:C[sN]? =some (.list<|l.map J))(an:l.length=3){k:e0}(ao:jL k)(aq:∀cx S,jL cx->a0 a2 (d+1) 102 [dz k,.L sN] C=some (dz cx,S)->bx C S []->bY):bY:=by
 have aH:=uM _ ao.aV;have f9:∀j∈k.aV,l[j]? =some (l.getD j 0):=λj aQ=>(ji<|an▸aH j aQ).trans (ai some (by rw[List.getD_eq_getElem?_getD,ji<|an▸aH j aQ];rfl));have de:∀(x:Nat) (s:St) (H:bS),s[sN]? =some (.list<|l.map J)->H 1=some (.L sN)->H 3=some (.ak<|k.aV.map J)->((gr (bk d) [(.aK .dU (.E 6)<|.comp (.av (.E 1)<|.E 7) (.aS 7) (.E 3) [])] (ar H 6<|J x) s).bind λq=>if q.1 then(bq (bk d) (.E 6) (ar H 6<|J x) q.2).bind λu=>some (some u.1,u.2)else some (none,q.2))=some (if decide (x∈k.aV.map λj=>l.getD j 0)then some (J x)else none,s++[.list<|k.aV.map λj=>J<|l.getD j 0]):=λx s H aJ Y ba=>by
  have ag:=yr (O:=bk d) (H:=ar H 6<|J x) (elt:=.av (.E 1)<|.E 7) (i:=7) (cf:=.E 3) (C:=s) (b3:=J) (xs:=k.aV) (g:=λj=>J<|l.getD j 0) (fJ ba) λj aQ=>sy (fJ Y) (fJ rfl)<|kb aJ<|nP<|f9 j aQ;exact cF (MA<|i8 λr=>r _ rfl _ _ ag _<|Yx<|ea.trans<|ai (λl=>some<|b5.list l) (jC (g:=J) (f:=λj=>l.getD j 0) (l:=k.aV)).symm) (by cases decide (x∈k.aV.map λj=>l.getD j 0)<;>rfl)
 have g:∀{s:St} (x:b5),s[sN]? =some (.list<|l.map J)->(s++[x])[sN]? =some (.list<|l.map J):=λx h=>(bx.push _ [x] []).get h b4;exact aq ⟨k.m,eA (decide<|0∈k.aV.map λj=>l.getD j 0) (decide<|1∈k.aV.map λj=>l.getD j 0)<|decide<|2∈k.aV.map λj=>l.getD j 0⟩ _ ⟨ao.m,Yy _ _ _,λt=>V (ao.top t) rfl⟩ (go λr=>r _ rfl _ _ (F2 (de 0 _ _ h rfl rfl) (de 1 _ _ (g _ h) rfl rfl)<|de 2 _ _ (g _<|g _ h) rfl rfl) _ _<|V (Yz _ _ _)<|yn ea)<|(((bx.push _ _ _).trans<|bx.push _ _ _).trans<|bx.push _ _ _).trans<|bx.push _ _ _
def YB{l:List Nat}{cE:List I}(an:l.length=3)(eA:H 3=some (.L sN))(N:List cZ):∀{s:St},s[a]? =some (.list cE)->s[sN]? =some (.list<|l.map J)->(∀p∈N,mn p)->(∀(lQ:List cZ) aY,iq (λs=>hg s (some a) cE) (λx s=>(gq (.iV [10,11,12,13]) x H).bind λcg=>(gr (bk<|d+1) [] cg s).bind λq=>if q.1 then(bq (bk<|d+1) (.ak [(.E 10),(.a5 102 [(.E 11),(.E 3)]),(.E 12),(.E 13)]) cg q.2).bind λu=>some (some u.1,u.2)else some (none,q.2)) (N.map fQ) s=some (lQ.map fQ,aY)->lQ.map cZ.name=N.map cZ.name->(∀p∈lQ,mn p)->bx s aY []->bY)->bY:=by
 induction N with
 |nil=>exactλh B B aq=>aq [] _ (bg<|iw h) rfl nofun (.refl _ _)
 |cons p N ay=>intro s h ab ok aq;have o:=ok p bp;refine YA (d:=d) ab an o.k λcx be YC c f=>ay (f.get h b4) (f.get ab b4) (λq aC=>ok q<|bQ _ aC) λlQ bF bR aF gD f2=> ?_;exact aq (⟨p.name,cx,p.b0,p.dG⟩::lQ) bF (sD (iw h) (cF (x:=gq (.iV [10,11,12,13]) (fQ p) H) rfl<|cF (x:=gr (bk<|d+1) [] _ s) rfl<|cF (i8 λr=>r _ rfl _ rfl _ eA _ _ c _ rfl _ rfl) rfl) bR) (ai (p.name::·) aF) (λq aC=>(cR aC).elim (λe=>e▸⟨YC,o.b0,o.dG⟩)<|gD q)<|f.trans f2
theorem YD(fM:H 0=some (.L D.n))(bh:H 1=some (.L D.a))(xs:List Nat):∀{b:Nat} {s:St},(∀x∈xs,x<3)->hE D b s->b+4*xs.length<=9980->(∀(N:List cZ) aY,iq (λB=>true) (λx s=>(gr (bk<|d+3) [] (ar H 8 x) s).bind λq=>if q.1 then(bq (bk<|d+3) (.a5 101 [(.E 0),(.E 1),(.av (.bc<|.str<|aa "pqr")<|.E 8)]) (ar H 8 x) q.2).bind λu=>some (some u.1,u.2)else some (none,q.2)) (xs.map J) s=some (N.map fQ,aY)->N.map cZ.name=xs.map Ga->(∀p∈N,mn p)->hP D (b+4*xs.length) s aY->bY)->bY:=by
 induction xs with
 |nil=>exactλB h B aq=>aq [] _ rfl rfl nofun h.refl
 |cons x xs ay=>
  intro b s ac h aj aq;have e:b+4+4*xs.length=b+4*(xs.length+1):=by lia
  refine Nh (d:=d) h (a3 (cT _ _) aj) (Ga x) λp be hn ok c fS=>ay (λy a8=>ac y<|bQ _ a8) fS.w (e▸aj) λN bF bR aF gD hk=> ?_;exact aq (p::N) bF (sD rfl (cF (x:=gr (bk<|d+3) [] _ s) rfl<|cF (i8 λr=>r _ fM _ bh _ rfl _ (Yw<|ac x bp) _ _ c) rfl) bR) (ui.mpr ⟨hn,aF⟩) (λq aC=>(cR aC).elim (λe=>e▸ok)<|gD q)<|e▸fS.trans hk
def YE{α:Type}{l:List α}{x:α}(h:l[i]? =some x):l.set i x=l:=by obtain⟨an,rfl⟩:=h6 h;exact List.set_getElem_self an
def Nj(h:hE D b C)(aj:b<=9900)(fE:C[a]? =some (.list<|N.map fQ))(Nk:N.map cZ.name∈nameP)(qI:∀p∈N,mn p)(aT:a≠D.a)(qQ:0<C.length)(aq:∀c lQ S,a0 a2 (d+4) 103 [.L D.n,.L D.a,.L a] C=some (.L c,S)->S[c]? =some (.list<|lQ.map fQ)->lh lQ->C.length<=c->hP D (b+8) C S->bY):bY:=by
 refine lf (d:=d+2) (n:=3) h (a3 aj<|by decide) (by decide) λx be B YF fS=>lf (d:=d+2) (n:=3) fS.w (a3 (fm aj 1)<|by decide) (by decide) λy bF B YG hk=>lf (d:=d+2) (n:=3) hk.w (a3 (fm aj 2)<|by decide) (by decide) λz s3 B YH j7=> ?_;have t:∀{v w:Nat} {s aY:St} {H:bS},H 0=some (.L D.n)->H 1=some (.L D.a)->a0 a2 (d+3) 98 [.L D.n,.L D.a,J 3] s=some (J v,aY)->((gr (bk<|d+3) [] (ar H 10<|J w) s).bind λq=>if q.1 then(bq (bk<|d+3) (.a5 98 [(.E 0),(.E 1),(U 3)]) (ar H 10<|J w) q.2).bind λu=>some (some u.1,u.2)else some (none,q.2))=some (some<|J v,aY):=λfM bh c=>cF (x:=some (true,_)) rfl<|cF (i8 λr=>r _ fM _ bh _ _ c) rfl;have a6:=F2 (O:=bk<|d+3) (H:=ck [.L D.n,.L D.a,.L a]) (t rfl rfl YF) (t rfl rfl YG)<|t rfl rfl YH;have iK:=((fS.trans hk).trans j7).push [.list<|[x,y,z].map J];refine YB (d:=d+2) (l:=[x,y,z]) (H:=ar (ck [.L D.n,.L D.a,.L a]) 3<|.L s3.length) rfl rfl N (iK.f.get fE<|fv aT) ea qI λjr s4 eR dM p5 f4=> ?_;have bR:=rc (O:=bk<|d+3) (H:=ar (ck [.L D.n,.L D.a,.L a]) 3<|.L s3.length) (elt:=.ak [(.E 10),(.a5 102 [(.E 11),(.E 3)]),(.E 12),(.E 13)]) (cL:=.iV [10,11,12,13]) (cf:=.E 2) (ifs:=[]) rfl (lO<|iK.f.get fE<|fv aT) eR;have wB:=(iK.go f4).push [.list<|jr.map fQ];have an:C.length<=s4.length:=(iK.go f4).f.len;have Nl:(s4++[b5.list<|jr.map fQ])[s4.length]? =some (.list<|jr.map fQ):=ea;have Gb:s4.length≠D.a:=dd<|c7 h.lt an;have BE:jr.map cZ.name∈rl:=V dM<|Ni _ Nk;refine lf (d:=d+2) (n:=10) wB.w (a3 (fm aj 3)<|by decide) (by decide) λc pN ag gM sO=> ?_;have uN:=sO.f.get Nl<|fv Gb;have BF:=nL uN;by_cases ba:c<3
 ·have mX:=lH (C:=pN)<|cj<|hx ba;have js:=bN (C:=pN) (a:=c) (b:=3)<|dV ba;by_cases se:c<jr.length
  ·have ab:=ji se;refine Nh (d:=d) sO.w (a3 (fm aj 4)<|by decide) jr[c].name λq Ak aC YI fN BG=> ?_;have Gc:=BG.f.get uN<|fv Gb;refine yI (i:=c) (v:=fQ q) Gc (dd<|c7 qQ an) (V (c2 _) se) λBH aJ u=> ?_;have f7:D.n≠s4.length:=λe=>by
    have q:=BG.w.ns;rw[e,Gc]at q;cases Nm:jr with
    |nil=>rw[Nm]at se;exact absurd se<|ua _
    |cons y ys=>
     rw[Nm]at q;cases an:D.l with
     |nil=>exact BG.w.ok.bw an
     |cons z zs=>rw[an]at q;exact h2 (b5.list.inj<|br q) λe B=>I.noConfusion e
   have BI:=(wB.trans sO).trans BG;exact aq s4.length (jr.set c q) BH (go λk=>k _ _ a6 _ _ bR _ _ gM _ mX _ _ BF _ (lH<|cj<|hx se) _ (kb uN<|nP ab) _ (bZ (i:=0) rfl) _ _ fN _ aJ _<|bN (a:=c) (b:=3)<|dV ba) ((u.i7 Gc).trans<|ai (λl=>some<|b5.list l) List.map_set.symm)
    ⟨V List.map_set<|V (YE<|aC▸nP ab) BE,λp ab=>(List.mem_or_eq_of_mem_set ab).elim (p5 p) λe=>e▸YI⟩ an ⟨BI.w.keep u.bU (fv f7)<|fv Gb.symm,⟨a3 BI.f.len u.bU.len,λx ac hm=>(u.bU.same x (c7 ac BI.f.len)<|fv<|dV<|c7 ac an).trans<|BI.f.same x ac hm⟩⟩
  ·exact aq s4.length jr pN (go λk=>k _ _ a6 _ _ bR _ _ gM _ mX _ _ BF _ (lH<|co λq=>se<|qJ.mp q) _ js) uN ⟨BE,p5⟩ an<|(wB.trans sO).ci<|cT _ 4
 ·have mX:=lH (C:=pN)<|co λq=>ba<|qJ.mp q;by_cases he:c=3
  ·by_cases Y:1<jr.length
   ·have eI:=F1 (n:=1) uN (by decide)<|V (c2 _)<|hj Y;exact aq pN.length (jr.drop 1) _ (go λk=>k _ _ a6 _ _ bR _ _ gM _ mX _ (cY (b:=3) he) _ _ BF _ (k8<|cj<|hx Y) _ _ eI) (ea.trans<|ai (λl=>some<|b5.list l) List.map_drop.symm) ⟨V List.map_drop<|V dM<|Yv _ Nk<|dM▸V (c2 _) Y,λp ab=>p5 p<|List.mem_of_mem_drop ab⟩ (a3 an<|a3 (hj<|fc Nl) sO.f.len)<|((wB.trans sO).push _).ci<|cT _ 4
   ·exact aq s4.length jr pN (go λk=>k _ _ a6 _ _ bR _ _ gM _ mX _ (cY (b:=3) he) _ _ BF _<|k8<|co λq=>Y<|qJ.mp q) uN ⟨BE,p5⟩ an<|(wB.trans sO).ci<|cT _ 4
  ·exact aq s4.length jr pN (go λk=>k _ _ a6 _ _ bR _ _ gM _ mX _<|bN (b:=3) he) uN ⟨BE,p5⟩ an<|(wB.trans sO).ci<|cT _ 4
theorem YJ(h:hE D b C)(aj:b<=5000)(qQ:0<C.length)(aq:∀c fH du n2 o7 wC jr S,a0 a2 (d+5) 104 [.L D.n,.L D.a] C=some (.L c,S)->S[c]? =some (.list [.L fH,.L du,.L n2])->S[fH]? =some (.list<|o7.map fQ)->S[du]? =some (.list<|wC.map fQ)->S[n2]? =some (.list<|jr.map fQ)->
   lh o7->lh wC->lh jr->(C.length<=fH/\C.length<=du/\C.length<=n2/\C.length<=c)->(c≠fH/\c≠du/\c≠n2)->hP D (b+40) C S->bY):bY:=by
 refine lf (d:=d+3) (n:=3) h (a3 aj<|by decide) (by decide) λv s0 aR oT BJ=>YD (d:=d+1) (H:=ck [.L D.n,.L D.a]) rfl rfl (List.range<|1+v) (λx ac=>c7 (pK.mp ac)<|Nat.add_le_of_le_sub' (by decide)<|pC aR) BJ.w (by rw[tY];lia) λo7 be a6 aD gT fS=> ?_;rw[tY]at fS;have f:o7.map cZ.name∈nameP:=by rw[aD];rcases gf aR with rfl|rfl|rfl<;>decide
 have hn:bq (bk<|d+4) (.b6 .add (U 1)<|.a5 98 [(.E 0),(.E 1),(U 3)]) (ck [.L D.n,.L D.a]) C=some (J<|1+v,s0):=jk λr=>r _ _ oT _ _ rfl;have t3:bq (bk<|d+4) (.jX (.a5 101 [(.E 0),(.E 1),(.av (.bc<|.str<|aa "pqr")<|.E 8)]) 8 (.b6 .add (U 1)<|.a5 98 [(.E 0),(.E 1),(U 3)]) []) (ck [.L D.n,.L D.a]) C=some (.L be.length,be++[.list<|o7.map fQ]):=cF hn ((bg ⟨qb<|1+v,hx<|show 1+v<16000000 by lia⟩).trans<|cF a6 rfl)
 have hk:=((BJ.trans fS).ci (b':=b+13)<|by lia).push [.list<|o7.map fQ];have nQ:D.a<be.length:=c7 h.lt (BJ.trans fS).f.len;have fV:(be++[b5.list<|o7.map fQ])[be.length]? =some (.list<|o7.map fQ):=ea;refine Nj (d:=d) hk.w (by lia) fV f gT (dd nQ) (c7 qQ hk.f.len) λdu wC bF bR g1 YK dW j7=> ?_;have h0:=j7.f.get fV<|fv<|dd nQ;refine Nj (d:=d) j7.w (by lia) h0 f gT (dd nQ) (c7 qQ (hk.trans j7).f.len) λn2 jr s3 d4 bd YL d3 iK=> ?_;have h9:=iK.f.get g1<|fv<|dd<|c7 (c7 h.lt hk.f.len) dW;have eh:=iK.f.get h0<|fv<|dd nQ;have p:=bx.push s3 [.list [.L be.length,.L du,.L n2]] [];have q:=(hk.trans j7).f.len;exact aq s3.length be.length du n2 o7 wC jr _ (go λk=>k _ _ t3 _ _ bR _ _ d4) ea (p.get eh b4) (p.get h9 b4) (p.get bd b4) ⟨Ni _ f,gT⟩ YK YL ⟨(BJ.trans fS).f.len,a3 hk.f.len dW,a3 q d3,a3 q iK.f.len⟩ ⟨dd<|fc eh,dd<|fc h9,dd<|fc bd⟩ ((((hk.trans j7).trans iK).push _).ci<|by lia)
end
end
noncomputable def nR(m:Nat):Nat:=if m=4096\/m=2048 then m else m|||512
noncomputable def lR(p:cZ):e0:=⟨if gk p.b0 then nR p.k.m else p.k.m,p.k.aV⟩
noncomputable def hq(m:Nat):List Nat:=(List.range 13).filter λx=>sM m x
noncomputable def m5(k:e0):Nat:=k.aV.length+(hq k.m).length
noncomputable def yK(m:Nat):Bool:=decide<|PySem.Builtin.bitAnd (m:Int) 6144≠0
noncomputable def jM(f:Nat->Nat->Bool)(a b:e0):Bool:=decide (a.m=b.m)&&(decide (m5 a=1)==decide (m5 b=1))&&(yK a.m||((a.aV.all λi=>b.aV.any λj=>f i j)&&(b.aV.all λj=>a.aV.any λi=>f i j)))
noncomputable abbrev cc(k:Nat×Nat):I:=.ak [J k.1,J k.2]
noncomputable def jN(f:Nat->Nat->Bool):List (I×I):=[(cc (0,0),.bool<|f 0 0),(cc (0,1),.bool<|f 0 1),(cc (0,2),.bool<|f 0 2),(cc (1,0),.bool<|f 1 0),(cc (1,1),.bool<|f 1 1),(cc (1,2),.bool<|f 1 2),(cc (2,0),.bool<|f 2 0),(cc (2,1),.bool<|f 2 1),(cc (2,2),.bool<|f 2 2)]
def YM{α:Type}{P:α->Prop}{a:α}{l:List α}(h:P a)(k:∀x∈l,P x):∀x∈a::l,P x:=λx ac=>(cR ac).elim (λe=>e▸h)<|k x
def o8:d0 C .eq (J a) (J b)=some (decide<|a=b):=(A4 _ _ _).trans<|ai some<|decide_eq_decide.mpr ⟨λh=>k0 h,λh=>ai (λn:Nat=>(n:Int)) h⟩
def mq{α:Type}{l:List α}{f:α->I}:kS .len (.ak<|l.map f) C=some (J l.length,C):=ai (λn:Nat=>some (J n,C))<|c2 f
section
def BK(h:C[bL]? =some (.dict<|jN f))(ah:i<3)(aQ:j<3):fj C (.L bL) (.ak [J i,J j])=some (.bool<|f i j):=by rcases gf ah with rfl|rfl|rfl<;>rcases gf aQ with rfl|rfl|rfl<;>exact Bg h rfl rfl
def YN(h:m∈jq):a0 a2 (d+1) 99 [.int<|PySem.Builtin.bitOr (m:Int) 512] C=some (J<|nR m,C):=by
 refine(?_:∀m∈jq,a0 a2 (d+1) 99 [.int<|PySem.Builtin.bitOr (m:Int) 512] C=some (J<|nR m,C)) m h;delta jq
 iterate 16 (refine YM ?_ ?_;exact V (su rfl rfl) rfl)
 exact nofun
def BL{p:cZ}(ab:mn p):a0 a2 (d+2) 105 [fQ p] C=some (dz<|lR p,C):=by
 delta lR;cases hf:gk p.b0 with
 |true=>exact go λr=>r _ (bZ (i:=2) rfl) _ _ (di _ _ _) _ (dH (Bq C p.b0) hf) _ (bZ (i:=1) rfl) _ (bZ (i:=0) rfl) _ _ (rfl:iF .io (J p.k.m) (.int 512) C=_) _ _ (FF<|YN ab.k.m) _ (bZ (i:=1) rfl) _<|bZ (i:=1) rfl
 |false=>exact go λr=>r _ (bZ (i:=2) rfl) _ _ (di _ _ _) _ (dH (Bq C p.b0) hf) _ (bZ (i:=1) rfl) _ (bZ (i:=0) rfl) _ (bZ (i:=1) rfl) _<|bZ (i:=1) rfl
def Nn{k:e0}(aq:∀S,a0 a2 (d+1) 106 [dz k] C=some (J<|m5 k,S)->bx C S []->bY):bY:=aq _ (go λr=>r _ (bZ (i:=1) rfl) _ _ mq _ _ (F5 (m:=13) rfl (by decide) λx=>sy (fJ rfl) lK<|bZ (i:=0) rfl) _ _ (nL ea) _ _ rfl)<|bx.push _ [.list<|(hq k.m).map J] _
def No{w:Nat}{aD aF:b2}{b:e0}{g:Nat->Nat->Bool}(hw:k≠w)(YO:2≠w)(ac:∀{i y:Nat} {s:St} {H:bS},i<3->y∈b.aV->s[bL]? =some (.dict<|jN f)->H 2=some (.L bL)->bq (bk d) (.av (.E 2)<|.ak [aD,aF]) (ar (ar H w<|J i) 7<|J y) s=some (.bool<|g i y,s))(aV:List Nat):∀{C:St} {H:bS},(∀i∈aV,i<3)->C[bL]? =some (.dict<|jN f)->H k=some (dz b)->H 2=some (.L bL)->
  (∀aU S,fX (λB=>true) (λx H s=>cG (bk d) [
   .ite (.aK .eq (.cw .len (.comp (.E 7) (.aS 7) (.av (.E k) (U 1)) [(.av (.E 2) (.ak [aD,aF]))])) (U 0)) [.ret (.bc (.bool false))] []] (ar H w x) s) (aV.map J) H C=some (if aV.all λi=>b.aV.any (g i)then .next else .ret (.bool false),aU,S)->bx C S []->(∀i,i≠w->aU i=H i)->bY)->bY:=by
 induction aV with
 |nil=>exactλB B B B aq=>aq _ _ rfl (.refl _ _) λB B=>rfl
 |cons i aV ay=>
  intro C H ba aJ ao ae aq;have dK:=(p4 H (J i) hw).trans ao;have ag:=rc (O:=bk d) (elt:=.E 7) (cL:=.aS 7) (ifs:=[(.av (.E 2)<|.ak [aD,aF])]) (iv:=none) (sy (fJ dK) (lK (v:=.int 1))<|bZ (i:=1) rfl) rfl<|Nc (p:=g i) (g:=J) rfl b.aV λy a8=>MB<|ac (ba i bp) a8 aJ ae;have le:=nL (C:=C++[b5.list<|(b.aV.filter<|g i).map J]) ea;have k2:=bx.push C [.list<|(b.aV.filter<|g i).map J] [];cases BM:b.aV.any (g i)with
  |false=>exact aq _ _ (V (show(i::aV).all (λi=>b.aV.any<|g i)=false from V List.all_cons<|V BM rfl)<|mS rfl<|eK λr=>r _ _ ag _ _ le _<|cY (b:=0)<|yL.mpr<|List.filter_eq_nil_iff.mpr λy a8 q=>b8<|bu BM<|p2.mpr ⟨y,a8,q⟩) k2 λj aQ=>p4 _ _ aQ
  |true=>refine ay (H:=ar H w<|J i) (λj aQ=>ba j<|bQ _ aQ) (k2.get aJ b4) dK ((p4 _ _ YO).trans ae) λaU S e f1 f2=>aq aU S (V (show(i::aV).all (λi=>b.aV.any<|g i)=aV.all λi=>b.aV.any (g i)from V List.all_cons<|V BM rfl)<|eT rfl (eK λr=>r _ _ ag _ _ le _<|bN (b:=0) λq=> ?_) e) (k2.trans f1) λj aQ=>(f2 j aQ).trans<|p4 _ _ aQ;exact(p2.mp BM).elim λy a8=>List.filter_eq_nil_iff.mp (yL.mp q) y a8.1 a8.2
def Np{a b:e0}(aT:∀i∈a.aV,i<3)(aj:∀i∈b.aV,i<3)(aJ:C[bL]? =some (.dict<|jN f))(aq:∀S,a0 a2 (d+2) 107 [dz a,dz b,.L bL] C=some (.bool<|jM f a b,S)->bx C S []->bY):bY:=by
 have j8:∀{k:e0} {C:St},fj C (dz k) (.int 0)=some (J k.m):=bZ (i:=0) rfl;by_cases hm:a.m=b.m
 ·refine Nn (d:=d) (C:=C) (k:=a) λaw a6 f1=>Nn (d:=d) (C:=aw) (k:=b) λbn bR f2=> ?_;have mr:=f1.trans f2;have bw:d0 bn .bw (.bool<|decide<|m5 a=1) (.bool<|decide<|m5 b=1)=some (!(decide (m5 a=1)==decide (m5 b=1))):=rfl;delta jM at aq;rw[cj hm]at aq;cases ag:(decide (m5 a=1)==decide (m5 b=1))with
  |false=>rw[ag]at aq bw;exact aq bn (go λr=>r _ j8 _ j8 _ (ke hm) _ _ a6 _ (o8 (b:=1)) _ _ bR _ (o8 (b:=1)) _ bw) mr
  |true=>
   rw[ag]at aq bw;have tt:g4 bn (.int<|PySem.Builtin.bitAnd (a.m:Int) 6144)=some (yK a.m):=rfl;cases aP:yK a.m with
   |true=>rw[aP]at aq tt;exact aq bn (go λr=>r _ j8 _ j8 _ (ke hm) _ _ a6 _ (o8 (b:=1)) _ _ bR _ (o8 (b:=1)) _ bw _ j8 _ _ (di _ _ _) _ tt) mr
   |false=>
    rw[aP]at aq tt;have BN:=mr.get aJ b4;refine No (d:=d+1) (f:=f) (w:=3) (k:=1) (aD:=.E 3) (aF:=.E 7) (b:=b) (g:=f) (by decide) (by decide) (λah a8 aJ ae=>i8 λr=>r _ ae _ rfl _ rfl _<|BK aJ ah<|aj _ a8) a.aV (H:=ck [dz a,dz b,.L bL]) aT BN rfl rfl λkg cA g1 bd cQ=> ?_;have s3:=lM (O:=bk<|d+1) (H:=ck [dz a,dz b,.L bL]) (C:=bn) (cf:=.av (.E 0)<|U 1) (jk λr=>r _<|bZ (i:=1) rfl) g1;cases Y:a.aV.all λi=>b.aV.any λj=>f i j with
    |false=>rw[Y]at aq;rw[show(a.aV.all λi=>b.aV.any<|f i)=false from Y]at s3;exact aq cA (go λr=>r _ j8 _ j8 _ (ke hm) _ _ a6 _ (o8 (b:=1)) _ _ bR _ (o8 (b:=1)) _ bw _ j8 _ _ (di _ _ _) _ tt _ _ _ s3)<|mr.trans bd
    |true=>
     rw[Y]at aq;rw[show(a.aV.all λi=>b.aV.any<|f i)=true from Y]at s3;refine No (d:=d+1) (f:=f) (w:=4) (k:=0) (aD:=.E 7) (aF:=.E 4) (b:=a) (g:=λj i=>f i j) (by decide) (by decide) (λah a8 aJ ae=>i8 λr=>r _ ae _ rfl _ rfl _<|BK aJ (aT _ a8) ah) b.aV aj (bd.get BN b4) (cQ 0<|by decide) (cQ 2<|by decide) λBO fD dK fk B=> ?_;have s4:=lM (O:=bk<|d+1) (H:=kg) (C:=cA) (cf:=.av (.E 1)<|U 1) (i8 λr=>r _ (cQ 1<|by decide) _<|bZ (i:=1) rfl) dK;cases ae:b.aV.all λj=>a.aV.any λi=>f i j with
     |false=>rw[ae]at aq s4;exact aq fD (go λr=>r _ j8 _ j8 _ (ke hm) _ _ a6 _ (o8 (b:=1)) _ _ bR _ (o8 (b:=1)) _ bw _ j8 _ _ (di _ _ _) _ tt _ _ _ s3 _ _ _ s4)<|(mr.trans bd).trans fk
     |true=>rw[ae]at aq s4;exact aq fD (go λr=>r _ j8 _ j8 _ (ke hm) _ _ a6 _ (o8 (b:=1)) _ _ bR _ (o8 (b:=1)) _ bw _ j8 _ _ (di _ _ _) _ tt _ _ _ s3 _ _ _ s4)<|(mr.trans bd).trans fk
 ·delta jM at aq;rw[co hm]at aq;exact aq C (go λr=>r _ j8 _ j8 _<|kd hm)<|.refl _ _
end
section
noncomputable def mu(f:Nat->Nat->Bool)(p q:cZ):Bool:=decide (dj p.b0 25=dj q.b0 25)&&(ii p.b0==ii q.b0)&&decide (p.dG=q.dG)&&jM f (lR p) (lR q)
noncomputable def o9(f:Nat->Nat->Bool):List cZ->List cZ->Bool
 |p::x,q::y=>mu f p q&&o9 f x y
 |B,cq=>true
noncomputable def m6(f:Nat->Nat->Bool)(x y:List cZ):Bool:=decide (x.map cZ.name=y.map cZ.name)&&o9 f x y
noncomputable def Nq:List dA:=[
  .assign (.aS 4) (.av (.E 0)<|.E 3),
  .assign (.aS 5) (.av (.E 1)<|.E 3),
  .ite (.or (.aK .bw (.b6 .dj (.av (.E 4)<|U 2)<|U 25)<|.b6 .dj (.av (.E 5)<|U 2)<|U 25)<|.or (.aK .bw (.aK .eq (.b6 .dj (.av (.E 4)<|U 2)<|U 34)<|U 0)<|.aK .eq (.b6 .dj (.av (.E 5)<|U 2)<|U 34)<|U 0)<|.aK .bw (.av (.E 4)<|U 3)<|.av (.E 5)<|U 3) [
   .ret (.bc (.bool false))] [],
  .ite (.not (.a5 107 [(.a5 105 [(.E 4)]),(.a5 105 [(.E 5)]),(.E 2)])) [
   .ret (.bc (.bool false))] []]
def jL.lt{k:e0}(h:jL k):∀i∈k.aV,i<3:=uM _ h.aV
def BP:∀l∈rl,∀s∈l,e9 s:=by decide
def Gd:∀l∈rl,l.length<=3:=by decide
def lh.gb{N:List cZ}(h:lh N):N.length<=3:=c2 (as:=N) cZ.name▸Gd _ h.names
def Nr{n:Nat}{l:List Str}(h:∀s∈l,e9 s):I.gR n (l.map .str)=true:=by
 induction l with
 |nil=>rfl
 |cons s l ay=>exact dJ (by cases n<;>exact h s bp)<|ay λq aC=>h q<|bQ _ aC
section
variable{lj sP:Nat}{a4 cI:List cZ}
def Nt{x y:Bool}:d0 C .bw (.bool x) (.bool y)=some (!(x==y)):=rfl
def Nu:∀x y:Bool,(!((!x)==(!y)))= !(x==y):=by decide
def sQ{p:cZ}:d0 C .eq (.int<|PySem.Builtin.bitAnd (p.b0:Int) 34) (.int 0)=some (!ii p.b0):=(A4 _ _ _).trans<|ai some ((decide_not (p:=PySem.Builtin.bitAnd (p.b0:Int) 34=0))▸(Bool.not_not _).symm:decide (PySem.Builtin.bitAnd (p.b0:Int) 34=0)= !decide (¬PySem.Builtin.bitAnd (p.b0:Int) 34=0))
def YQ{p q:cZ}(h:¬dj p.b0 25=dj q.b0 25):mu f p q=false:=by delta mu;exact V (co h) rfl
def YR{p q:cZ}(h:(ii p.b0==ii q.b0)=false):mu f p q=false:=by delta mu;exact V h<|V (Bool.and_false _) rfl
def YS{p q:cZ}(h:¬p.dG=q.dG):mu f p q=false:=by delta mu;exact V (co h)<|V (Bool.and_false _) rfl
def YT{p q:cZ}(a6:dj p.b0 25=dj q.b0 25)(bR:(ii p.b0==ii q.b0)=true)(d4:p.dG=q.dG):mu f p q=jM f (lR p) (lR q):=by delta mu;exact V (cj a6)<|V bR<|V (cj d4) rfl
def YU(m7:∀p∈a4,mn p)(BQ:∀p∈cI,mn p)(xs:List cZ):∀{ys:List cZ} {k:Nat} {C:St} {H:bS},a4.drop k=xs->cI.drop k=ys->xs.length=ys.length->C[lj]? =some (.list<|a4.map fQ)->C[sP]? =some (.list<|cI.map fQ)->C[bL]? =some (.dict<|jN f)->H 0=some (.L lj)->H 1=some (.L sP)->H 2=some (.L bL)->
  (∀aU S,fX (λB=>true) (λx H s=>cG (bk<|d+3) Nq (ar H 3 x) s) ((List.range' k xs.length).map J) H C=some (if o9 f xs ys then .next else .ret (.bool false),aU,S)->bx C S []->bY)->bY:=by
 induction xs with
 |nil=>
  intro ys k C H _ _ an _ _ _ _ _ _ aq;cases ys with
  |nil=>exact aq H C rfl<|.refl _ _
  |cons=>exact Nat.noConfusion an
 |cons p xs ay=>
  intro ys k C H aD aF an Y ae ba fM bh bf aq;cases ys with
  |nil=>exact Nat.noConfusion an
  |cons q ys=>
   have a:=BD aD;have b:=BD aF;have ab:=m7 p<|dL a.1;have aC:=BQ q<|dL b.1;have yM:=kb Y<|nP (f:=fQ) a.1;have yN:=kb ae<|nP (f:=fQ) b.1;have gE:∀{p:cZ},fj C (fQ p) (.int 2)=some (J p.b0):=bZ (i:=2) rfl;have kq:∀{p:cZ},fj C (fQ p) (.int 3)=some (J p.dG):=bZ (i:=3) rfl;have stop:mu f p q=false->∀{cg aw},cG (bk<|d+3) Nq (ar H 3<|J k) C=some (.ret<|.bool false,cg,aw)->bx C aw []->bY:=λh B B st g=>aq _ _ (V (show o9 f (p::xs) (q::ys)=false from ai (·&&o9 f xs ys) h)<|mS rfl st) g;by_cases a6:dj p.b0 25=dj q.b0 25
   ·cases bR:(ii p.b0==ii q.b0)with
    |false=>exact stop (YR bR) (eK λr=>r _ fM _ rfl _ yM _ bh _ rfl _ yN _ rfl _ gE _ _ (di _ _ _) _ rfl _ gE _ _ (di _ _ _) _ (kC<|co λh=>h a6) _ rfl _ gE _ _ (di _ _ _) _ sQ _ rfl _ gE _ _ (di _ _ _) _ sQ _ (dH Nt ((Nu _ _).trans (ai (!·) bR))))<|.refl _ _
    |true=>
     have nb:=dH (Nt (C:=C)) ((Nu _ _).trans (ai (!·) bR));by_cases d4:p.dG=q.dG
     ·refine Np (d:=d+1) (f:=f) (a:=lR p) (b:=lR q) ab.k.lt aC.k.lt ba λaw ca cV=> ?_;have e:=YT (f:=f) a6 bR d4;cases pa:jM f (lR p) (lR q)with
      |false=>rw[pa]at ca;exact stop (e.trans pa) (eK λr=>r _ fM _ rfl _ yM _ bh _ rfl _ yN _ rfl _ gE _ _ (di _ _ _) _ rfl _ gE _ _ (di _ _ _) _ (kC<|co λh=>h a6) _ rfl _ gE _ _ (di _ _ _) _ sQ _ rfl _ gE _ _ (di _ _ _) _ sQ _ nb _ rfl _ kq _ rfl _ kq _ (ke d4) _ rfl _ _ (BL ab) _ rfl _ _ (BL aC) _ bf _ _ ca) cV
      |true=>rw[pa]at ca;exact ay (H:=ar (ar (ar H 3<|J k) 4<|fQ p) 5<|fQ q) a.2 b.2 (nq an) (cV.get Y b4) (cV.get ae b4) (cV.get ba b4) fM bh bf λaU S g1 bd=>aq aU S (V (show o9 f (p::xs) (q::ys)=o9 f xs ys from(ai (·&&o9 f xs ys)<|e.trans pa))<|eT rfl (eK λr=>r _ fM _ rfl _ yM _ bh _ rfl _ yN _ rfl _ gE _ _ (di _ _ _) _ rfl _ gE _ _ (di _ _ _) _ (kC<|co λh=>h a6) _ rfl _ gE _ _ (di _ _ _) _ sQ _ rfl _ gE _ _ (di _ _ _) _ sQ _ nb _ rfl _ kq _ rfl _ kq _ (ke d4) _ rfl _ _ (BL ab) _ rfl _ _ (BL aC) _ bf _ _ ca) g1)<|cV.trans bd
     ·exact stop (YS d4) (eK λr=>r _ fM _ rfl _ yM _ bh _ rfl _ yN _ rfl _ gE _ _ (di _ _ _) _ rfl _ gE _ _ (di _ _ _) _ (kC<|co λh=>h a6) _ rfl _ gE _ _ (di _ _ _) _ sQ _ rfl _ gE _ _ (di _ _ _) _ sQ _ nb _ rfl _ kq _ rfl _ kq _<|kd d4)<|.refl _ _
   ·exact stop (YQ a6) (eK λr=>r _ fM _ rfl _ yM _ bh _ rfl _ yN _ rfl _ gE _ _ (di _ _ _) _ rfl _ gE _ _ (di _ _ _) _<|kC<|cj a6)<|.refl _ _
def Nv(aQ:H j=some (.L a))(aT:C[a]? =some (.list<|a4.map fQ)):bq O (.comp (.av (.E 10)<|U 0) (.aS 10) (.E j) []) H C=some (.L C.length,C++[.list<|(a4.map cZ.name).map .str]):=(yq (g:=λp=>.str p.name) (fJ aQ) (lO aT) (iw aT) λp B=>sy (fJ<|A3 H 10<|fQ p) (lK (v:=.int 0))<|bZ (i:=0) rfl).trans<|ai (λl=>some (I.L C.length,C++[b5.list l])) (jC (g:=I.str) (f:=cZ.name) (l:=a4)).symm
def YV(m7:lh a4)(BQ:lh cI)(Y:C[lj]? =some (.list<|a4.map fQ))(ae:C[sP]? =some (.list<|cI.map fQ))(ba:C[bL]? =some (.dict<|jN f))(aq:∀S,a0 a2 (d+4) 108 [.L lj,.L sP,.L bL] C=some (.bool<|m6 f a4 cI,S)->bx C S []->bY):bY:=by
 have a6:=Nv (O:=bk<|d+3) (j:=0) (H:=ck [.L lj,.L sP,.L bL]) rfl Y;have f1:=bx.push C [.list<|(a4.map cZ.name).map .str] [];have g1:(C++[b5.list<|(a4.map cZ.name).map .str])[C.length]? =_:=ea;generalize C++[b5.list<|(a4.map cZ.name).map .str]=aw at a6 f1 g1;have bR:=Nv (O:=bk<|d+3) (j:=1) (H:=ck [.L lj,.L sP,.L bL]) rfl<|f1.get ae b4;have f2:=bx.push aw [.list<|(cI.map cZ.name).map .str] [];have bd:(aw++[b5.list<|(cI.map cZ.name).map .str])[aw.length]? =_:=ea;have g1:=f2.get g1 b4;have mr:=f1.trans f2;generalize aw++[b5.list<|(cI.map cZ.name).map .str]=bn at bR mr g1 bd;have f7:d0 bn .bw (.L C.length) (.L aw.length)=some (!decide (a4.map cZ.name=cI.map cZ.name)):=by
  refine ai (Option.map (!·)) (?_:ty bn (.L C.length) (.L aw.length)=some (decide<|a4.map cZ.name=cI.map cZ.name));show(match bn[C.length]?,bn[aw.length]?with
   |some (.list l),some (.list m)=>if I.iW l&&I.iW m then some (decide<|l=m)else none
   |B,cq=>none)=_
  exact V g1<|V bd<|(bg<|dJ (Nr<|BP _ m7.names)<|Nr<|BP _ BQ.names).trans<|ai some<|decide_eq_decide.mpr ⟨(List.map_inj_right λB B=>I.str.inj).mp,ai _⟩
 delta m6 at aq;by_cases hn:a4.map cZ.name=cI.map cZ.name
 ·rw[cj hn]at aq f7;have dK:=mr.get Y b4;refine YU (d:=d) (f:=f) m7.ok BQ.ok a4 (ys:=cI) (k:=0) (H:=ck [.L lj,.L sP,.L bL]) rfl rfl ((c2 _).symm.trans<|(ai List.length hn).trans<|c2 _) dK (mr.get ae b4) (mr.get ba b4) rfl rfl rfl λaU S e hl=> ?_;have bF:=wu (O:=bk<|d+3) (i:=3) (cf:=.cw .len<|.E 0) (H:=ck [.L lj,.L sP,.L bL]) (n:=a4.length) (jk λr=>r _ _<|nL dK) (c1 m7.gb<|by decide)<|V (show qw (a4.length:Int)=(List.range' 0 a4.length).map J from ai (List.map _) List.range_eq_range') e;cases aP:o9 f a4 cI with
  |false=>rw[aP]at aq bF;exact aq S (go λr=>r _ _ a6 _ _ bR _ f7 _ _ _ bF)<|mr.trans hl
  |true=>rw[aP]at aq bF;exact aq S (go λr=>r _ _ a6 _ _ bR _ f7 _ _ _ bF)<|mr.trans hl
 ·rw[co hn]at aq f7;exact aq bn (go λr=>r _ _ a6 _ _ bR _ f7) mr
end
end
section
section
variable{n w:Nat}{body:List dA}
def Ge{body:bS->St->Option (eG×bS×St)}(h:test H C=some (false,aw)):kT test body (n+1) H C=some (.next,H,aw):=by show(match test H C with|none=>_|some (false,aw)=>_|some (true,aw)=>_)=_;exact V h rfl
def Gf{body:bS->St->Option (eG×bS×St)}(h:test H C=some (true,aw))(aj:body H aw=some (.next,dr,bn)):kT test body (n+1) H C=kT test body n dr bn:=by show(match test H C with|none=>_|some (false,aw)=>_|some (true,aw)=>_)=_;refine V h ?_;show(match body H aw with|none=>_|some (.ret v,dr,bn)=>_|some (.next,dr,bn)=>_)=_;exact V aj rfl
def YW{body:bS->St->Option (eG×bS×St)}(h:test H C=some (true,aw))(aj:body H aw=some (.ret v,dr,bn)):kT test body (n+1) H C=some (.ret v,dr,bn):=by show(match test H C with|none=>_|some (false,aw)=>_|some (true,aw)=>_)=_;refine V h ?_;show(match body H aw with|none=>_|some (.ret v,dr,bn)=>_|some (.next,dr,bn)=>_)=_;exact V aj rfl
def Nw{body:bS->St->Option (eG×bS×St)}{r:Option (eG×bS×St)}(h:test H C=some (true,aw))(aj:body H aw=some (.next,dr,bn))(aH:kT test body n dr bn=r):kT test body (n+1) H C=r:=(Gf h aj).trans aH
def BR{bi:Nat->bS->St->Prop}(h:∀i,i<3->∀{H C},bi i H C->∀{bY:Prop},(∀aU S,cG O body (ar H w<|J i) C=some (.next,aU,S)->bi (i+1) aU S->bY)->bY)(h0:bi 0 H C)(k:∀aU S,cr O (.ip w (U 3) body) H C=some (.next,aU,S)->bi 3 aU S->bY):bY:=h 0 (by decide) h0 λB B oT Y=>h 1 (by decide) Y λB B a6 ae=>h 2 (by decide) ae λkg cA bR ba=>k kg cA (wu (n:=3) rfl (by decide)<|eT rfl oT<|eT rfl a6<|eT rfl bR rfl) ba
end
noncomputable def yO(f:Nat->Nat->Bool)(i j:Nat):Nat->Nat->Bool:=λa b=>if a=i/\b=j then false else f a b
def Nx(ah:i<3)(aQ:j<3):fB (jN f) (cc (i,j)) (.bool false)=jN (yO f i j)/\e2 (jN f) (cc (i,j))=true:=by rcases gf ah with rfl|rfl|rfl<;>rcases gf aQ with rfl|rfl|rfl<;>exact⟨rfl,rfl⟩
noncomputable def sR(f:Nat->Nat->Bool):Nat:=(List.range 9).countP λk=>f (k/3)<|k%3
def YX(ah:i<3)(aQ:j<3)(h:f i j):sR (yO f i j)<sR f:=by
 have le:∀l:List Nat,l.countP (λk=>yO f i j (k/3)<|k%3)<=l.countP λk=>f (k/3) (k%3):=λl=>List.countP_mono_left λk B q=>by
  by_cases c:k/3=i/\k%3=j
  ·exact b8<|(bg c).symm.trans q
  ·exact(bI c).symm.trans q
 have c:List.range 9=List.range (3*i+j)++(3*i+j)::List.range' (3*i+j+1) (9-(3*i+j+1))/\(3*i+j)/3=i/\(3*i+j)%3=j:=by rcases gf ah with rfl|rfl|rfl<;>rcases gf aQ with rfl|rfl|rfl<;>exact⟨rfl,rfl,rfl⟩
 delta sR;rw[c.1,List.countP_append,List.countP_append,List.countP_cons_of_pos (p:=λk=>f (k/3)<|k%3) (by rw[c.2.1,c.2.2];exact h),List.countP_cons_of_neg (p:=λk=>yO f i j (k/3)<|k%3)<|λq=>b8<|(bg c.2).symm.trans q];exact Nat.add_lt_add_of_le_of_lt (le _)<|pJ<|le _
structure qc(C:St)(aG:Nat)(na:Nat->Nat)(N:Nat->List cZ):Prop where
 fi:C[aG]? =some (.list [.L<|na 0,.L<|na 1,.L<|na 2])
 d2:∀i,i<3->C[na i]? =some (.list<|(N i).map fQ)
 ok:∀i,i<3->lh (N i)
def sS(N:Nat->List cZ)(a9:Nat->Nat->Prop):Prop:=∀f:Nat->Nat->Bool,(∀i j,i<3->j<3->a9 i j->f i j)->∀i j,i<3->j<3->a9 i j->m6 f (N i) (N j)=true
def Ny:∀i,i<3->∀j,j<3->e2 ((jN λB B=>true).take<|3*i+j) (cc (i,j))=true/\fB ((jN λB B=>true).take<|3*i+j) (cc (i,j)) (.bool true)=(jN λB B=>true).take (3*i+j+1):=by intro i ah j aQ;rcases gf ah with rfl|rfl|rfl<;>rcases gf aQ with rfl|rfl|rfl<;>exact⟨rfl,rfl⟩
section
variable{f0:Nat->Nat->Bool}
def qc.keep(h:qc C aG na N)(f:bx C S ms)(Y:aG∉ms)(ae:∀i,i<3->na i∉ms):qc S aG na N:=⟨f.get h.fi Y,λi ah=>f.get (h.d2 i ah)<|ae i ah,h.ok⟩
def qc.av(h:qc C aG na N)(ah:i<3):fj C (.L aG) (J i)=some (.L<|na i):=by rcases gf ah with rfl|rfl|rfl<;>exact kb h.fi rfl
structure BS(ij:St)(bL aG k:Nat)(H:bS)(C:St):Prop where
 fM:H 0=some (.L aG)
 bh:H 1=some (.L bL)
 s:C[bL]? =some (.dict<|(jN λB B=>true).take k)
 bU:bx ij C [bL]
def YY(yP:bL≠0)(h:BS ij bL aG 0 H C)(aq:∀aU S,cr O (.ip 2 (U 3) [.ip 3 (U 3) [.setItem (.E 1) (.ak [(.E 2),(.E 3)])<|.bc<|.bool true]]) H C=some (.next,aU,S)->BS ij bL aG 9 aU S->bY):bY:=
 BR (w:=2) (bi:=λi H C=>BS ij bL aG (3*i) H C) (λi ah cg aw Y B dK=>BR (O:=O) (body:=[.setItem (.E 1) (.ak [(.E 2),(.E 3)])<|.bc<|.bool true]) (w:=3) (H:=ar cg 2<|J i) (bi:=λj H C=>BS ij bL aG (3*i+j) H C/\H 2=some (J i)) (λj aQ dr bn ae B fk=>oX (v:=.bool true) ae.1.s yP (Ny i ah j aQ).1 (c1 (vE _ _)<|show 9<16000000 by decide) λcA aJ u=>fk (ar dr 3<|J j) cA (eK λr=>r _ ae.1.bh _ ae.2 _ rfl _ aJ) ⟨⟨ae.1.fM,ae.1.bh,(u.i7 ae.1.s).trans<|ai (λD=>some<|b5.dict D) (Ny i ah j aQ).2,ae.1.bU.trans u.bU⟩,ae.2⟩)
  ⟨⟨Y.fM,Y.bh,Y.s,Y.bU⟩,rfl⟩ λaU S c h=>dK aU S (oV c) h.1) h aq
structure Nz(N:Nat->List cZ)(ij:St)(bL aG:Nat)(f:Nat->Nat->Bool)(t:Bool)(H:bS)(C:St):Prop where
 fM:H 0=some (.L aG)
 bh:H 1=some (.L bL)
 dX:H 4=some (.bool t)
 s:C[bL]? =some (.dict<|jN f)
 bU:bx ij C [bL]
 up:∀a9,sS N a9->∀i j,i<3->j<3->a9 i j->f i j=true
structure uO(N:Nat->List cZ)(f0:Nat->Nat->Bool)(ij:St)(bL aG k:Nat)(f:Nat->Nat->Bool)(t:Bool)(H:bS)(C:St):Prop where
 b:Nz N ij bL aG f t H C
 cW:t=false->f=f0/\∀i j,3*i+j<k->i<3->j<3->i≠j->f0 i j->m6 f0 (N i) (N j)=true
 iy:t->sR f<sR f0
 le:sR f<=sR f0
def YZ(aj:b<3)(aQ:j<3)(h:3*a+b<3*i+j+1)(q:¬3*a+b<3*i+j):a=i/\b=j:=
 have e:3*a+b=3*i+j:=Nat.le_antisymm (pC h)<|Nat.not_lt.mp q;have sT:b=j:=(Nat.mod_eq_of_lt aj).symm.trans (((Nat.mul_add_mod 3 a b).symm.trans ((ai (·%3) e).trans<|Nat.mul_add_mod 3 i j)).trans<|Nat.mod_eq_of_lt aQ)
 ⟨Nat.eq_of_mul_eq_mul_left (by decide:0<3)<|Nat.add_right_cancel<|sT▸e,sT⟩
def uO.next{t:Bool}(h:uO N f0 ij bL aG (3*i+j) f t H C)(g:bx C S [])(aQ:j<3)(c:i≠j->f i j->m6 f (N i) (N j)=true):uO N f0 ij bL aG (3*i+j+1) f t (ar H 3 v) S:=
 ⟨⟨h.b.fM,h.b.bh,h.b.dX,g.get h.b.s b4,h.b.bU.trans<|g.ci nofun,h.b.up⟩,λe=>⟨(h.cW e).1,λa b hab aT aj f7 hf=>by
  by_cases q:3*a+b<3*i+j
  ·exact(h.cW e).2 a b q aT aj f7 hf
  ·have q:=YZ aj aQ hab q;exact q.1▸q.2▸(h.cW e).1▸c (q.1▸q.2▸f7) ((h.cW e).1▸q.1▸q.2▸hf)⟩,h.iy,h.le⟩
def Y0(fE:qc ij aG na N)(yP:bL≠0)(tL:aG≠bL)(pb:∀i,i<3->na i≠bL)(ah:i<3)(aQ:j<3){t:Bool}(h:uO N f0 ij bL aG (3*i+j) f t H C)(bf:H 2=some (J i))(aq:∀lS ib aU S,cG (bk<|d+5) [
    .ite (.and (.aK .bw (.E 2)<|.E 3)<|.and (.av (.E 1)<|.ak [(.E 2),(.E 3)])<|.not (.a5 108 [(.av (.E 0)<|.E 2),(.av (.E 0)<|.E 3),(.E 1)])) [
     .setItem (.E 1) (.ak [(.E 2),(.E 3)]) (.bc<|.bool false),
     .assign (.aS 4) (.bc (.bool true))] []] (ar H 3 (J j)) C=some (.next,aU,S)->uO N f0 ij bL aG (3*i+j+1) lS ib aU S->aU 2=some (J i)->bY):bY:=by
 have du:=fE.keep h.b.bU (fv tL) λk ao=>fv<|pb k ao;by_cases qA:i=j
 ·exact aq f t _ C (eK λr=>r _ bf _ rfl _<|ke qA) (h.next (.refl _ _) aQ λq=>absurd qA q) bf
 ·cases hf:f i j with
  |false=>exact aq f t _ C (eK λr=>r _ bf _ rfl _ (kd qA) _ h.b.bh _ bf _ rfl _<|dH (BK h.b.s ah aQ)<|ai I.bool hf) (h.next (.refl _ _) aQ λB q=>b8<|bu hf q) bf
  |true=>
   have bB:=dH (BK h.b.s ah aQ)<|ai I.bool hf;refine YV (d:=d+1) (f:=f) (du.ok i ah) (du.ok j aQ) (du.d2 i ah) (du.d2 j aQ) h.b.s λaw a6 f1=> ?_;cases aP:m6 f (N i) (N j)with
   |true=>rw[aP]at a6;exact aq f t _ aw (eK λr=>r _ bf _ rfl _ (kd qA) _ h.b.bh _ bf _ rfl _ bB _ h.b.fM _ bf _ (du.av ah) _ h.b.fM _ rfl _ (du.av aQ) _ h.b.bh _ _ a6) (h.next f1 aQ λB B=>aP) bf
   |false=>
    rw[aP]at a6;have be:=f1.get h.b.s b4;refine oX (k:=cc (i,j)) (v:=.bool false) be yP (Nx ah aQ).2 (show 9<16000000 by decide) λbn aJ u=> ?_;have ag:=YX ah aQ hf;exact aq (yO f i j) true (ar (ar H 3<|J j) 4<|.bool true) bn (eK λr=>r _ bf _ rfl _ (kd qA) _ h.b.bh _ bf _ rfl _ bB _ h.b.fM _ bf _ (du.av ah) _ h.b.fM _ rfl _ (du.av aQ) _ h.b.bh _ _ a6 _ h.b.bh _ bf _ rfl _ aJ)
     ⟨⟨h.b.fM,h.b.bh,rfl,(u.i7 be).trans<|ai (λD=>some<|b5.dict D) (Nx ah aQ).1,(h.b.bU.trans<|f1.ci nofun).trans u.bU,λa9 xE a b aT aj hab=>(bI λ(q:a=i/\b=j)=>b8<|bu aP<|q.1▸q.2▸xE f (h.b.up a9 xE) a b aT aj hab).trans<|h.b.up a9 xE a b aT aj hab⟩,λe=>(nomatch e),λB=>c7 ag h.le,a3 (hj ag) h.le⟩ bf
noncomputable def NA:List dA:=[
  .assign (.aS 4) (.bc<|.bool false),
  .ip 2 (U 3) [
   .ip 3 (U 3) [
    .ite (.and (.aK .bw (.E 2)<|.E 3)<|.and (.av (.E 1)<|.ak [(.E 2),(.E 3)])<|.not (.a5 108 [(.av (.E 0)<|.E 2),(.av (.E 0)<|.E 3),(.E 1)])) [
     .setItem (.E 1) (.ak [(.E 2),(.E 3)]) (.bc<|.bool false),
     .assign (.aS 4) (.bc (.bool true))] []]]]
theorem Y1(fE:qc ij aG na N)(yP:bL≠0)(tL:aG≠bL)(pb:∀i,i<3->na i≠bL)(fuel:Nat):∀{f:Nat->Nat->Bool} {H:bS} {C:St},sR f+2<=fuel->Nz N ij bL aG f true H C->
  (∀lS aU S,kT (λH s=>jg (bk<|d+5) (.E 4) H s) (λH s=>cG (bk<|d+5) NA H s) fuel H C=some (.next,aU,S)->S[bL]? =some (.dict<|jN lS)->bx ij S [bL]->aU 1=some (.L bL)->(∀a9,sS N a9->∀i j,i<3->j<3->a9 i j->lS i j)->(∀i j,i<3->j<3->i≠j->lS i j->m6 lS (N i) (N j)=true)->bY)->bY:=by
 induction fuel with
 |zero=>exactλh=>absurd h<|vz _
 |succ fuel ay=>
  intro f H C hf h aq;refine BR (O:=bk<|d+5) (w:=2) (bi:=λi H C=>∃lS t,uO N f ij bL aG (3*i) lS t H C) (H:=ar H 4<|.bool false) (λi ah cg aw Y B dK=>Y.elim λf1 Y=>Y.elim λg6 Y=>BR (w:=3) (H:=ar cg 2<|J i) (bi:=λj H C=>∃lS t,uO N f ij bL aG (3*i+j) lS t H C/\H 2=some (J i)) (λj aQ dr bn ae B fk=>ae.elim λf2 ae=>ae.elim λgv ae=>Y0 (d:=d) fE yP tL pb ah aQ ae.1 ae.2 λhl hK kg cA d4 ba eA=>fk kg cA d4 ⟨hl,hK,ba,eA⟩) ⟨f1,g6,⟨⟨Y.b.fM,Y.b.bh,Y.b.dX,Y.b.s,Y.b.bU,Y.b.up⟩,Y.cW,Y.iy,Y.le⟩,rfl⟩ λaU S c h=>h.elim λlS h=>h.elim λib h=>dK aU S (oV c) ⟨lS,ib,h.1⟩) ⟨f,false,⟨⟨h.fM,h.bh,rfl,h.s,h.bU,h.up⟩,λB=>⟨rfl,λB B q=>absurd q<|ua _⟩,λq=>(nomatch q),gF _⟩⟩ λaU S c aO=>aO.elim λlS aO=>aO.elim λib aO=> ?_;have st:cG (bk<|d+5) NA H C=some (.next,aU,S):=(eB<|ux lK).trans<|oV c;have aP:jg (bk<|d+5) (.E 4) H C=some (true,C):=Bb (fJ h.dX) rfl;have cp:=Bb (O:=bk<|d+5) (fJ aO.b.dX)<|Fb S ib;cases ib with
  |true=>exact ay (Nat.le_of_succ_le_succ<|a3 (kX<|fm (aO.iy rfl) 1) hf) aO.b λf2 dr bn e=>aq f2 dr bn<|(Gf aP st).trans e
  |false=>
   obtain⟨e,cl⟩:=aO.cW rfl;subst e;cases fuel with
   |zero=>exact absurd hf (by lia)
   |succ m=>exact aq _ aU S ((Gf aP st).trans<|Ge cp) aO.b.s aO.b.bU aO.b.bh aO.b.up λi j ah aQ=>cl i j (by lia) ah aQ
def Y2(fE:qc C aG na N)(qQ:0<C.length)(aq:∀f S,a0 a2 (d+6) 109 [.L aG] C=some (.L C.length,S)->S[C.length]? =some (.dict<|jN f)->bx C S []->(∀a9,sS N a9->∀i j,i<3->j<3->a9 i j->f i j)->(∀i j,i<3->j<3->i≠j->f i j->m6 f (N i) (N j)=true)->bY):bY:=by have f0:=bx.push C [.dict []] [];have tL:=dV<|fc fE.fi;have pb:=λi ah=>dV<|fc<|fE.d2 i ah;refine YY (O:=bk<|d+5) (ij:=C++[.dict []]) (aG:=aG) (dd qQ) (H:=ar (ck [.L aG]) 1<|.L C.length) ⟨rfl,rfl,ea,.refl _ _⟩ λcg aw a6 Y=> ?_;refine Y1 (d:=d) (fE.keep f0 b4 λB B=>b4) (dd qQ) tL pb zC (f:=λB B=>true) (H:=ar cg 4<|.bool true) (by decide) ⟨Y.fM,Y.bh,rfl,Y.s,Y.bU,λB B B B B B B=>rfl⟩ λf dr bn bR ae bU bh up cl=> ?_;exact aq f bn (p6 λr=>r _ _ _ a6 _ _ _ bR _ bh) ae ⟨a3 f0.len bU.len,λa aT B=>(bU.same a (c7 aT f0.len)<|fv<|dV aT).trans<|f0.same a aT b4⟩ up cl
end
end
section
noncomputable def af.yQ:af->af
 |.bool b B=>.bool b 1
 |.str s B=>.str s 1
 |.num n B=>.num n 1
 |.obj p B=>.obj p 1
 |r=>r
theorem Gg{r:af}(h:r.d8):r.f3.yQ=r:=by
 cases r with
 |bool b f=>exact ai (af.bool b) (br<|dw h).symm
 |str b f=>exact ai (af.str b) (br<|dw h).symm
 |num b f=>exact ai (af.num b) (br<|dw h).symm
 |obj b f=>exact ai (af.obj b) (br<|dw h).symm
 |_=>exact b8 h
theorem Y3{r r':af}(e:ct r=ct r')(gi:r=r'->Q)(dK:r.d8->r'=r.f3->Q)(fk:r'.d8->r=r'.f3->Q):Q:=by
 delta ct at e;cases h:r.bc&&r.d8 with
 |false=>
  rw[h]at e;cases aO:r'.bc&&r'.d8 with
  |false=>rw[aO]at e;exact gi e
  |true=>rw[aO]at e;exact fk (cN aO) e
 |true=>
  rw[h]at e;cases aO:r'.bc&&r'.d8 with
  |false=>rw[aO]at e;exact dK (cN h) e.symm
  |true=>rw[aO]at e;exact gi<|(Gg<|cN h).symm.trans<|(ai af.yQ e).trans<|Gg<|cN aO
theorem Y4{r:af}:eY r.f3=eY r:=by cases r<;>rfl
theorem sU{α β:Type}{g:α->β}{l:List α}(aG:l.Nodup):(∀a∈l,∀b∈l,g a=g b->a=b)->(l.map g).Nodup:=by
 induction l with
 |nil=>exactλB=>.nil
 |cons a l ay=>exactλh=>p8 ⟨λhm=>(e3 hm).elim λb aj=>(hI aG).1<|h b (bQ _ aj.1) a bp aj.2▸aj.1,ay (hI aG).2 λx ac y a8=>h x (bQ _ ac) y<|bQ _ a8⟩
structure pc(R:List af):Prop where
 row:∀r∈R,r.kind≠6/\r≠cu "never"/\r≠cu "object"/\r≠.obj [] 0/\r≠cu "error"
 top:(cu "any"∉R/\cu "unknown"∉R)\/R=[cu "any"]\/R=[cu "unknown"]
 sub:∀r∈R,(eY r=(6:Nat)->cu "string"∉R)/\(eY r=(7:Nat)->cu "number"∉R)
 aS:∀r∈R,r.d8->r.bc\/r.f3∉R
 gb:R.length<=20
structure qd(T:List af)(u:Nat)(R:List af):Prop where
 some:(T[u]?).isSome=true
 aG:(aE T u).Nodup
 mem:∀x,x∈aE T u↔x∈R
 bw:u≠10/\u≠11/\u≠13
section
variable{T a7:List af}{R:List af}{r x:af}
theorem bO.bw(G:bO T)(h:T[t]? =some r)(b:fU[i]? =some x)(n:r≠x):t≠i:=λq=>n (br (bu h ((ai (T[·]?) q).trans<|G.at b)))
theorem bO.is(G:bO T)(h:T[t]? =some x)(b:fU[i]? =some x):t=i:=nN G.aG h<|G.at b
theorem sV(e:ts.map (T[·]?)=R.map some)(h:t∈ts)(k:∀r∈R,T[t]? =some r->Q):Q:=(e3 (e▸nS h:T[t]?∈R.map some)).elim λr h=>k r h.1 h.2.symm
theorem NB(e:ts.map (T[·]?)=R.map some)(h:r∈R)(k:∀t∈ts,T[t]? =some r->Q):Q:=(e3 (e.symm▸nS h:some r∈ts.map (T[·]?))).elim λt h=>k t h.1 h.2
theorem BU(G:bO T)(e:ts.map (T[·]?)=R.map some)(b:fU[i]? =some x):i∈ts↔x∈R:=⟨λh=>sV e h λr aH aP=>br (bu aP<|G.at b)▸aH,λh=>NB e h λt aP aH=>G.is aH b▸aP⟩
theorem BV(aH:T[i]? =some r):i∈d5 T ts↔i∈f5 (dq T ts)/\mW T (f5<|dq T ts) r=true:=r8.trans<|and_congr uz<|V aH Iff.rfl
theorem m8(h:i∈d5 T ts):i∈f5 (dq T ts):=uz.mp (pP h).1
theorem BW(G:bO T)(aH:T[i]? =some r)(h:i∈d5 T ts):¬(r.d8=true/\∃n∈f5 (dq T ts),T[n]? =some r.f3)/\kD (f5<|dq T ts) (eY r)=false:=(sH G.aG).mp ((BV aH).mp h).2
theorem bO.Gh(G:bO T)(h:r∉T->ww (T++[r]) T.length r):bO (iP T r):=by
 by_cases hm:r∈T
 ·exact V (show iP T r=T from bg hm) G
 ·have e:iP T r=T++[r]:=bI hm;exact⟨MX G.aG,V e<|G.au.trans ⟨[r],rfl⟩,λi q aC=>(MW aC).elim (λaC=>(G.row i q aC).pre<|uE T r) λc=>by obtain⟨rfl,rfl⟩:=c;exact V e<|h hm⟩
theorem NC(h:i∈d5 T ts)(k:∀r,T[i]? =some r->Q):Q:=by
 have q:(match T[i]?with|some r=>mW T (f5<|dq T ts) r|none=>false)=true:=(pP h).2;cases aH:T[i]?with
 |none=>rw[aH]at q;exact b8 q
 |some r=>exact k r aH
theorem ND(G:bO T):(lc T<|d5 T ts).Nodup:=sU yB λp ab q aC e'=>NC ab λr aH=>NC aC λr' mQ=>Y3 ((ai lP aH).symm.trans<|e'.trans<|ai lP mQ) (λh=>nN G.aG aH<|h▸mQ) (λhf h=>absurd ⟨hf,q,m8 aC,h▸mQ⟩ (BW G aH ab).1) λhf h=>absurd ⟨hf,p,m8 ab,h▸aH⟩ (BW G mQ aC).1
section
variable(G:bO T)(g:pc R)(e:ts.map (T[·]?)=R.map some)
include G g e
theorem pc.Gi(h:t∈ts):dT T t=[t]:=sV e h λr aH aP=>(G.uH aP (g.row r aH).1).trans<|bI<|G.bw aP rfl (g.row r aH).2.1
theorem pc.qe:t∈dq T ts↔t∈ts:=MQ.trans ⟨λh=>h.elim λs h=>bT (g.Gi G e h.1▸h.2)▸h.1,λh=>⟨t,h,(g.Gi G e h).symm▸pL _⟩⟩
theorem pc.rm(h:t∈f5 (dq T ts))(k:t∈ts->Q)(cx:t=8\/t=9->(8∈ts\/14∈ts)->(9∈ts\/15∈ts)->Q):Q:=
 have m:=λt=>(g.qe G e (t:=t)).mp
 (wm.mp h).elim (λh=>k<|m _ h) λh=>cx h.1 (h.2.1.imp (m _)<|m _)<|h.2.2.imp (m _)<|m _
theorem pc.BX(h:t∈f5 (dq T ts))(k:∀r,T[t]? =some r->r.kind≠6->t≠2/\t≠10/\t≠11/\t≠13->ct r∈R.map ct->Q):Q:=
 have m:∀{i:Nat} {x:af},fU[i]? =some x->i∈ts->ct x∈R.map ct:=λb h=>nS<|(BU G e b).mp h
 g.rm G e h (λh=>sV e h λr aH aP=>have q:=g.row r aH;k r aP q.1 ⟨G.bw aP rfl q.2.1,G.bw aP rfl q.2.2.1,G.bw aP rfl q.2.2.2.1,G.bw aP rfl q.2.2.2.2⟩<|nS aH)
  λq a b=>q.elim (λq=>by subst q;exact k _ (G.at (i:=8) rfl) (by decide) (by decide)<|a.elim (m (i:=8) rfl)<|m (i:=14) (x:=.bool 0 1) rfl) λq=>by subst q;exact k _ (G.at (i:=9) rfl) (by decide) (by decide)<|b.elim (m (i:=9) rfl)<|m (i:=15) (x:=.bool 1 1) rfl
theorem pc.NE(aH:r∈R):kD (f5<|dq T ts) (eY r)=false:=FP r (λe=>V e yw) λn w c B=>V w (oZ.trans (co λm=>by
 rcases c with c|c<;>subst c
 ·exact g.rm G e m (λm=>(g.sub r aH).1 w<|(BU G e rfl).mp m) λq=>absurd q (by decide)
 ·exact g.rm G e m (λm=>(g.sub r aH).2 w ((BU G e rfl).mp m)) λq=>absurd q (by decide)))
theorem pc.Y5:x∈lc T (d5 T ts)↔x∈R.map ct:=by
 refine⟨λh=>(e3 h).elim λp ab=>g.BX G e (m8 ab.1) λr aH B B hm=>ab.2▸(ai lP aH).symm▸hm,λh=>(e3 h).elim λr h=>NB e h.1 λt aP NF=> ?_⟩;obtain⟨aH,rfl⟩:=h;refine i2 ?_;by_cases aJ:r.d8/\∃n∈f5 (dq T ts),T[n]? =some r.f3
 ·refine aJ.2.elim λn hn=> ?_;have l:∀{i:Nat} {x:af},fU[i]? =some x->x.bc->n=i->r.bc:=λb an q=>bu Yg<|(ai af.bc<|br<|bu hn.2<|q▸G.at b).trans an;have an:r.bc:=(g.aS r aH aJ.1).elim id λh=>g.rm G e hn.1 (λm=>sV e m λq aC Y6=>absurd (br (bu hn.2 Y6)▸aC) h) λq B B=>q.elim (l (i:=8) rfl rfl)<|l (i:=9) rfl rfl;exact⟨n,(BV hn.2).mpr ⟨hn.1,(sH G.aG).mpr ⟨λq=>b8<|(yo r).symm.trans q.1,(ai (kD _) Y4).trans<|g.NE G e aH⟩⟩,(ai lP hn.2).trans<|(ai ct (bg (dJ an aJ.1):ct r=r.f3).symm).trans jp⟩
 ·exact⟨t,(BV NF).mpr ⟨wm.mpr<|.inl<|(g.qe G e).mpr aP,(sH G.aG).mpr ⟨aJ,g.NE G e aH⟩⟩,ai lP NF⟩
theorem pc.FW(h0:0∉ts)(Y:1∉ts)(ae:2<=(d5 T ts).length):m3 T (d5 T ts):=by
 have wD:∀{i:Nat},i=8\/i=9->(8∈ts\/14∈ts)->(9∈ts\/15∈ts)->i∈d5 T ts:=λ{i} c a b=>
  have s:∀{r:af},T[i]? =some r->r.d8=false->eY r= -1->i∈d5 T ts:=λaH hf hw=>(BV aH).mpr ⟨wm.mpr<|.inr ⟨c,a.imp (g.qe G e).mpr (g.qe G e).mpr,b.imp (g.qe G e).mpr (g.qe G e).mpr⟩,(sH G.aG).mpr ⟨λq=>b8<|bu hf q.1,hw▸yw⟩⟩
  c.elim (λc=>s (c▸G.at (i:=8) rfl) rfl rfl) λc=>s (c▸G.at (i:=9) rfl) rfl rfl
 refine⟨ae,?_,yB,λp ab=>g.BX G e (m8 ab) λr aH ao a B=> ?_,λp ab q aC r r' aH mQ hf e'=>(BW G aH ab).1 ⟨hf,q,m8 aC,e'▸mQ⟩,λa b=> ?_,λp ab r aH q aC e'=>of_decide_eq_false (bu oZ<|(ai (kD _) e').trans (BW G aH ab).2)<|m8 aC⟩
 ·have l:=o6 (l:=d5 T ts) (m:=8::9::ts) yB λx ac=>g.rm G e (m8 ac) (λh=>bQ _<|bQ _ h) λq B B=>q.elim (λq=>q▸bp) λq=>q▸bQ _ bp;have m:ts.length=R.length:=(c2 _).symm.trans<|(ai List.length e).trans<|c2 _;exact c1 (a3 l<|fm (m▸g.gb) 2) (by decide)
 ·exact⟨λq=>g.rm G e (m8 ab) (λm=>h0<|q▸m) λc=>absurd (q▸c)<|by decide,λq=>g.rm G e (m8 ab) (λm=>Y<|q▸m) λc=>absurd (q▸c)<|by decide,a.1,a.2.1,a.2.2.1,a.2.2.2,r,aH,ao⟩
 ·have n:∀{x y:Nat},x=8\/x=9->y≠8->y≠9->(x∈d5 T ts\/y∈d5 T ts)->∀{Q:Prop},(x∈ts\/y∈ts->Q)->((8∈ts\/14∈ts)->(9∈ts\/15∈ts)->Q)->Q:=λc Y7 Y8 a B k cx=>a.elim (λa=>g.rm G e (m8 a) (λm=>k<|.inl m) λB=>cx) λa=>g.rm G e (m8 a) (λm=>k<|.inr m) λq=>absurd q λq=>q.elim Y7 Y8
  exact n (.inl rfl) (by decide) (by decide) a (λa=>n (.inr rfl) (by decide) (by decide) b (λb=>⟨wD (.inl rfl) a b,wD (.inr rfl) a b⟩) λa b=>⟨wD (.inl rfl) a b,wD (.inr rfl) a b⟩) λa b=>⟨wD (.inl rfl) a b,wD (.inr rfl) a b⟩
theorem pc.res(h:wl T ts u):bO (hO T ts)/\qd (hO T ts) u (R.map ct):=by
 have top:∀{i:Nat} {x:af},fU[i]? =some x->i<2->R=[x]->0<=fT (dq T ts)->bO (hO T ts)/\qd (hO T ts) u (R.map ct):=λ{i x} b ah fl h0=>by
  have c:=(g.qe G e).mp (Bx<|h.top h0).1;have aJ:aE T u=[ct x]:=sV e c λr aH aP=>(uK G aP (g.row r aH).1<|G.bw aP rfl (g.row r aH).2.1).trans<|ai (λr=>[ct r])<|bT<|fl▸aH;have bD:u<2:=sV e c λr aH aP=>G.is (aP.trans<|ai some<|bT<|fl▸aH) b▸ah;exact V (show hO T ts=T from bg h0) ⟨G,sV e c λr B aP=>ai Option.isSome aP,aJ▸p8 ⟨b4,.nil⟩,λy=>aJ▸fl▸Iff.rfl,dV<|ec bD<|by decide,dV<|ec bD<|by decide,dV<|ec bD<|by decide⟩
 have d2:=λ{i:Nat} {x:af} (b:fU[i]? =some x)=>BU G e b;rcases g.top with c|c|c
 ·have h0:fT (dq T ts)<0:=by
   have n:∀i:Nat,∀{x:af},fU[i]? =some x->x∉R->fT (dq T ts)≠i:=λi x b ac q=>ac<|(d2 b).mp<|(g.qe G e).mp (Bx q.symm).1;rcases Mz (dq T ts)with q|q|q|q
   ·exact absurd q<|n 0 rfl c.1
   ·exact absurd q<|n 13 rfl λm=>(g.row _ m).2.2.2.2 rfl
   ·exact absurd q<|n 1 rfl c.2
   ·exact q▸(by decide)
  have fL:¬0<=fT (dq T ts):=pG.mpr h0;have fin:∀{a7:List af},aE a7 u=lc T (d5 T ts)->(a7[u]?).isSome=true->u≠10/\u≠11/\u≠13->qd a7 u (R.map ct):=λag aJ bw=>⟨aJ,ag▸ND G,λx=>ag▸g.Y5 G e,bw⟩;cases ao:d5 T ts with
  |nil=>obtain rfl:=h.none h0 ao;exact V (show hO T ts=T from(bI fL).trans<|bI<|ao▸by decide) ⟨G,fin (ao▸rfl) (G.isSome<|by decide)<|by decide⟩
  |cons x xs=>
   cases xs with
   |nil=>obtain rfl:=h.aS h0 x ao;exact V (show hO T ts=T from(bI fL).trans<|bI<|ao▸Nat.not_succ_le_self 1) ⟨G,g.BX G e (m8<|ao▸pL u) λr aH Y9 a B=>fin (ao▸(uK G aH Y9 a.1).trans (FZ aH).symm) (ai Option.isSome aH) a.2⟩
   |cons y ys=>have ae:2<=(d5 T ts).length:=ao▸Nat.le_add_left 2 _;have wo:hO T ts=iP T (.dI<|d5 T ts):=(bI fL).trans<|bg ae;have hm:=h.iV h0 ae;rw[wo]at hm⊢;have Gj:bO (iP T<|.dI<|d5 T ts):=G.Gh λB=>(g.FW G e (λm=>c.1<|(d2 rfl).mp m) (λm=>c.2<|(d2 rfl).mp m) ae).pre ⟨[_],rfl⟩;have bw:=λ{i:Nat} {x:af} (b:fU[i]? =some x) (n:af.dI (d5 T ts)≠x)=>Gj.bw hm b n;exact⟨Gj,fin ((Bw Gj hm).trans<|FN (uE T _) λp ab=>g.BX G e (m8 ab) λr aH B B B=>ai Option.isSome aH) (ai Option.isSome hm) ⟨bw (i:=10) rfl nofun,bw (i:=11) rfl nofun,bw (i:=13) rfl nofun⟩⟩
 ·exact top (i:=0) rfl (by decide) c<|FU ((g.qe G e).mpr<|(d2 rfl).mpr<|c▸pL _)▸Int.le_refl _
 ·exact top (i:=1) rfl (by decide) c<|FV<|(g.qe G e).mpr<|(d2 rfl).mpr<|c▸pL _
end
end
end
variable{r:af}{a7 yu bK T0 aI gG:List af}{eN:Nat->List af}
section
section
variable{T:List af}{R:List af}{n f:Nat}
def Gk(T:List af)(r:af):(iP T r).length<=T.length+1:=by
 by_cases h:r∈T
 ·exact V (show iP T r=T from bg h)<|cT _ _
 ·exact V (show iP T r=T++[r]from bI h)<|cP er
structure ja(C:St)(A:gO)(T:List af)(n:Nat)(S:St)(a7:List af):Prop where
 fZ:ej S A a7
 cX:bO a7
 pre:el T a7
 len:a7.length<=T.length+n
 bU:bx C S [A.t+1,A.t+2]
def ja.trans(x:ja C A T n S a7)(y:ja S A a7 m ox yu):ja C A T (n+m) ox yu:=⟨y.fZ,y.cX,x.pre.trans y.pre,a3 y.len<|a3 (fm x.len m)<|cP<|i0 _ _ _,x.bU.trans y.bU⟩
def ja.push(x:ja C A T n S a7)(g:St):ja C A T n (S++g) a7:=⟨x.fZ.keep (bx.push S g []) (λB B B h=>nomatch h),x.cX,x.pre,x.len,x.bU.trans<|bx.push _ _ _⟩
def ja.refl(X:ej C A T)(G:bO T):ja C A T n C T:=⟨X,G,.refl _,cT _ _,.refl _ _⟩
def ja.ci(x:ja C A T n S a7)(h:n<=m):ja C A T m S a7:=⟨x.fZ,x.cX,x.pre,a3 x.len<|hB h _,x.bU⟩
def qd.pre(G:bO T)(x:el T a7)(h:qd T u R):qd a7 u R:=
 have e:aE a7 u=aE T u:=FO x h.some λp ab=>(hT h.some).elim λq aC=>(G.parts aC p ab).elim λz hz=>ai Option.isSome hz.1
 ⟨x.some h.some,e▸h.aG,λy=>e▸h.mem y,h.bw⟩
def Za(X:ej C A T)(G:bO T)(an:T.length<=10000)(g:pc R)(e:ts.map (T[·]?)=R.map some)(ac:Fv C x ts)(aq:∀u S a7,a0 a2 (d+3) 21 [.L A.t,x] C=some (J u,S)->ja C A T 1 S a7->qd a7 u (R.map ct)->bY):bY:=by
 have row:=λt (aP:t∈ts)=>sV e aP (Q:=∃r,T[t]? =some r) λr B h=>⟨r,h⟩;have hlen:wk T ts<=20:=by
  have k:∀l:List Nat,(∀t∈l,t∈ts)->wk T l=l.length:=λl=>by
   induction l with
   |nil=>exactλB=>rfl
   |cons t l ay=>exactλan=>(congr (ai (λp:List Nat=>(p.length+·))<|g.Gi G e<|an t bp)<|ay λy a8=>an y<|bQ _ a8).trans<|m9 1 _
  exact k ts (λB h=>h)▸((c2 _).symm.trans<|(ai List.length e).trans<|c2 _)▸g.gb
 refine MC (d:=d) X G.aG (λr aH=>(rb.mp aH).elim λi ah=>G.M0 ah) (c1 an<|by decide) ac (λt aP=>(row t aP).elim λr h=>ai Option.isSome h) (λt aP p ab=>(row t aP).elim λr h=>(G.parts h p ab).elim λz hz=>ai Option.isSome hz.1) (G.isSome<|by decide) (G.isSome<|by decide) (c1 hlen<|by decide) λu S Y ae ba cp=> ?_;have r:=g.res G e cp;refine aq u S _ Y ⟨ae,r.1,Br T ts,?_,ba⟩ r.2;delta hO;by_cases c:0<=fT (dq T ts)
 ·exact V (bg c)<|cT _ _
 ·by_cases bR:2<=(d5 T ts).length
  ·exact V (bI c)<|V (bg bR)<|Gk _ _
  ·exact V (bI c)<|V (bI bR)<|cT _ _
noncomputable def Zb(f:Nat):List af:=[.str (aa "a") f,.str (aa "b") f,cu "string",.num 0 f,.num 1 f,cu "number",.bool 0 f,.bool 1 f,cu "null",cu "undefined",cu "void",cu "unknown",cu "any"]
noncomputable def pd(i f:Nat):af:=(Zb f)[i]?.getD (cu "any")
noncomputable def hW(i:Nat):af:=pd i 0
noncomputable def BY:List Nat:=[0,0,6,0,0,7,0,0,5,4,3,1,0]
def Zc:∀i<13,i=0\/i=1\/i=3\/i=4\/i=6\/i=7\/(2<=i/\i≠3/\i≠4/\i≠6/\i≠7)/\∀f<2,fU[BY[i]?.getD 0]? =some (pd i f)/\BY[i]? =some (BY[i]?.getD 0):=by decide+kernel
def Zd(X:ej C A T)(G:bO T)(an:T.length<=10000)(ah:i<13)(hf:f<2)(aq:∀u S a7,a0 a2 (d+3) 110 [.L A.t,J i,J f] C=some (J u,S)->ja C A T 1 S a7->a7[u]? =some (pd i f)->bY):bY:=by
 refine X.jI.elim λF tt=> ?_;have pt:∀r:af,pd i f=r->I.key r.b3->(r∉T->ww (T++[r]) T.length r)->(∀u S,a0 a2 (d+1) 5 [.L A.t,r.b3] C=some (J u,S)->a0 a2 (d+3) 110 [.L A.t,J i,J f] C=some (J u,S))->bY:=λr e ao aA c=>Bh X G.aG ao (c1 an<|by decide) λu S Y ae ba cp B=>aq u S _ (c u S Y) ⟨ae,G.Gh aA,uE T _,Gk T _,ba⟩<|e▸cp
 have f1:=pC hf;have Es:∀{x a b:Nat},fU[a]? =some (.bool x 0)->fU[b]? =some (.bool x 1)->af.bool x f∈T:=λaT aj=>(HR f1).elim (λe=>e▸dL (G.at aT)) λe=>e▸dL (G.at aj);rcases Zc i ah with c|c|c|c|c|c|c
 ·subst c;exact pt (.str (aa "a") f) rfl rfl (λB=>⟨.inl rfl,f1⟩) λu S Y=>go λk=>k _ rfl _ rfl _ _<|go λk=>k _ (hN tt.1 tt.2.2.2.2 rfl) _ _ Y
 ·subst c;exact pt (.str (aa "b") f) rfl rfl (λB=>⟨.inr rfl,f1⟩) λu S Y=>go λk=>k _ rfl _ rfl _ _<|go λk=>k _ (hN tt.1 tt.2.2.2.2 rfl) _ _ Y
 ·subst c;exact pt (.num 0 f) rfl rfl (λB=>⟨by decide,f1⟩) λu S Y=>go λk=>k _ rfl _ rfl (J 0) _ rfl _ _<|go λk=>k _ (hN tt.1 tt.2.2.2.2 rfl) _ _ Y
 ·subst c;exact pt (.num 1 f) rfl rfl (λB=>⟨by decide,f1⟩) λu S Y=>go λk=>k _ rfl _ rfl _ rfl (J 1) _ rfl _ _<|go λk=>k _ (hN tt.1 tt.2.2.2.2 rfl) _ _ Y
 ·subst c;exact pt (.bool 0 f) rfl rfl (λn=>absurd (Es (a:=8) (b:=14) rfl rfl) n) λu S Y=>go λk=>k _ rfl _ rfl _ rfl _ rfl (J 0) _ rfl _ _<|go λk=>k _ (hN tt.1 tt.2.2.2.2 rfl) _ rfl _ _ Y
 ·subst c;exact pt (.bool 1 f) rfl rfl (λn=>absurd (Es (a:=9) (b:=15) rfl rfl) n) λu S Y=>go λk=>k _ rfl _ rfl _ rfl _ rfl _ rfl (J 1) _ rfl _ _<|go λk=>k _ (hN tt.1 tt.2.2.2.2 rfl) _ rfl _ _ Y
 ·have h:=c.2 f hf;have n:=c.1;exact aq _ C T (go λk=>k _ (lH<|co<|Int.not_lt.mpr<|Int.ofNat_le.mpr n.1) _ (bN (b:=3) n.2.1) _ (bN (b:=4) n.2.2.1) _ (bN (b:=6) n.2.2.2.1) _ (bN (b:=7) n.2.2.2.2) _<|bZ (l:=BY.map J)<|nP h.2) ((ja.refl X G).ci<|cT 0 1)<|G.at h.1
end
end
section
noncomputable def fV(j:Nat):af:=.ref<|j+1
structure iQ(aV:List Nat)(g:Nat->af):Prop where
 d6:∀j∈aV,(g j).shaped=true
 bw:∀j∈aV,g j≠.obj [] 0
 aS:(∀j∈aV,g j=fV j)\/∃j,aV=[j]
def iQ.fV:iQ aV fV:=⟨λB B=>rfl,λB B=>nofun,.inl λB B=>rfl⟩
noncomputable def qf(k:e0)(g:Nat->af):List af:=(hq k.m).map hW++k.aV.map g
abbrev pe(T:List af)(u:Nat)(k:e0)(g:Nat->af):Prop:=qd T u<|qf k g
abbrev Ze(m:Nat)(X:List af):Prop:=
 (∀r∈X,r.kind≠6/\r≠cu "never"/\r≠cu "object"/\r≠.obj [] 0/\r≠cu "error")/\((cu "any"∉X/\cu "unknown"∉X)\/(m=2048\/m=4096)/\(X=[cu "any"]\/X=[cu "unknown"]))/\
 (∀r∈X,(eY r=(6:Nat)->cu "string"∉X)/\(eY r=(7:Nat)->cu "number"∉X))/\(∀r∈X,(r.d8=true->r.bc)/\r.shaped=false)/\X.length<=2/\X.map ct=(hq m).map hW
set_option synthInstance.maxSize 999 in
def NG:∀m∈jq,∀f<2,Ze m ((hq m).map (pd · f)):=by decide+kernel
def BZ(h:r.shaped)(k:∀ps f,r=.obj ps f->Q)(cx:∀e,r=.ref e->Q):Q:=by
 cases r with
 |obj ps f=>exact k ps f rfl
 |ref e=>exact cx e rfl
 |_=>exact b8 h
def yR(h:r.shaped)(s:Str):r≠.key s:=λe=>b8<|(ai af.shaped e).symm.trans h
def NH(h:r.shaped):eY r= -1:=BZ h (λB B e=>e▸rfl) λB e=>e▸rfl
def Zf(h:r.shaped):ct r=r:=BZ h (λB B e=>e▸rfl) λB e=>e▸rfl
def yS:∀aV∈uL,aV.length<=3:=by decide
section
variable{T:List af}{R:List af}{n f:Nat}{k:e0}{g:Nat->af}
def Zg(ao:jL k)(hf:f<2)(bB:iQ k.aV g):pc ((hq k.m).map (pd · f)++k.aV.map g)/\((hq k.m).map (pd · f)++k.aV.map g).map ct=qf k g:=by
 have a:=NG _ ao.m f hf;have aD:((hq k.m).map (pd · f)++k.aV.map g).map ct=qf k g:=iI.trans (congr (ai (·++·) a.2.2.2.2.2)<|(jC (g:=ct) (f:=g)).trans<|tM λj aQ=>Zf<|bB.d6 j aQ);refine⟨?_,aD⟩
 clear aD
 generalize (hq k.m).map (pd · f)=X at a;have ho:∀{r:af},r∈k.aV.map g->r.shaped:=λh=>(e3 h).elim λj h=>h.2▸bB.d6 j h.1;have cW:∀{s:Str},af.key s∉X->af.key s∉X++k.aV.map g:=λh q=>(gc q).elim h λq=>yR (ho q) _ rfl;refine⟨λr h=>(gc h).elim (a.1 r) λh=>⟨λq=>BZ (ho h) (λB B e=>by subst e;exact mE q rfl) λB e=>by subst e;exact mE q rfl,yR (ho h) _,yR (ho h) _,(e3 h).elim λj h=>h.2▸bB.bw j h.1,yR (ho h) _⟩,a.2.1.imp (λc=>⟨cW c.1,cW c.2⟩) λc=> ?_,
  λr h=>(gc h).elim (λh=>⟨λw=>cW ((a.2.2.1 r h).1 w),λw=>cW ((a.2.2.1 r h).2 w)⟩) λh=>⟨λw=>(vq (bu w (NH (ho h)))).elim,λw=>(vq (bu w (NH (ho h)))).elim⟩,λr h aH=>(gc h).elim (λh=>.inl ((a.2.2.2.1 r h).1 aH)) λh=>.inr λq=> ?_,?_⟩
 ·rw[ao.top c.1];exact(ew X).symm▸c.2
 ·have us:r.f3.shaped:=BZ (ho h) (λB B e=>e▸rfl) λB e=>e▸rfl;refine(gc q).elim (λq=>b8<|(a.2.2.2.1 _ q).2.symm.trans us) λq=>bB.aS.elim (λo=>(e3 h).elim λj aQ=>b8<|(ai af.d8<|bu aQ.2<|o j aQ.1).symm.trans aH) λo=>o.elim λj o=> ?_;rw[o]at h q;exact MR aH<|(bT q).trans (bT h).symm
 ·exact er▸a3 (lg a.2.2.2.2.1<|a3 (cP<|c2 _)<|yS _ ao.aV) (by decide)
def Zh(hf:f<2)(fM:H 0=some (.L A.t))(bh:H 1=some (dz k))(bf:H 2=some (J f))(xs:List Nat):∀{C:St} {T:List af},(∀x∈xs,x<13)->ej C A T->bO T->T.length+xs.length<=9000->
  (∀(us:List Nat) S a7,iq (λB=>true) (λx s=>(gr (bk<|d+4) [(.b6 .dj (.b6 .oe (.av (.E 1)<|U 0)<|.E 7)<|U 1)] (ar H 7 x) s).bind λq=>if q.1 then(bq (bk<|d+4) (.a5 110 [(.E 0),(.E 7),(.E 2)]) (ar H 7 x) q.2).bind λu=>some (some u.1,u.2)else some (none,q.2)) (xs.map J) C=some (us.map J,S)->ja C A T (xs.filter<|sM k.m).length S a7->us.map (a7[·]?)=((xs.filter<|sM k.m).map (pd · f)).map some->bY)->bY:=by
 induction xs with
 |nil=>exactλB X G B aq=>aq [] _ _ rfl (.refl X G) rfl
 |cons x xs ay=>
  intro C T ac X G an aq;have oN:=λy (h:y∈xs)=>ac y<|bQ _ h;have ifs:∀s,gr (bk<|d+4) [(.b6 .dj (.b6 .oe (.av (.E 1)<|U 0)<|.E 7)<|U 1)] (ar H 7<|J x) s=some (sM k.m x,s):=λs=>Ng<|Bd (Bd (sy (fJ bh) lK<|bZ (i:=0) rfl) (fJ rfl) (bg (qb x):(if 0<=(x:Int)then some (I.int<|(k.m:Int).fdiv<|2^(x:Int).toNat,s)else none)=_)) lK<|di _ _ _;cases aj:sM k.m x with
  |false=>rw[vA (λq=>b8<|bu aj q)]at aq;exact ay oN X G (Nat.le_of_succ_le an) λus S a7 c W e=>aq us S a7 (sC (y:=none) rfl (cF (ifs C)<|V aj rfl) c) W e
  |true=>rw[xD aj]at aq;refine Zd (d:=d+1) X G (a3 (cT _ _)<|a3 an<|by decide) (ac x bp) hf λu be cz a6 W1 Y=>ay oN W1.fZ W1.cX (a3 (fm W1.len _)<|a3 (cP<|vI _ _) an) λus S a7 c W e=> ?_;exact aq (u::us) S a7 (sD rfl (cF (ifs C)<|V aj<|cF (i8 λr=>r _ fM _ rfl _ bf _ _ a6) rfl) c) ((W1.trans W).ci<|cP<|m9 _ _)<|ui.mpr ⟨W.pre.get Y,e⟩
def add_list{m:List I}(Y:C[a]? =some (.list l))(ae:C[b]? =some (.list m))(h:l.length+m.length<=16000000):iF .add (.L a) (.L b) C=some (.L C.length,C++[.list<|l++m]):=
 have e:∀{a:Nat} {l:List I},C[a]? =some (.list l)->vn C a=some l:=λh=>by delta vn;exact V h rfl
 cF (e Y) (cF (e ae)<|bg h)
def NI(X:ej C A T)(G:bO T)(an:T.length<=5000)(ao:jL k)(hf:f<2){mk:Nat->Nat}(Zi:C[hr]? =some (.list [J<|mk 0,J<|mk 1,J<|mk 2]))(n:hr∉[A.t+1,A.t+2])(hm:∀j∈k.aV,T[mk j]? =some (g j))(bB:iQ k.aV g)(aq:∀u S a7,a0 a2 (d+5) 111 [.L A.t,dz k,J f,.L hr] C=some (J u,S)->ja C A T 3 S a7->pe a7 u k g->bY):bY:=by
 refine Zh (d:=d) (H:=ck [.L A.t,dz k,J f,.L hr]) hf rfl rfl rfl (List.range 13) (λx=>pK.mp) X G (a3 (fm an 13)<|by decide) λus be cz a6 W1 aD=> ?_;have a:=NG _ ao.m f hf;have gb:((List.range 13).filter<|sM k.m).length<=2:=(c2 (pd · f)).symm▸a.2.2.2.2.1;have ul:us.length<=2:=(c2 _).symm.trans ((ai List.length aD).trans<|(c2 _).trans<|c2 _)▸gb;have W1:=(W1.ci gb).push [.list<|us.map J];have Zj:=W1.push [.list<|k.aV.map λj=>J<|mk j];have hX:=Zj.push [.list<|us.map J++k.aV.map λj=>J<|mk j];have NJ:=Zg ao hf bB;have ey:=W1.bU.get Zi n;have aF:bq (bk<|d+4) (.comp (.av (.E 3)<|.E 7) (.aS 7) (.av (.E 1)<|U 1) []) (ar (ck [.L A.t,dz k,J f,.L hr]) 4<|.L be.length) (be++[.list<|us.map J])=_:=yr (b3:=J) (xs:=k.aV) (g:=λj=>J<|mk j) (sy (fJ rfl) lK<|bZ (i:=1) rfl) λj aQ=>sy (fJ rfl) (fJ rfl) (kb ey (by rcases gf (uM _ ao.aV j aQ)with rfl|rfl|rfl<;>rfl))
 refine Za (d:=d+1) (ts:=us++k.aV.map mk) hX.fZ hX.cX (a3 hX.len<|a3 (fm an 2)<|by decide) NJ.1 (iI.trans ((congr (ai (·++·) aD) ((jC (g:=(cz[·]?)) (f:=mk)).trans<|(tM λj aQ=>hX.pre.get<|hm j aQ).trans jC.symm)).trans iI.symm)) (.inr ⟨_,rfl,ea.trans (ai (λl=>some<|b5.list l) ((ai (us.map J++·) (jC (g:=J) (f:=mk)).symm).trans iI.symm))⟩) λu S a7 c W t=> ?_;exact aq u S a7 (go λr=>r _ _ (cF (x:=bq (bk<|d+4) (U 13) _ C) rfl<|(bg<|by decide).trans<|cF a6 rfl) _ _ aF _ _ (add_list ((bx.push _ _ []).get ea b4) ea (by rw[c2,c2];exact a3 (lg ul<|yS _ ao.aV)<|by decide)) _ _ c) (hX.trans W) (NJ.2▸t:qd _ _ (qf k g))
def yT{q:af}(h:ct q=r)(aH:r.yQ=r):q=r:=by
 cases b:q.bc&&q.d8 with
 |false=>exact(bI λe=>b8<|bu b e).symm.trans h
 |true=>exact(Gg<|cN b).symm.trans<|(ai af.yQ<|(bg b).symm.trans h).trans aH
def nT(h:i∈hq m):i<13:=pK.mp (pP h).1
def NK:∀i<13,(hW i).val=true:=by decide+kernel
def Gl(G:bO T)(h:qd T u R){p:Nat}(ab:p∈dT T u)(k:∀q,T[p]? =some q->ct q∈R->Q):Q:=(hT h.some).elim λr aH=>(G.parts aH p ab).elim λq aC=>k q aC.1<|(h.mem _).mp<|i2 ⟨p,ab,ai lP aC.1⟩
def rn{x:af}(h:x∈qf k g)(gi:∀i∈hq k.m,x=hW i->Q)(dK:∀j∈k.aV,x=g j->Q):Q:=(gc h).elim (λh=>(e3 h).elim λi h=>gi i h.1 h.2.symm) λh=>(e3 h).elim λj h=>dK j h.1 h.2.symm
def pe.FT(G:bO T)(h:pe T u k Mine.fV):ri T u:=⟨hT h.some,h.bw.1,h.bw.2.1,h.bw.2.2,λp ab=>Gl G h ab λq aC m=>⟨q,aC,rn m (λi ah e=>.inl<|(ai (λn=>decide<|n∈[1,2,3,4,5])<|bu wz<|ai af.kind e).trans<|NK i<|nT ah) λj B e=>.inr ⟨j+1,yT e rfl⟩⟩⟩
def pe.gb(ao:jL k)(h:pe T u k g):(dT T u).length<40:=by have l:(aE T u).length<=((hq k.m).map hW++k.aV.map g).length:=o6 h.aG λx=>(h.mem x).mp;rw[er,c2,c2]at l;exact c1 (a3 (cP (c2 _).symm)<|a3 l<|lg (List.length_filter_le _ _)<|yS _ ao.aV) (by decide)
end
end
section
noncomputable def sW(ps:List ef):List (I×I):=ps.map λp=>(.str p.name,cm p)
def Zk:(ps.map ef.name).Nodup->p∈ps->(sW ps).find? (λx=>decide<|x.1=.str p.name)=some (.str p.name,cm p):=by
 induction ps with
 |nil=>exactλB h=>absurd h b4
 |cons q ps ay=>exactλaG ab=>(cR ab).elim (λe=>e▸vK (cj rfl)) λh=>xj (co λe=>(hI aG).1<|I.str.inj e▸nS h)<|ay (hI aG).2 h
def Zl(h:∀p∈ps,p.name≠q.name):fB (sW ps) (.str q.name) (cm q)=sW (ps++[q]):=by have e:cD (sW ps) (.str q.name)=none:=ai (Option.map Prod.snd)<|List.find?_eq_none.mpr λx ac=>(e3 ac).elim λp ab e=>h p ab.1<|I.str.inj<|(ai Prod.fst ab.2).trans<|dw e;delta fB;exact V e (iI (f:=λp:ef=>(I.str p.name,cm p)) (l₁:=ps) (l₂:=[q])).symm
def NL{s:Str}(h:e9 s):e2 (sW ps) (.str s)=true:=dJ h<|nv.mpr λx ac=>(e3 ac).elim λp ab=>ab.2▸rfl
def Gm:∀l∈rl,tz (l.map .str)=some (l.map .str)/\l.Nodup/\l≠[]:=by decide+kernel
def Zm{g:Nat}{D:List (I×I)}{r:List I}(h:C[g]? =some (.dict D))(aJ:tz (D.map Prod.fst)=some r):kS .sorted (.L g) C=some (.L C.length,C++[.list r]):=by
 show(match C[g]?with
  |some (b5.dict l)=>(tz<|l.map Prod.fst).map λr=>(I.L C.length,C++[b5.list r])
  |_=>none)=_
 exact V h<|ai (Option.map λr=>(I.L C.length,C++[b5.list r])) aJ
section
variable{T:List af}{g:Nat}{f lj:Nat}{cE:List I}
def Zn(Zo:g≠0)(c8:List ef):∀{pf:List ef} {C:St} {H:bS},(pf.map ef.name++c8.map ef.name).Nodup->(∀p∈c8,e9 p.name)->pf.length+c8.length<=100->C[g]? =some (.dict<|sW pf)->H 1=some (.L g)->(∀s,bx C s [g]->hg s iv cE)->
  (∀aU S,fX (λs=>hg s iv cE) (λx H s=>(gq (.aS 2) x H).bind λcg=>cG (bk d) [.setItem (.E 1) (.av (.E 2)<|U 0)<|.E 2] cg s) (c8.map cm) H C=some (.next,aU,S)->S[g]? =some (.dict<|sW<|pf++c8)->bx C S [g]->aU 1=some (.L g)->bY)->bY:=by
 induction c8 with
 |nil=>exactλB B B bB bh hJ aq=>aq _ _ (wc<|hJ _<|.refl _ _) ((ew _).symm▸bB) (.refl _ _) bh
 |cons q c8 ay=>intro pf C H aG hf an bB bh hJ aq;have uP:=λp (ab:p∈pf)=>(kU.mp aG).2.2 p.name (nS ab) q.name bp;refine oX (k:=.str q.name) (v:=cm q) bB Zo (NL<|hf q bp) (c1 (a3 (cP<|c2 _)<|a3 (cT _ _) an)<|by decide) λaw aJ w=>ay (pf:=pf++[q]) (H:=ar H 2<|cm q) (by rw[iI,iG];exact aG) (λp ab=>hf p<|bQ _ ab) (by rw[er,i0,m9 [q].length];exact an) ((w.i7 bB).trans<|ai (λD=>some<|b5.dict D)<|Zl uP) bh (λs h=>hJ s<|w.bU.trans h) λaU S a6 bR d4 eR=> ?_;exact aq aU S (eT (hJ C<|.refl _ _) (eK λr=>r _ rfl _ bh _ rfl _ (bZ (i:=0) rfl) _ aJ) a6) (by rw[iG]at bR;exact bR) (w.bU.trans d4) eR
def Zp(hn:ps.map ef.name∈rl)(aT:C[a]? =some (.list<|ps.map cm))(aq:∀S,a0 a2 (d+1) 11 [.L a] C=some (.ak<|ps.map cm,S)->bx C S []->bY):bY:=by have n:=Gm _ hn;have yU:∀p∈ps,e9 p.name:=λp ab=>BP _ hn _<|nS ab;have f0:=bx.push C [.dict []] [];have NM:=f0.get aT b4;have pa:=fc aT;refine Zn (d:=d) (iv:=some a) (cE:=ps.map cm) (g:=C.length) (pf:=[]) (dd<|lN pa) ps (H:=ar (ck [.L a]) 1<|.L C.length) (C:=C++[.dict []]) n.2.1 yU (a3 (cP<|ow _)<|a3 (cP (c2 _).symm)<|a3 (Gd _ hn)<|by decide) ea rfl (λs aJ=>iw<|aJ.get NM<|fv<|dV pa) λcg aw a6 bR d4 eR=> ?_;have e:(sW ps).map Prod.fst=(ps.map ef.name).map .str:=(jC (g:=Prod.fst) (f:=λp:ef=>(I.str p.name,cm p))).trans (jC (g:=I.str) (f:=ef.name)).symm;have eZ:=bx.push aw [.list<|(ps.map ef.name).map .str] [];have aF:(ps.map ef.name).map I.str=ps.map λp=>.str p.name:=jC;have ag:=yq (O:=bk d) (H:=cg) (i:=5) (elt:=.av (.E 1)<|.E 5) (cf:=.cw .sorted<|.E 1) (b3:=λp:ef=>.str p.name) (xs:=ps) (g:=cm) (i8 λr=>r _ eR _ _<|Zm bR<|e▸n.1) (lO<|aF▸ea) (iw<|aF▸ea) λp ab=>sy (fJ eR) (fJ rfl)<|Bg (eZ.get bR b4) (NL<|yU p ab)<|ai (Option.map Prod.snd)<|Zk n.2.1 ab;have h:=d4.trans<|(eZ.ci (ns:=[C.length]) nofun).trans<|bx.push _ [.list<|ps.map cm] _;exact aq _ (p6 λr=>r _ _ _ ((A2 (fJ rfl)<|lO NM).trans a6) _ _ ag _ _<|yn ea) ⟨a3 f0.len h.len,λx ac B=>(h.same x (c7 ac f0.len)<|fv<|dV ac).trans<|f0.same x ac b4⟩
structure pg(T:List af)(p:cZ)(q:ef):Prop where
 ok:mn p
 name:q.name=p.name
 b0:q.b0=p.b0
 dG:q.dG=p.dG
 dc:pe T q.dc p.k fV
def pg.pre(G:bO T)(x:el T a7){p:cZ}(h:pg T p q):pg a7 p q:=⟨h.ok,h.name,h.b0,h.dG,h.dc.pre G x⟩
theorem cC.i9{α β:Type}{c4:α->β->Prop}:∀{xs:List α} {ys:List β},cC c4 xs ys->∀y∈ys,∃x∈xs,c4 x y
 |[],[],B,cq,h=>absurd h b4
 |x::xs,y::ys,v,z,h=>(cR h).elim (λe=>⟨x,bp,e▸v.1⟩) λh=>(cC.i9 v.2 z h).imp λB h=>⟨bQ _ h.1,h.2⟩
 |[],_::_,v,_,_=>v.elim
 |_::_,[],v,_,_=>v.elim
theorem Gn:∀{N:List cZ} {ps:List ef},cC (pg T) N ps->ps.map ef.name=N.map cZ.name
 |[],[],B=>rfl
 |_::_,_::_,h=>ui.mpr ⟨h.1.name,Gn h.2⟩
 |[],_::_,h=>h.elim
 |_::_,[],h=>h.elim
def B0(G:bO T)(aQ:j<3):T[16+j]? =some (fV j):=by rcases gf aQ with rfl|rfl|rfl<;>exact G.at rfl
def Zq(hf:f<2)(n:hr∉[A.t+1,A.t+2])(x:lj∉[A.t+1,A.t+2])(fM:H 0=some (.L A.t))(bf:H 2=some (J f))(eA:H 3=some (.L hr))(N:List cZ):∀{C:St} {T:List af},(∀p∈N,mn p)->ej C A T->bO T->T.length+3*N.length<=4000->C[hr]? =some (.list [J 16,J 17,J 18])->C[lj]? =some (.list cE)->
  (∀(ps:List ef) S a7,iq (λs=>hg s (some lj) cE) (λx s=>(gq (.iV [7,8,9,10]) x H).bind λdr=>(gr (bk<|d+6) [] dr s).bind λq=>if q.1 then(bq (bk<|d+6) (.ak [(.E 7),(.a5 111 [(.E 0),(.E 8),(.E 2),(.E 3)]),(.E 9),(.E 10)]) dr q.2).bind λu=>some (some u.1,u.2)else some (none,q.2)) (N.map fQ) C=some (ps.map cm,S)->ja C A T (3*N.length) S a7->cC (pg a7) N ps->bY)->bY:=by
 induction N with
 |nil=>exactλB X G B B m7 aq=>aq [] _ _ (bg<|iw m7) (.refl X G) trivial
 |cons p N ay=>intro C T fE X G an aX m7 aq;have e:3*(N.length+1)=3+3*N.length:=m9 _ _;have ab:=(fE p bp).k;refine NI (d:=d+1) (mk:=λj=>16+j) X G (a3 (cT _ _)<|a3 an<|by decide) ab hf aX n (λj aQ=>B0 G<|uM _ ab.aV j aQ) .fV λu aw cz a6 W1 gd=>ay (λq aC=>fE q<|bQ _ aC) W1.fZ W1.cX (a3 (fm W1.len _) (by rw[i0,<-e];exact an)) (W1.bU.get aX n) (W1.bU.get m7 x) λps S a7 c W h=> ?_;exact aq (⟨p.name,u,p.b0,p.dG⟩::ps) S a7 (sD (iw m7) (cF (x:=gq (.iV [7,8,9,10]) (fQ p) H) rfl<|cF (x:=gr (bk<|d+6) [] _ C) rfl<|cF (i8 λr=>r _ rfl _ fM _ rfl _ bf _ eA _ _ a6 _ rfl _ rfl) rfl) c) ((W1.trans W).ci<|cP e.symm) ⟨⟨fE p bp,rfl,rfl,rfl,gd.pre W1.cX W.pre⟩,h⟩
structure nc(T:List af)(u:Nat)(df:List cZ):Prop where
 ex:∃ps f,T[u]? =some (.obj ps f)/\cC (pg T) df ps
 bw:u≠11
def nc.pre(h:nc T u df)(G:bO T)(x:el T a7):nc a7 u df:=⟨h.ex.imp λps h=>h.imp λf h=>⟨x.get h.1,h.2.imp λB B h=>h.pre G x⟩,h.bw⟩
def NN(X:ej C A T)(G:bO T)(an:T.length<=3000){N:List cZ}(fE:lh N)(hf:f<2)(aJ:s<2)(m7:C[lj]? =some (.list<|N.map fQ))(aX:C[hr]? =some (.list [J 16,J 17,J 18]))(n:hr∉[A.t+1,A.t+2])(x:lj∉[A.t+1,A.t+2])(aq:∀u S a7,a0 a2 (d+7) 112 [.L A.t,.L lj,J f,.L hr,J s] C=some (J u,S)->ja C A T 10 S a7->nc a7 u N->bY):bY:=by have pW:3*N.length<=9:=m4 3 fE.gb;refine Zq (d:=d) (cE:=N.map fQ) hf n x (H:=ck [.L A.t,.L lj,J f,.L hr,J s]) rfl rfl rfl N fE.ok X G (a3 (lg an pW)<|by decide) aX m7 λps be cz a6 W1 ir=> ?_;have hn:ps.map ef.name∈rl:=Gn ir▸fE.names;have Go:=Gm _ hn;have yU:∀p∈ps,e9 p.name:=λp ab=>BP _ hn _<|nS ab;have W1:=(W1.ci pW).push [.list<|ps.map cm];refine Zp (d:=d+4) (a:=be.length) (C:=be++[.list<|ps.map cm]) hn ea λbF cs e6=> ?_;have ok:sI cz ps s:=⟨λe=>Go.2.2<|e▸rfl,a3 (cP (c2 _).symm)<|Gd _ hn,pC aJ,Go.2.1,λp ab=>(ir.i9 p ab).elim λq h=>⟨h.2.dc.FT W1.cX,h.2.dc.gb h.2.ok.k,h.2.dG▸rZ h.2.ok.dG,yU p ab⟩⟩;refine W1.fZ.jI.elim λF tt=>Bh (d:=d+4) (r:=.obj ps s) (W1.fZ.keep e6 λB B B h=>nomatch h) W1.cX.aG (dJ (FH yU) rfl) (c1 (a3 W1.len<|fm an 9)<|by decide) λu s3 d4 hK hl bD B=> ?_;have NO:=W1.cX.Gh (r:=.obj ps s) λB=>Or.inr<|ok.pre ⟨[_],rfl⟩;have hC:=uE cz<|.obj ps s;exact aq u s3 _ (go λr=>r _ _ (rc (fJ rfl) (lO m7) a6) _ _<|go λr=>r _ (hN tt.1 tt.2.2.2.2 rfl) _ _ cs _ _ rfl _ _ rfl _ _ d4) ⟨hK,NO,W1.pre.trans hC,a3 (Gk _ _)<|fm W1.len 1,(W1.bU.trans<|e6.ci nofun).trans hl⟩ ⟨⟨ps,s,bD,ir.imp λB B h=>h.pre W1.cX hC⟩,NO.bw bD (i:=11) rfl λe=>Go.2.2<|(af.obj.inj e).1▸rfl⟩
end
end
section
noncomputable def Gp:List Nat:=jq++jq.map nR
structure ph(k:e0):Prop where
 m:k.m∈Gp
 aV:k.aV∈uL
 top:yK k.m->k.aV=[]
structure jb(c:List af)(k:e0)(g:Nat->af):Prop where
 aG:c.Nodup
 mem:∀x,x∈c↔x∈qf k g
def Zr:∀aV∈uL,aV.Nodup:=by decide
def Zs:∀m∈Gp,∀NP∈Gp,hq m=hq NP->m=NP:=by decide+kernel
def NQ:∀i<13,∀j<13,hW i=hW j->i=j:=by decide+kernel
def Gq:∀i<13,(hW i).shaped=false:=by decide+kernel
def Zt:∀m∈jq,yK (nR m)=true->m=2048\/m=4096:=by decide+kernel
section
variable{P:af->List g9}{a b c:List af}{k cx:e0}{g eP:Nat->af}{x y:af}{R:af->af->Prop}{a4 cI:List cZ}
def jL.n(h:jL k):ph k:=⟨jh _ h.m,h.aV,λt=>h.top<|(F4 _ h.m).mpr<|dw t⟩
def mn.n{p:cZ}(h:mn p):ph (lR p):=by
 delta lR;cases gk p.b0 with
 |true=>exact⟨i1 _<|nS h.k.m,h.k.aV,λt=>h.k.top<|Zt _ h.k.m t⟩
 |false=>exact h.k.n
def ph.lt(h:ph k):∀i∈k.aV,i<3:=uM _ h.aV
def uQ(h:i∈hq k.m):hW i∈qf k g:=jh _<|nS h
def wE(h:j∈k.aV):g j∈qf k g:=i1 _<|nS h
def B1(h:i∈hq k.m)(e:hW i=x)(ac:x.shaped):Q:=b8<|(Gq i<|nT h).symm.trans<|(ai af.shaped e).trans ac
def iQ.inj(h:iQ aV g)(ah:i∈aV)(aQ:j∈aV)(e:g i=g j):i=j:=h.aS.elim (λo=>nq<|af.ref.inj<|(o i ah).symm.trans<|e.trans<|o j aQ) λo=>o.elim λB o=>by
 rw[o]at ah aQ;exact(bT ah).trans (bT aQ).symm
def jb.len(h:jb c k g)(ao:ph k)(bB:iQ k.aV g):c.length=m5 k:=by have aG:(qf k g).Nodup:=kU.mpr ⟨sU (List.nodup_range.filter _) λa aT b aj e=>NQ a (nT aT) b (nT aj) e,sU (Zr _ ao.aV) λa aT b aj e=>bB.inj aT aj e,λx ac y a8 e=>(e3 ac).elim λi ah=>(e3 a8).elim λj aQ=>B1 ah.1 (ah.2.trans e)<|aQ.2▸bB.d6 j aQ.1⟩;have e:(qf k g).length=m5 k:=er.trans ((congr (ai (·+·)<|c2 _)<|c2 _).trans<|m9 _ _);exact e▸Nat.le_antisymm (o6 h.aG λx=>(h.mem x).mp) (o6 aG λx=>(h.mem x).mpr)
def jb.same(h:jb c k g)(aO:jb bK k g):cK P c bK:=m2.MP ⟨Iff.of_eq (ai (·=1)<|Nat.le_antisymm (o6 h.aG λx ac=>(aO.mem x).mpr<|(h.mem x).mp ac)<|o6 aO.aG λx ac=>(h.mem x).mpr<|(aO.mem x).mp ac),λx ac=>⟨x,(aO.mem x).mpr<|(h.mem x).mp ac,.refl⟩,λx ac=>⟨x,(h.mem x).mpr<|(aO.mem x).mp ac,.refl⟩⟩
def NR(fl:∀x y,R x y->x=y\/(x.shaped=true/\y.shaped))(h:jb c k g)(aO:jb bK cx eP)(bB:iQ k.aV g)(qg:iQ cx.aV eP)(F:∀x∈c,∃y∈bK,R x y):(∀i∈hq k.m,i∈hq cx.m)/\∀i∈k.aV,∃j∈cx.aV,R (g i) (eP j):=
 ⟨λi ah=>(F _<|(h.mem _).mpr<|uQ ah).elim λy a8=>(fl _ _ a8.2).elim (λe=>rn ((aO.mem y).mp a8.1) (λNS ku e'=>NQ i (nT ah) NS (nT ku) (e.trans e')▸ku) λj aQ e'=>B1 ah (e.trans e')<|qg.d6 j aQ) λs=>B1 ah rfl s.1,
  λi ah=>(F _ ((h.mem _).mpr (wE ah))).elim λy a8=>rn ((aO.mem y).mp a8.1) (λNS ku e'=>B1 ku e'.symm ((fl _ _ a8.2).elim (λe=>e▸bB.d6 i ah) And.right)) λj aQ e'=>⟨j,aQ,e'▸a8.2⟩⟩
def NT(B2:∀x y,R x y->R y x)(fl:∀x y,R x y->x=y\/(x.shaped=true/\y.shaped))(h:jb c k g)(aO:jb bK cx eP)(ao:ph k)(i4:ph cx)(bB:iQ k.aV g)(qg:iQ cx.aV eP)(hf:∀i∈k.aV,∀j∈cx.aV,R (g i) (eP j)->f i j)(eb:m2 R c bK):jM f k cx:=by have A:=NR fl h aO bB qg eb.ml;have a1:=NR fl aO h qg bB eb.nO;have hm:k.m=cx.m:=Zs _ ao.m _ i4.m<|List.filter_congr λi ah=>Bool.eq_iff_iff.mpr ⟨λb=>(pP<|A.1 i<|r8.mpr ⟨ah,b⟩).2,λb=>(pP<|a1.1 i<|r8.mpr ⟨ah,b⟩).2⟩;have ag:decide (m5 k=1)=decide (m5 cx=1):=decide_eq_decide.mpr<|h.len ao bB▸aO.len i4 qg▸eb.len;exact dJ (dJ (cj hm)<|beq_of_eq ag)<|(qR _ _).mpr<|.inr<|dJ (nv.mpr λi ah=>p2.mpr<|(A.2 i ah).imp λj q=>⟨q.1,hf i ah j q.1 q.2⟩)<|nv.mpr λj aQ=>p2.mpr<|(a1.2 j aQ).imp λi q=>⟨q.1,hf i q.1 j aQ<|B2 _ _ q.2⟩
def NU(NV:∀x,R x x)(h:jb c k g)(aO:jb bK cx eP)(ao:ph k)(i4:ph cx)(bB:iQ k.aV g)(qg:iQ cx.aV eP)(hf:∀i∈k.aV,∀j∈cx.aV,f i j->R (g i) (eP j)/\R (eP j) (g i))(pa:jM f k cx):m2 R c bK:=by
 have hm:k.m=cx.m:=dw<|bP<|bP pa;have ag:=decide_eq_decide.mp<|eq_of_beq<|cN<|bP pa;have aH:(∀i∈k.aV,∃j,j∈cx.aV/\f i j)/\∀j∈cx.aV,∃i,i∈k.aV/\f i j:=((qR _ _).mp<|cN pa).elim (λt=>⟨ao.top t▸nofun,i4.top (hm▸t)▸nofun⟩) λt=>⟨λi ah=>p2.mp<|hh (bP t) i ah,λj aQ=>p2.mp<|hh (cN t) j aQ⟩;exact⟨h.len ao bB▸aO.len i4 qg▸ag,λx ac=>rn ((h.mem x).mp ac) (λi ah e=>⟨x,(aO.mem x).mpr<|e▸uQ (hm▸ah),NV x⟩) λi ah e=>(aH.1 i ah).elim λj q=>⟨eP j,(aO.mem _).mpr<|wE q.1,e▸(hf i ah j q.1 q.2).1⟩,
  λx ac=>rn ((aO.mem x).mp ac) (λi ah e=>⟨x,(h.mem x).mpr (e▸uQ (hm.symm▸ah)),NV x⟩) λj aQ e=>(aH.2 j aQ).elim λi q=>⟨g i,(h.mem _).mpr (wE q.1),e▸(hf i q.1 j aQ q.2).2⟩⟩
structure yV(p:cZ)(s:g9):Prop where
 ok:mn p
 name:s.name=p.name
 b0:s.b0=p.b0
 dG:s.dG=p.dG
 lb:jb s.lb (lR p) fV
structure qh(P:af->List g9)(N:Nat->List cZ)(x:af)(j:Nat):Prop where
 d6:x.shaped=true
 ps:cC yV (N j) (P x)
def qh.same(h:qh P N x j)(aO:qh P N y j):cK P [x] [y]:=.MO<|.inl ⟨x,y,rfl,rfl,h.d6,aO.d6,h.ps.swap.comp (λB B B p q=>⟨⟨p.name.trans q.name.symm,V p.b0<|V q.b0 rfl,p.dG.trans q.dG.symm,V p.b0<|V q.b0 rfl⟩,.inr<|p.lb.same q.lb⟩) aO.ps⟩
def B3(P:af->List g9)(i j:Nat):Prop:=cK P [fV i] [fV j]
def NW(x y:af)(h:cK P [x] [y]):x=y\/(x.shaped=true/\y.shaped):=h.aS.imp_right λo=>⟨o.be,o.bF⟩
structure yW(P:af->List g9)(N:Nat->List cZ)(f:Nat->Nat->Bool):Prop where
 ref:∀j,j<3->qh P N (fV j) j
 up:∀i j,i<3->j<3->B3 P i j->f i j=true
 pf:∀i j,i<3->j<3->f i j->B3 P i j
def yW.Gr(F:yW P N f)(h:jb c k g)(aO:jb bK cx eP)(ao:ph k)(i4:ph cx)(bB:iQ k.aV g)(qg:iQ cx.aV eP)(hn:∀j∈k.aV,qh P N (g j) j)(zS:∀j∈cx.aV,qh P N (eP j) j):jM f k cx=true↔cK P c bK:=
 ⟨λal=>(NU (R:=λx y=>cK P [x] [y]) (λB=>.refl) h aO ao i4 bB qg (λi ah j aQ q=>have a:=((hn i ah).same<|F.ref i<|ao.lt i ah).trans<|(F.pf i j (ao.lt i ah) (i4.lt j aQ) q).trans<|(F.ref j<|i4.lt j aQ).same<|zS j aQ;⟨a,a.symm⟩) al).MP,
  λal=>NT (λB B=>.symm) NW h aO ao i4 bB qg (λi ah j aQ q=>F.up i j (ao.lt i ah) (i4.lt j aQ) (((F.ref i (ao.lt i ah)).same (hn i ah)).trans (q.trans ((zS j aQ).same (F.ref j (i4.lt j aQ)))))) al.eb⟩
def NX(f:Nat->Nat->Bool):List cZ->List cZ->Prop:=cC λp q=>p.name=q.name/\mu f p q=true
def Zu:∀{cI:List cZ},NX f a4 cI->m6 f a4 cI:=by
 induction a4 with
 |nil=>exactλ{cI} h=>by cases cI with
  |nil=>exact rfl
  |cons=>exact h.elim
 |cons p a4 ay=>exactλ{cI} h=>by cases cI with
  |nil=>exact h.elim
  |cons q cI=>exact dJ (cj<|ui.mpr ⟨h.1.1,dw<|bP<|ay h.2⟩)<|show(mu f p q&&o9 f a4 cI)=true from dJ h.1.2<|cN<|ay h.2
def Zv:∀{cI:List cZ},m6 f a4 cI->NX f a4 cI:=by
 induction a4 with
 |nil=>exactλ{cI} h=>by cases cI with
  |nil=>exact trivial
  |cons=>exact nomatch dw (bP h)
 |cons p a4 ay=>exactλ{cI} h=>by cases cI with
  |nil=>exact nomatch dw (bP h)
  |cons q cI=>have e:=ui.mp<|dw<|bP h;have t:(mu f p q&&o9 f a4 cI)=true:=cN h;exact⟨⟨e.1,bP t⟩,ay<|dJ (cj e.2)<|cN t⟩
def Zw(ref:∀j,j<3->qh P N (fV j) j):sS N (B3 P):=λf hf i j ah aQ h=>by
 have AL:m1 (cK P) (P<|fV i) (P<|fV j):=h.aS.elim (λe=>e▸.refl) Bu.gP;refine Zu<|(ref i ah).ps.comp (λp s q a c=>c.elim λt b=> ?_)<|AL.comp (a4:=λs q=>∃t,(ix s t/\hV (cK P) s.lb t.lb)/\yV q t) (λB t B a b=>⟨t,a,b⟩) (ref j aQ).ps.swap;have m:=b.1.1;exact⟨bu a.name<|m.name.trans b.2.name,dJ (dJ (dJ (cj<|a.b0▸b.2.b0▸m.uF)<|beq_of_eq<|a.b0▸b.2.b0▸m.rh)<|cj<|bu a.dG<|m.dG.trans b.2.dG)<|NT (λB B=>.symm) NW a.lb b.2.lb a.ok.n b.2.ok.n .fV .fV (λi ah j aQ r=>hf i j (a.ok.n.lt i ah) (b.2.ok.n.lt j aQ) r) (cK.uG b.1.2).eb⟩
def nU(f:Nat->Nat->Bool)(x y:af):Prop:=x=y\/∃i j,(i<3/\j<3/\i≠j)/\(f i j=true\/f j i)/\x=fV i/\y=fV j
def nU.B2(x y:af)(h:nU f x y):nU f y x:=h.imp iY λh=>h.elim λi h=>h.elim λj h=>⟨j,i,⟨h.1.2.1,h.1.1,h.1.2.2.symm⟩,h.2.1.symm,h.2.2.2,h.2.2.1⟩
def nU.i9(ah:i<3)(aQ:j<3)(h:f i j):nU f (fV i) (fV j):=by
 by_cases e:i=j
 ·exact .inl<|e▸rfl
 ·exact .inr ⟨i,j,⟨ah,aQ,e⟩,.inl h,rfl,rfl⟩
def nU.aS(h:nU f x y):m2 (nU f) [x] [y]:=⟨Iff.rfl,λz hz=>⟨y,bp,bT hz▸h⟩,λz hz=>⟨x,bp,bT hz▸h.B2⟩⟩
def Zx(ref:∀j,j<3->qh P N (fV j) j)(up:∀i j,i<3->j<3->B3 P i j->f i j)(eV:∀i j,i<3->j<3->i≠j->f i j->m6 f (N i) (N j)=true):yW P N f:=by
 have o4:∀{i j:Nat},i<3->j<3->i≠j->f i j->m1 (λc bK=>cK P c bK\/m2 (nU f) c bK) (P<|fV i) (P<|fV j):=λ{i j} ah aQ bw q=>
  (ref i ah).ps.swap.comp (λs p t a c=>c.elim λq b=>⟨⟨a.name.trans<|b.1.1.trans b.2.name.symm,a.b0.symm▸b.2.b0.symm▸dw (bP<|bP<|bP b.1.2),a.dG.trans<|(dw<|cN<|bP b.1.2).trans b.2.dG.symm,a.b0.symm▸b.2.b0.symm▸eq_of_beq (cN<|bP<|bP b.1.2)⟩,
   .inr (.inr (NU (λB=>.inl rfl) a.lb b.2.lb a.ok.n b.2.ok.n .fV .fV (λi ah j aQ q=>have k:=nU.i9 (a.ok.n.lt i ah) (b.2.ok.n.lt j aQ) q;⟨k,k.B2⟩) (cN b.1.2)))⟩) ((Zv (eV i j ah aQ bw q)).comp (a4:=λp t=>∃q,(p.name=q.name/\mu f p q)/\yV q t) (λB q B a b=>⟨q,a,b⟩) (ref j aQ).ps)
 refine⟨ref,up,λi j ah aQ h=>cK.yy (K:=m2<|nU f) (λa b q=>q.eb (λx y aD aF r=>r.elim (λe=>.inl<|aD.trans<|e▸aF.symm) λr=>r.elim λi r=>r.elim λj r=>.inr<|.inl ⟨x,y,aD,aF,r.2.2.1▸rfl,r.2.2.2▸rfl,?_⟩) λdW d3=>.inr<|.inr ⟨dW,d3,λx ac=>(q.ml x ac).imp λy h=>⟨h.1,.inr<|.inr h.2.aS⟩,λx ac=>(q.nO x ac).imp λy h=>⟨h.1,.inr<|.inr h.2.aS⟩⟩) (nU.i9 ah aQ h).aS⟩;rw[r.2.2.1,r.2.2.2];exact r.2.1.elim (o4 r.1.1 r.1.2.1 r.1.2.2) λq=>(o4 r.1.2.1 r.1.1 r.1.2.2.symm q).de λa b h=>h.imp iY<|Or.imp cK.symm λq=>⟨q.len.symm,q.nO,q.ml⟩
section
variable{T:List af}{p:Nat}
def pe.wF(h:pe T u k g):jb (aE T u) k g:=⟨h.aG,h.mem⟩
def pe.at(G:bO T)(h:pe T u k g)(bB:iQ k.aV g){s:Str}(b:fU[p]? =some (.key s)):p∈dT T u↔af.key s∈(hq k.m).map hW:=
 ⟨λab=>Gl G h ab λq aC m=>by
  obtain rfl:=br<|bu aC<|G.at b;exact(gc m).resolve_right λm=>(e3 m).elim λj e=>yR (bB.d6 j e.1) s e.2,
 λm=>(e3<|(h.mem _).mpr<|jh _ m).elim λqC ab=>Gl G h ab.1 λq aC B=>by
  have e:q=.key s:=yT ((ai lP aC).symm.trans ab.2) rfl;exact G.is (e▸aC) b▸ab.1⟩
def Zy:∀m∈jq,cu "error"∉(hq m).map hW/\((cu "any"∈(hq m).map hW\/cu "unknown"∈(hq m).map hW)/\nR m=m\/(cu "any"∉(hq m).map hW/\cu "unknown"∉(hq m).map hW)/\∀i<13,i∈hq (nR m)↔i∈hq m\/i=9):=by decide+kernel
def Zz(G:bO T){p:cZ}(h:pg T p q):jb (fK T q) (lR p) fV:=by
 refine(hT h.dc.some).elim λr aH=> ?_;delta fK lR;refine V h.b0 ?_;cases gk p.b0 with
 |false=>exact h.dc.wF
 |true=>
  have t:=Zy _ h.ok.k.m;have a:=λ{i:Nat} {s:Str} (b:fU[i]? =some (.key s))=>h.dc.at G .fV b;have Gs:=λi=>G.uJ (t:=q.dc) (x:=i);show jb (if 0<=fT (dq T [q.dc,4])then _ else _) ⟨nR p.k.m,p.k.aV⟩ fV;rcases t.2 with ib|ib
  ·have h0:0<=fT (dq T [q.dc,4]):=ib.1.elim (λm=>FU ((Gs 0).mpr<|.inl<|(a rfl).mpr m)▸Int.le_refl _) λm=>FV<|(Gs 1).mpr<|.inl<|(a rfl).mpr m;exact V (bg h0)<|V ib.2 h.dc.wF
  ·have n:∀i:Nat,i≠4->∀{s:Str},fU[i]? =some (.key s)->af.key s∉(hq p.k.m).map hW->fT (dq T [q.dc,4])≠i:=λi cp s b ac e=>ac<|(a b).mp<|((Gs i).mp (Bx e.symm).1).resolve_right cp;have h0:¬0<=fT (dq T [q.dc,4]):=by
    rcases Mz (dq T [q.dc,4])with e|e|e|e
    ·exact absurd e (n 0 (by decide) rfl ib.1.1)
    ·exact absurd e (n 13 (by decide) rfl t.1)
    ·exact absurd e (n 1 (by decide) rfl ib.1.2)
    ·exact e▸(by decide)
   refine V (bI h0) ⟨ND G,λx=>⟨λm=>(e3 m).elim λi ah=>((G.sK aH).mp ah.1).elim (λpD=>rn ((h.dc.mem x).mp<|i2 ⟨i,pD,ah.2⟩) (λj aQ e=>e▸uQ (k:=⟨nR p.k.m,p.k.aV⟩) ((ib.2 j<|nT aQ).mpr<|.inl aQ)) λj aQ e=>e▸wE (k:=⟨nR p.k.m,p.k.aV⟩) aQ) λdM=> ?_,λm=>rn (k:=⟨nR p.k.m,p.k.aV⟩) m (λj aQ e=>((ib.2 j<|nT aQ).mp aQ).elim (λaQ=> ?_) λZA=> ?_) λj aQ e=> ?_⟩⟩
   ·exact ah.2▸dM▸(ai lP G.rj).symm▸uQ (i:=9) (k:=⟨nR p.k.m,p.k.aV⟩) ((ib.2 9<|by decide).mpr<|.inr rfl)
   ·exact(e3<|(h.dc.mem x).mpr<|e▸uQ aQ).elim λi ah=>i2 ⟨i,(G.sK aH).mpr<|.inl ah.1,ah.2⟩
   ·exact i2 ⟨4,(G.sK aH).mpr<|.inr rfl,(ai lP G.rj).trans (ZA▸e).symm⟩
   ·exact(e3<|(h.dc.mem x).mpr<|e▸wE aQ).elim λi ah=>i2 ⟨i,(G.sK aH).mpr<|.inl ah.1,ah.2⟩
structure nV(T:List af)(a1:Nat->Nat)(N:Nat->List cZ):Prop where
 G:bO T
 uR:∀j,j<3->∃u ps f,d6 T a1 40 (16+j)=some u/\T[u]? =some (.obj ps f)/\u≠11/\cC (pg T) (N j) ps
def nV.D(X:nV T a1 N):F0 T a1:=⟨λd Y ba=>by
 cases d with
 |zero=>exact absurd Y<|vz 0
 |succ d=>exact(X.uR d ba).imp λu h=>h.imp λps h=>h.imp λf h=>⟨(ai (d6 T a1 40) (Nat.succ_add 15 d).symm).trans h.1,h.2.1,h.2.2.1⟩⟩
def NY(G:bO T)(h:cC (pg T) df ps):cC yV df (ps.map<|gz T):=(h.imp λp q h=>(⟨h.ok,h.name,h.b0,h.dG,Zz G h⟩:yV p (gz T q))).map
def nV.ref(X:nV T a1 N):∀j,j<3->qh (yF T a1) N (fV j) j:=λj aQ=>(X.uR j aQ).elim λu h=>h.elim λps h=>h.elim λf h=>by
 refine⟨rfl,?_⟩;delta yF;exact V (M7 (d:=j+1) (f:=f) ((ai (d6 T a1 40) (Nat.succ_add 15 j).symm).trans h.1) h.2.1)<|NY X.G h.2.2.2
end
end
end
section
open PySem.Builtin (bitAnd bitOr bitNot)
noncomputable def sX(b k u:Int):Int:=if bitAnd b k≠0 then u else 0
noncomputable def nW(b:Int):Int:=bitOr (bitOr (bitOr b<|sX b 4 3)<|sX b 32 24)<|sX b 1024 512
noncomputable def wG(b:Int):Int:=bitOr (bitOr (bitOr (nW b)<|sX b 3 4)<|sX b 24 32)<|sX b 512 1024
noncomputable def e0.nil(k:e0):Bool:=decide (k.m=0)&&k.aV.isEmpty
noncomputable def qi(m:Nat)(a b:e0):Int:=
 if bitAnd b.m 4096≠0\/a.nil=true then 1
 else if bitAnd a.m 4096≠0/\m=4 then 0
 else if bitAnd b.m 2048≠0\/bitAnd a.m 4096≠0 then(if b.nil=true then 0 else 1)
 else if m=2 then(if bitAnd a.m (wG b.m)≠0\/(bitAnd a.m 2048≠0/\b.nil=false)then 1 else if(a.aV++b.aV).isEmpty=false then-1 else 0)
 else if bitAnd a.m (bitNot<|nW b.m)≠0\/(a.aV.isEmpty=false/\b.aV.isEmpty)then 0
 else if a.aV.isEmpty=false then-1 else 1
section
variable{a b k:e0}
def ZB:I.key (dz k)=true:=show(I.hs 5 (J k.m)&&(I.gR 4 (k.aV.map J)&&true))=true from dJ rfl<|dJ (Bl _) rfl
def uS:d0 C .eq (dz k) (.ak [.int 0,.ak []])=some k.nil:=by
 show(if I.key (dz k)&&I.key (.ak [.int 0,.ak []])then some (decide<|dz k=.ak [.int 0,.ak []])else none)=_;refine(bg<|dJ ZB rfl).trans<|ai some ?_;cases k with
 |mk m aV=>cases m with
  |succ m=>exact co λe=>Nat.noConfusion<|k0<|I.int.inj<|h2 (I.ak.inj e) λe B=>e
  |zero=>cases aV with
   |nil=>exact rfl
   |cons x xs=>exact co λe=>h2 (I.ak.inj e) λB e=>h2 e λe B=>nomatch I.ak.inj e
def NZ{t:Bool}(h:k.nil=t):d0 C .bw (dz k) (.ak [.int 0,.ak []])=some (!t):=h▸ai (Option.map (!·)) (uS (C:=C) (k:=k))
def wH{x b c u:Int}:iF .io (.int x) (bif decide (bitAnd b c≠0)then .int u else .int 0) C=some (.int<|bitOr x<|sX b c u,C):=by
 delta sX;by_cases h:bitAnd b c≠0
 ·exact V (bg h)<|V (cj h) rfl
 ·exact V (bI h)<|V (co h) rfl
def kI{i:Int}(h:i≠0):g4 C (.int i)=some true:=p7<|cj h
def kJ{i:Int}(h:¬i≠0):g4 C (.int i)=some false:=p7<|co h
def uT{l:List Nat}{t:Bool}(h:l.isEmpty=t):d0 C .gt (J l.length) (.int 0)=some (!t):=k8 (h▸by cases l with
 |nil=>rfl
 |cons x l=>exact cj (hx (pI _)))
def N0{l:List Nat}{t:Bool}(h:l.isEmpty=t):d0 C .eq (J l.length) (.int 0)=some t:=gY (h▸by cases l with
 |nil=>rfl
 |cons x l=>exact co nofun)
noncomputable def wI(i:Nat):dA:=Ie.body.getD i .fA
noncomputable def jO:dA->List dA
 |.ip B cq a=>a
 |.gQ B cq a=>a
 |.ite B a cq=>a
 |_=>[]
noncomputable def B4(i:Nat):dA:=(jO<|wI 4).getD i .fA
def ZC(aT:jL a)(aj:jL b):a0 a2 (d+1) 113 [dz a,dz b,J m] C=some (.int<|qi m a b,C):=by
 have eh:∀k:e0,fj C (dz k) (.int 0)=some (J k.m):=λB=>bZ (i:=0) rfl;have h9:∀k:e0,fj C (dz k) (.int 1)=some (.ak<|k.aV.map J):=λB=>bZ (i:=1) rfl;delta qi;by_cases a6:bitAnd b.m 4096≠0
 ·exact V (bg<|.inl a6)<|go λr=>r _ (eh _) _ _ rfl _ (kI a6) _<|kI a6
 cases bR:a.nil with
 |true=>exact V (bg<|.inr rfl)<|go λr=>r _ (eh _) _ _ rfl _ (kJ a6) _<|dH uS bR
 |false=>
 have gZ:cr (bk d) (wI 0) (ck [dz a,dz b,J m]) C=some (.next,ck [dz a,dz b,J m],C):=dk λr=>r _ (eh _) _ _ rfl _ (kJ a6) _<|dH uS bR;refine V (bI λh=>h.elim a6 nofun) ?_;by_cases d4:bitAnd a.m 4096≠0/\m=4
 ·exact V (bg d4)<|gj [true] λr=>r _ _ _ gZ _ (eh _) _ _ rfl _ (kI d4.1) _<|cY (b:=4) d4.2
 have g0:cr (bk d) (wI 1) (ck [dz a,dz b,J m]) C=some (.next,ck [dz a,dz b,J m],C):=by
  by_cases eR:bitAnd a.m 4096≠0
  ·exact dk λr=>r _ (eh _) _ _ rfl _ (kI eR) _<|bN (b:=4) λh=>d4 ⟨eR,h⟩
  ·exact dk λr=>r _ (eh _) _ _ rfl _ (kJ eR) _<|kJ eR
 refine V (bI d4) ?_;by_cases gV:bitAnd b.m 2048≠0
 ·refine V (bg<|.inl gV) ?_;cases e:b.nil with
  |true=>exact gj [true,true] λr=>r _ _ _ gZ _ _ _ g0 _ (eh _) _ _ rfl _ (kI gV) _ (kI gV) _<|dH uS e
  |false=>exact gj [true,true] λr=>r _ _ _ gZ _ _ _ g0 _ (eh _) _ _ rfl _ (kI gV) _ (kI gV) _<|dH uS e
 by_cases eR:bitAnd a.m 4096≠0
 ·refine V (bg<|.inr eR) ?_;cases e:b.nil with
  |true=>exact gj [true,true] λr=>r _ _ _ gZ _ _ _ g0 _ (eh _) _ _ rfl _ (kJ gV) _ (eh _) _ _ rfl _ (kI eR) _<|dH uS e
  |false=>exact gj [true,true] λr=>r _ _ _ gZ _ _ _ g0 _ (eh _) _ _ rfl _ (kJ gV) _ (eh _) _ _ rfl _ (kI eR) _<|dH uS e
 have jc:cr (bk d) (wI 2) (ck [dz a,dz b,J m]) C=some (.next,ck [dz a,dz b,J m],C):=dk λr=>r _ (eh _) _ _ rfl _ (kJ gV) _ (eh _) _ _ rfl _<|kJ eR;have qj:cr (bk d) (wI 3) (ck [dz a,dz b,J m]) C=some (.next,ar (ck [dz a,dz b,J m]) 3<|.int<|nW b.m,C):=dk λr=>r _ (eh b) _ (eh b) _ _ rfl _ rfl _ _ wH _ (eh b) _ _ rfl _ rfl _ _ wH _ (eh b) _ _ rfl _ rfl _ _ wH;refine V (bI λh=>h.elim gV eR) ?_;by_cases gM:m=2
 ·have aP:jg (bk d) (.aK .eq (.E 2)<|U 2) (ar (ck [dz a,dz b,J m]) 3<|.int<|nW b.m) C=some (true,C):=Bc λr=>r _<|cY (b:=2) gM;have ZD:cr (bk d) (B4 0) (ar (ck [dz a,dz b,J m]) 3<|.int<|nW b.m) C=some (.next,ar (ar (ck [dz a,dz b,J m]) 3<|.int<|nW b.m) 3<|.int<|wG b.m,C):=dk λr=>r _ (eh b) _ _ rfl _ rfl _ _ wH _ (eh b) _ _ rfl _ rfl _ _ wH _ (eh b) _ _ rfl _ rfl _ _ wH;have fin:∀{v:I} {aU:bS},cG (bk d) [B4 1,B4 2] (ar (ar (ck [dz a,dz b,J m]) 3<|.int<|nW b.m) 3<|.int<|wG b.m) C=some (.ret v,aU,C)->a0 a2 (d+1) 113 [dz a,dz b,J m] C=some (v,C):=λh=>gj [true,true,true,true,true] λr=>r _ _ _ gZ _ _ _ g0 _ _ _ jc _ _ _ qj _ _ _<|Mj aP<|(eB ZD).trans h;refine V (bg gM) ?_;by_cases fN:bitAnd a.m (wG b.m)≠0
  ·exact V (bg<|.inl fN)<|fin<|yh<|dk λr=>r _ (eh _) _ _ rfl _ (kI fN) _<|kI fN
  by_cases jl:bitAnd a.m 2048≠0/\b.nil=false
  ·exact V (bg<|.inr jl)<|fin<|yh<|dk λr=>r _ (eh _) _ _ rfl _ (kJ fN) _ (eh _) _ _ rfl _ (kI jl.1) _<|NZ jl.2
  have N1:cr (bk d) (B4 1) (ar (ar (ck [dz a,dz b,J m]) 3<|.int<|nW b.m) 3<|.int<|wG b.m) C=some (.next,ar (ar (ck [dz a,dz b,J m]) 3<|.int<|nW b.m) 3<|.int<|wG b.m,C):=by
   by_cases jG:bitAnd a.m 2048≠0
   ·cases e:b.nil with
    |true=>exact dk λr=>r _ (eh _) _ _ rfl _ (kJ fN) _ (eh _) _ _ rfl _ (kI jG) _<|NZ e
    |false=>exact absurd ⟨jG,e⟩ jl
   ·exact dk λr=>r _ (eh _) _ _ rfl _ (kJ fN) _ (eh _) _ _ rfl _ (kJ jG) _<|kJ jG
  have N2:iF .add (.ak<|a.aV.map J) (.ak<|b.aV.map J) C=some (.ak<|(a.aV++b.aV).map J,C):=(Mr (by rw[c2,c2];exact a3 (lg (yS _ aT.aV)<|yS _ aj.aV)<|by decide)).trans<|ai (λl=>some (I.ak l,C)) iI.symm;refine V (bI λh=>h.elim fN jl) ?_;cases jG:(a.aV++b.aV).isEmpty with
  |true=>exact fin<|(eB N1).trans<|yh<|dk λr=>r _ (h9 _) _ (h9 _) _ _ N2 _ _ mq _<|uT jG
  |false=>exact fin<|(eB N1).trans<|yh<|dk λr=>r _ (h9 _) _ (h9 _) _ _ N2 _ _ mq _<|uT jG
 have pi:cr (bk d) (wI 4) (ar (ck [dz a,dz b,J m]) 3<|.int<|nW b.m) C=some (.next,ar (ck [dz a,dz b,J m]) 3<|.int<|nW b.m,C):=dk λr=>r _<|bN (b:=2) gM;refine V (bI gM) ?_;by_cases fN:bitAnd a.m (bitNot<|nW b.m)≠0
 ·exact V (bg<|.inl fN)<|gj [true,true,true,true,true] λr=>r _ _ _ gZ _ _ _ g0 _ _ _ jc _ _ _ qj _ _ _ pi _ (eh _) _ _ rfl _ (kI fN) _<|kI fN
 cases jl:a.aV.isEmpty with
 |true=>exact V (bI λh=>h.elim fN nofun)<|gj [true,true,true,true,true] λr=>r _ _ _ gZ _ _ _ g0 _ _ _ jc _ _ _ qj _ _ _ pi _ (eh _) _ _ rfl _ (kJ fN) _ (h9 _) _ _ mq _ (uT jl) _ (h9 _) _ _ mq _<|uT jl
 |false=>
  cases jG:b.aV.isEmpty with
  |true=>exact V (bg<|.inr ⟨rfl,rfl⟩)<|gj [true,true,true,true,true] λr=>r _ _ _ gZ _ _ _ g0 _ _ _ jc _ _ _ qj _ _ _ pi _ (eh _) _ _ rfl _ (kJ fN) _ (h9 _) _ _ mq _ (uT jl) _ (h9 _) _ _ mq _<|N0 jG
  |false=>exact V (bI λh=>h.elim fN nofun)<|gj [true,true,true,true,true] λr=>r _ _ _ gZ _ _ _ g0 _ _ _ jc _ _ _ qj _ _ _ pi _ (eh _) _ _ rfl _ (kJ fN) _ (h9 _) _ _ mq _ (uT jl) _ (h9 _) _ _ mq _ (N0 jG) _ (h9 _) _ _ mq _<|uT jl
end
end
variable{ax:List (e0×Nat)}{e':e0×Nat}
section
section
variable{l B5:St}{nX:gO}{T:List af}{f c:Nat}{x y:b5}{a b:I}{F:Nat->Option I}
def Gu:(C++x::l).set C.length y=C++y::l:=(List.set_append_right _ _<|gF _).trans (by rw[Nat.sub_self];rfl)
def ff{e:b2}{r:Option (eG×bS×St)}(h0:H 0=some (.L C.length))(ab:0<C.length)(hm:dD c f=none)(he:bq (bk d) e H (C++.cO c F::l)=some (v,C++.cO c F::B5))(k:cG (bk d) ss H (C++.cO c (ar F f v)::B5)=r):cG (bk d) (.setAttr (.E 0) f e::ss) H (C++.cO c F::l)=r:=
 have aJ:cr (bk d) (.setAttr (.E 0) f e) H (C++.cO c F::l)=some (.next,H,C++.cO c (ar F f v)::B5):=cF he<|cF (fJ h0)<|cF (x:=jZ dD (C++.cO c F::B5) f v<|.L C.length) ((wd ea (dd ab) hm).trans<|ai some Gu) rfl
 (eB aJ).trans k
def yX(ah:om c=some f)(h:a0 a2 d f (.L C.length::args) (C++[.cO c λB=>none])=some (.none,S)):sr (d+1) c args C=some (.L C.length,S):=by
 show(match om c with
  |some f=>(a0 a2 d f (I.L C.length::args)<|C++[b5.cO c λB=>none]).bind λr=>if r.1=I.none then some (I.L C.length,r.2)else none
  |none=>_)=_
 exact V ah<|cF h<|bg rfl
def Gv:(C++x::l).length=C.length+1+l.length:=er.trans ((ai (C.length+·)<|m9 l.length 1).trans (i0 _ _ _).symm)
def lk{e:b2}(h:bq O e H (C++x::l)=some (.L (C++x::l).length,(C++x::l)++[y])):bq O e H (C++x::l)=some (.L<|C.length+1+l.length,C++x::(l++[y])):=h.trans (by rw[Gv,iG];rfl)
def yY{body:List dA}(h:lo[f]? =some ⟨np,hH,body⟩)(an:args.length=np)(aj:cG (bk d) body (ck args) C=some (.next,H,S)):a0 a2 (d+1) f args C=some (.none,S):=(su h an).trans<|cF aj rfl
def ej.ZE(X:ej C A T)(h:A.t=nX.t):ej C nX T:=by obtain⟨a,b,c,e⟩:=X;rw[h]at a b c e;exact⟨a,b,c,e⟩
def ZF(aV:List af):∀{T:List af} {C:St} {H:bS},ej C A T->H 0=some (.L A.t)->(T++aV).Nodup->(∀r∈aV,I.key r.b3)->T.length+aV.length<16000000->
  (∀aU S,fX (λB=>true) (λx H s=>cG (bk<|d+1) [.expr<|.b1 (.E 0) 41 [(.E 1)]] (ar H 1 x) s) (aV.map af.b3) H C=some (.next,aU,S)->ej S A (T++aV)->bx C S [A.t+1,A.t+2]->S.length=C.length->bY)->bY:=by
 induction aV with
 |nil=>exactλX B B B B aq=>aq _ _ rfl ((ew _).symm▸X) (.refl _ _) rfl
 |cons r aV ay=>intro T C H X h0 aG ao an aq;refine Fn (d:=d) X (ao r bp) (λq=>(kU.mp aG).2.2 r q r bp rfl) (c1 (cT _ _) an) λbe a6 dB f1 dW=>X.jI.elim λF tt=>ay (H:=ar H 1 r.b3) dB h0 (by rw[iG];exact aG) (λq aC=>ao q<|bQ _ aC) (by rw[er,i0,m9 [r].length];exact an) λaU S bR fo f2 d3=> ?_;exact aq aU S (eT rfl (eK λk=>k _ h0 _ (hN tt.1 tt.2.2.2.2 rfl) _ rfl _ _ a6) bR) (by rw[iG]at fo;exact fo) (f1.trans f2)<|d3.trans dW
noncomputable def N3(q:Nat):Nat->Option I:=ar (ar (ar (ar (ar (ar (ar (ar (ar (ar (λB=>none) 45<|.L<|q+1) 23<|.L<|q+2) 14<|.L<|q+3) 11<|.L<|q+4) 16<|.L<|q+5) 34<|.L<|q+6) 39<|.L<|q+7) 43<|.L<|q+8) 49<|.int 0) 42<|.int 0
noncomputable def Gw(q:Nat):St:=.cO 1 (N3 q)::[.list [],.dict [],.list [.none],.list [],.list [],.list [],.dict [],.dict []]
def ZG:∀r∈fU,I.key r.b3:=by decide+kernel
def N4:fU.Nodup:=by decide+kernel
def wJ{m:St}(h:m[i]? =some x):(C++m)[C.length+i]? =some x:=(wn<|cT _ _).trans<|V (Nat.add_sub_cancel_left C.length i) h
def ZH(ab:0<C.length)(aX:A.t=C.length)(aq:∀S,sr (d+3) 1 [] C=some (.L C.length,S)->ej S A (fU.take 16)->S.length=C.length+9->S[C.length+3]? =some (.list [.none])->bx C S []->bY):bY:=by have ZI:ej (C++Gw C.length) A []:=⟨aX▸ab,⟨N3 C.length,by rw[aX];exact ea,aX▸rfl,aX▸rfl,aX▸rfl,rfl⟩,by rw[aX];exact wJ rfl,by rw[aX];exact wJ rfl⟩;have an:(C++Gw C.length).length=C.length+9:=er;have ba:(C++Gw C.length)[C.length+3]? =some (.list [.none]):=wJ rfl;refine ZF (A:=A) (d:=d) (fU.take 16) (H:=ck [.L C.length]) ZI (aX▸rfl) (N4.sublist<|List.take_sublist 16 fU) (λr aH=>ZG r<|List.mem_of_mem_take aH) (by decide) λaU S a6 dB f1 dW=> ?_;have bw:∀{x},x<=C.length\/x=C.length+3->x∉[A.t+1,A.t+2]:=λh=>aX▸h.elim (λh=>mi (dV<|pJ h)<|dV<|pJ<|rZ h) λh=>h▸mi (dd<|nz (by decide) (n:=C.length+1) (k:=2)) (dd<|oY _);refine aq S (yX rfl<|yY (np:=1) rfl rfl<|ff (l:=[]) rfl ab rfl (lk rfl)<|ff rfl ab rfl (lk rfl)<|ff rfl ab rfl (lk rfl)<|ff rfl ab rfl (lk rfl)<|ff rfl ab rfl (lk rfl)<|ff rfl ab rfl (lk rfl)<|ff rfl ab rfl (lk rfl)<|ff rfl ab rfl (lk rfl)<|ff rfl ab rfl lK<|ff rfl ab rfl lK<|oV<|lM (l:=(fU.take 16).map af.b3) rfl a6) dB (dW.trans an) (f1.get ba<|bw<|.inr rfl) ⟨dW▸an▸cT _ _,λa aT B=>(f1.same a (an▸c7 aT (cT _ _))<|bw<|.inl<|hj aT).trans<|nr aT⟩
noncomputable def wK(q:Nat)(a b c:I):Nat->Option I:=ar (ar (ar (ar (ar (ar (ar (ar (ar (ar (ar (ar (ar (ar (ar (λB=>none) 17 a) 24 b) 33 c) 40<|.ak []) 10<|.int<|-1) 9<|.ak []) 50<|.int<|-1) 18<|.int 0) 4<|.bool false) 28<|.L<|q+1) 56<|.L<|q+2) 12<|.int 0) 7<|.int 0) 19<|.str<|aa "") 35<|.int 0
def ZJ{a b c:I}(ab:0<C.length):sr (d+2) 2 [a,b,c] C=some (.L C.length,C++.cO 2 (wK C.length a b c)::[.list [],.list []]):=yX rfl<|yY (np:=4) rfl rfl<|ff (l:=[]) rfl ab rfl (fJ rfl)<|ff rfl ab rfl (fJ rfl)<|ff rfl ab rfl (fJ rfl)<|ff rfl ab rfl rfl<|ff rfl ab rfl rfl<|ff rfl ab rfl rfl<|ff rfl ab rfl rfl<|ff rfl ab rfl rfl<|ff rfl ab rfl rfl<|ff rfl ab rfl (lk rfl)<|ff rfl ab rfl (lk rfl)<|ff rfl ab rfl rfl<|ff rfl ab rfl rfl<|ff rfl ab rfl rfl<|ff rfl ab rfl rfl rfl
noncomputable def B6(t:Nat):Nat->Option I:=ar (ar (ar (ar (λB=>none) 51<|.L t) 15<|.int 0) 32<|.int 200) 31<|.int 40
def ZK(ab:0<C.length):sr (d+2) 4 [.L t] C=some (.L C.length,C++[.cO 4<|B6 t]):=yX rfl<|yY (np:=2) rfl rfl<|ff (l:=[]) rfl ab rfl (fJ rfl)<|ff rfl ab rfl rfl<|ff rfl ab rfl rfl<|ff rfl ab rfl rfl rfl
def ZL{l:List I}(X:ej C A T)(an:C[A.t+3]? =some (.list l))(aJ:l.length<1000)(aq:∀S,a0 a2 (d+3) 14 [.L A.t,a,b] C=some (.L C.length,S)->S[A.t+3]? =some (.list<|l++[.L C.length])->S[C.length]? =some (.cO 2<|wK C.length (J l.length) a b)->S[C.length+2]? =some (.list [])->bx C S [A.t+3]->S.length=C.length+3->bY):bY:=by have ba:=fc an;have k2:=bx.push C [.cO 2<|wK C.length (J l.length) a b,.list [],.list []] [];have oG:=k2.get an b4;have eb:(C++[b5.cO 2<|wK C.length (J l.length) a b,.list [],.list []]).length=C.length+3:=er;refine X.jI.elim λF tt=>ut (v:=.L C.length) oG (qB _) (ec aJ<|by decide) λaw aT u=> ?_;exact aq aw (go λk=>k _ (kz tt.1 rfl tt.2.2.2.1) _ _ (oW an) _ _ (ZJ (d:=d)<|lN ba) _ (kz (k2.get tt.1 b4) rfl tt.2.2.2.1) _ (lI oG) _ _<|lJ oG aT) (u.i7 oG) (u.get ea<|dd ba) (u.get (wJ (m:=[b5.cO 2<|wK C.length (J l.length) a b,.list [],.list []]) rfl)<|dd<|c7 ba<|cT _ _) ((k2.ci nofun).trans u.bU)<|u.len.trans eb
def ZM{n:Nat}(X:ej C A T)(hn:af.ref n∉T)(an:T.length<1000)(aq:∀S,a0 a2 (d+2) 10 [.L A.t,J n,.ak []] C=some (J T.length,S)->ej S A (T++[.ref n])->bx C S [A.t+1,A.t+2]->bY):bY:=X.jI.elim λF tt=>Fn (d:=d) X (r:=.ref n) rfl hn (ec an<|by decide) λS c ih f B=>aq S (go λr=>r _ (hN tt.1 tt.2.2.2.2 rfl) _ _ rfl _ _ c) ih f
end
end
section
noncomputable def ik(i:Nat):dA:=Ig.body.getD i .fA
section
variable{T:List af}{q n x:Nat}{D:kG}{ns df:List Nat}
noncomputable def ZN:List Nat:=[0,4,1,0,1,1,1,9,2,2,2,9,0,0,0,0,3,0,0,0,0,0,1,0,0,2]
def ZO(h:C[0]? =some (.list<|zs.map .int))(aq:∀cg be aU S yZ (l:List Nat),cr (bk d) (ik 0) (ck [.L 0]) C=some (.next,cg,be)->cr (bk d) (ik 1) cg be=some (.next,aU,S)->aU 1=some (.L yZ)->S[yZ]? =some (.list<|l.map J)->l≠[]->l.length<=40->bY):bY:=by
 have eI:nj (.L 0) none (some<|.int 40) C=some (.L C.length,C++[.list<|(zs.take 40).map .int]):=(Na (rfl:l5 none=some none) (Nb<|by decide) h).trans (ai (λl=>some (I.L C.length,C++[b5.list l])) (by
  have e:(zs.map I.int).take (ni (40:Int) (zs.map I.int).length)=(zs.take 40).map .int:=(show _=(zs.map I.int).take 40 by have c:ni (40:Int) (zs.map I.int).length=min 40 (zs.map I.int).length:=bI (by decide);exact c▸(List.take_eq_take_min (i:=40)).symm).trans List.map_take.symm
  exact e))
 have ag:=yq (O:=bk d) (H:=ck [.L 0]) (i:=42) (elt:=.b6 .mF (.E 42)<|U 999983) (cf:=.jf (.E 0) none<|some<|U 40) (ij:=C) (b3:=I.int) (xs:=zs.take 40) (g:=λz=>J (z.fmod 999983).toNat) (jk λk=>k _ _ eI) (lO ea) (iw ea) λz B=>i8 λk=>k _ rfl _ _ ((bg (by decide):(if(0:Int)<999983 then some (I.int<|z.fmod 999983,C++[.list<|(zs.take 40).map .int])else none)=_).trans<|ai (λz=>some (I.int z,C++[.list<|(zs.take 40).map .int])) (Int.toNat_of_nonneg<|Int.fmod_nonneg_of_pos z<|by decide).symm);have g:∀{s:St},(s++[b5.list<|(zs.take 40).map λz=>J (z.fmod 999983).toNat])[s.length]? =some (.list<|((zs.take 40).map λz=>(z.fmod 999983).toNat).map J):=ea.trans<|ai (λl=>some<|b5.list l) (jC (g:=J) (f:=λz:Int=>(z.fmod 999983).toNat)).symm;have N5:((zs.take 40).map λz=>(z.fmod 999983).toNat).length<=40:=a3 (cP<|c2 _)<|List.length_take_le _ _;generalize (zs.take 40).map (λz=>(z.fmod 999983).toNat)=l at g N5;cases l with
 |nil=>exact aq _ _ _ _ _ ZN (ux ag) (gy λk=>k _ rfl _ _ (nL g) _ rfl) rfl ea nofun (by decide)
 |cons x l=>exact aq _ _ _ _ _ (x::l) (ux ag) (gy λk=>k _ rfl _ _ (nL g) _<|bN (b:=0) nofun) rfl g nofun N5
def ZP(h:C[0]? =some (.list<|zs.map .int))(aq:∀cg be dr bF s3 S D aG na N,cr (bk<|d+5) (ik 0) (ck [.L 0]) C=some (.next,cg,be)->cr (bk<|d+5) (ik 1) cg be=some (.next,dr,bF)->cr (bk<|d+5) (ik 2) dr bF=some (.next,ar dr 2<|.L D.a,s3)->cr (bk<|d+5) (ik 3) (ar dr 2<|.L D.a) s3=some (.next,ar (ar dr 2<|.L D.a) 3<|.L aG,S)->
  dr 1=some (.L D.n)->hE D 40 S->qc S aG na N->D.n<D.a->D.a<aG->(∀i,i<3->D.a<na i/\aG≠na i)->bY):bY:=by
 refine ZO (d:=d+5) h λcg be dr bF yZ l oT a6 bh g du n2=> ?_;have ab:=fc g;have an:(bF++[b5.list [J 0]]).length=bF.length+1:=er;refine YJ (d:=d) (D:=⟨yZ,bF.length,l⟩) (C:=bF++[.list [J 0]]) ⟨⟨du,n2,lN ab,dV ab⟩,(bx.push bF _ []).get g b4,0,jB _,ea⟩ (jB _) (an▸pI _) λc m0 es cU o7 wC jr s4 wL e bM aD aF gi dK fk le bw hP=> ?_;refine aq cg be dr bF _ s4 ⟨yZ,bF.length,l⟩ c (λi=>[m0,es,cU].getD i 0) (λi=>[o7,wC,jr].getD i []) oT a6 rfl (gy λk=>k _ bh _ rfl _ _ wL) bh (hP.w.ci<|gF _) ⟨e,λi ah=> ?_,λi ah=> ?_⟩ ab (an▸le.2.2.2:) λi ah=> ?_
 ·rcases gf ah with rfl|rfl|rfl;exact bM;exact aD;exact aF
 ·rcases gf ah with rfl|rfl|rfl;exact gi;exact dK;exact fk
 ·rcases gf ah with rfl|rfl|rfl;exact⟨(an▸le.1:),bw.1⟩;exact⟨(an▸le.2.1:),bw.2.1⟩;exact⟨(an▸le.2.2.1:),bw.2.2⟩
structure ro(df:List Nat)(C:St)(x:Nat)(o:b5):Prop where
 c:C[x]? =some o
 n:x∉df
def ro.keep(h:ro df C x o)(f:bx C S ms)(s:∀a∈ms,a∈df):ro df S x o:=⟨f.get h.c λq=>h.n<|s x q,h.n⟩
structure wM(C:St)(q n:Nat):Prop where
 wx:∃a b,C[q]? =some (.cO 2<|wK q (J n) a b)
 B7:C[q+2]? =some (.list [])
def wM.keep(h:wM C q n)(f:bx C S ms)(Y:q∉ms)(ae:q+2∉ms):wM S q n:=⟨h.wx.imp λB h=>h.imp λB h=>f.get h Y,f.get h.B7 ae⟩
def Gx{c:I}(ag:∀C,fj C (.str<|aa "ABC") (J i)=some c)(h:hE D b C)(aj:b<=1000)(X:ej C A T)(an:C[A.t+3]? =some (.list l))(aJ:l.length<1000)(on:D.n<D.a)(o:D.a<A.t)(Y:H 1=some (.L D.n))(ae:H 2=some (.L D.a))(cp:H 4=some (.L A.t))(aq:∀q S,((gr (bk<|d+3) [] (ar H 42<|J i) C).bind λr=>if r.1 then(bq (bk<|d+3) (.a5 14 [(.E 4),(.b6 .add (U 1)<|.a5 98 [(.E 1),(.E 2),(U 3)]),(.av (.bc<|.str<|aa "ABC")<|.E 42)]) (ar H 42<|J i) r.2).bind λu=>some (some u.1,u.2)else some (none,r.2))=some (some<|.L q,S)->C.length<=q->S.length=q+3->S[A.t+3]? =some (.list<|l++[.L q])->wM S q l.length->hE D (b+1) S->ej S A T->bx C S [D.a,A.t+3]->bY):bY:=by refine lf (d:=d+2) (n:=3) h (a3 aj<|by decide) (by decide) λv be aR a6 fS=> ?_;have dB:=X.keep fS.f λa h B=>fv<|dd<|c7 o h;have jo:=c7 o<|cT A.t 3;refine ZL (d:=d) (a:=J<|1+v) (b:=c) dB (fS.f.get an<|fv<|dd jo) aJ λS bR g1 bd cQ f2 d3=> ?_;exact aq be.length S (cF (x:=gr (bk<|d+3) [] _ C) rfl<|cF (i8 λk=>k _ cp _ Y _ ae _ _ a6 _ _ rfl _ rfl _ (ag _) _ _ bR) rfl) fS.f.len d3 g1 ⟨⟨_,_,bd⟩,cQ⟩ (fS.w.keep f2 (fv<|dV<|ec on jo)<|fv<|dV jo) (dB.keep f2 λa B h=>fv<|dV<|pJ h)<|(fS.f.ci λB h=>bT h▸bp).trans<|f2.ci λB=>bQ _
def Gy(X:ej C A T)(hn:af.ref n∉T)(an:T.length<1000)(cp:H 4=some (.L A.t))(aI:wM C q n)(aq:∀S,((gq (.aS 42) (.L q) H).bind λcg=>(gr (bk<|d+2) [] cg C).bind λr=>if r.1 then(bq (bk<|d+2) (.a5 10 [(.E 4),(.aZ (.E 42) 17),(.ak [])]) cg r.2).bind λu=>some (some u.1,u.2)else some (none,r.2))=some (some<|J T.length,S)->ej S A (T++[.ref n])->bx C S [A.t+1,A.t+2]->bY):bY:=aI.wx.elim λa e=>e.elim λb e=>ZM (d:=d) X hn an λS c ih f=>aq S (cF (x:=gq (.aS 42) (.L q) H) rfl<|cF (x:=gr (bk<|d+2) [] _ C) rfl<|cF (i8 λk=>k _ cp _ rfl _ (kz e rfl rfl) _ _ c) rfl) ih f
end
end
section
def qk{α:Type}{a x:α}{l:List α}(h:x≠a)(k:x∉l):x∉a::l:=λq=>(cR q).elim h k
noncomputable def N6:Nat->af->Bool
 |i,.key B=>decide<|i<16
 |i,.bool B cq=>decide<|i<16
 |i,.ref d=>decide<|i=15+d/\1<=d/\d<=3
 |i,.dI ps=>decide<|ps=[8,9]
 |i,.obj B cq=>decide<|i=11
 |B,cq=>false
def ZQ:bO fU:=⟨N4,List.prefix_refl _,λi r h=>by
 have k:=(show∀i<19,((fU[i]?).all<|N6 i)=true by decide+kernel) i<|fc h;rw[h]at k;have k:N6 i r:=k;cases r with
 |key s=>exact(dw k:i<16)
 |bool b f=>exact(dw k:i<16)
 |ref d=>exact(dw k:i=15+d/\1<=d/\d<=3)
 |obj ps f=>exact .inl<|dw k
 |dI ps=>obtain rfl:ps=[8,9]:=dw k;have f:∀{x r:af},some x=some r->x.d8=false/\eY x= -1->r.d8=false/\eY r= -1:=λe h=>br e▸h;have n:∀{p:Nat},p∈[8,9]->∀{r:af},fU[p]? =some r->r.d8=false/\eY r= -1:=λ{p} ab {r} aH=>uB (P:=λp=>fU[p]? =some r->r.d8=false/\eY r= -1) (λe=>f (x:=.bool 0 0) e ⟨rfl,rfl⟩) (λe=>f (x:=.bool 1 0) e ⟨rfl,rfl⟩) _ ab aH;exact⟨by decide,by decide,by decide,uB ⟨by decide,by decide,by decide,by decide,by decide,by decide,_,rfl,by decide⟩ ⟨by decide,by decide,by decide,by decide,by decide,by decide,_,rfl,by decide⟩,λp ab q aC r r' aH mQ hf=>b8<|(n ab aH).1.symm.trans hf,λB B=>by decide,λp ab r aH q aC e=>vq<|e.trans (n ab aH).2⟩
 |_=>exact b8 k⟩
structure uU where
 aG:Nat
 gm:Nat
 hr:Nat
 na:Nat->Nat
noncomputable def lT(D:kG)(A:gO)(a4:uU):List Nat:=[D.a,a4.aG,A.t+1,A.t+2,A.k7,A.iO,A.ev]
structure hQ(D:kG)(A:gO)(a4:uU):Prop where
 n:D.n<D.a
 a:D.a<a4.aG
 t:a4.aG<A.t
 d:A.t+8<A.k7
 e:A.k7+3<=A.iO
 f:A.iO+3<=A.ev
structure g2(D:kG)(A:gO)(a4:uU)(C:St)(T:List af)(bv:Nat->I)(N:Nat->List cZ)(b:Nat):Prop where
 jP:hE D b C
 fi:C[a4.aG]? =some (.list [.L<|a4.na 0,.L<|a4.na 1,.L<|a4.na 2])
 ok:∀i,i<3->lh (N i)
 d2:∀i,i<3->ro (lT D A a4) C (a4.na i) (.list<|(N i).map fQ)
 fZ:ej C A T
 cX:bO T
 sv:ro (lT D A a4) C (A.t+3) (.list [.none,.L A.k7,.L A.iO,.L A.ev])
 gm:ro (lT D A a4) C a4.gm (.list [.L A.k7,.L A.iO,.L A.ev])
 made:ro (lT D A a4) C a4.hr (.list [J 16,J 17,J 18])
 kA:∀i,i<3->∃F,C[A.fw i]? =some (.cO 2 F)/\F 10=some (bv i)/\F 9=some (.ak [])/\F 56=some (.L<|A.fw i+2)
 B8:∀i,i<3->ro (lT D A a4) C (A.fw i+2) (.list [])
 o:hQ D A a4
 h:A.ev<a4.gm
section
variable{T:List af}{x:Nat}{D:kG}{a4:uU}{bv:Nat->I}
def g2.keep(P:g2 D A a4 C T bv N b)(f:bx C S ms)(s:∀a∈ms,a∈lT D A a4)(jP:hE D b' S)(fi:S[a4.aG]? =some (.list [.L<|a4.na 0,.L<|a4.na 1,.L<|a4.na 2]))(fZ:ej S A a7)(cX:bO a7)(kA:∀i,i<3->∃F,S[A.fw i]? =some (.cO 2 F)/\F 10=some (B9 i)/\F 9=some (.ak [])/\F 56=some (.L<|A.fw i+2)):g2 D A a4 S a7 B9 N b':=⟨jP,fi,P.ok,λi ah=>(P.d2 i ah).keep f s,fZ,cX,P.sv.keep f s,P.gm.keep f s,P.made.keep f s,kA,λi ah=>(P.B8 i ah).keep f s,P.o,P.h⟩
def hQ.fw(o:hQ D A a4)(i:Nat):A.t+8<A.fw i:=gO.all (P:=(A.t+8<·)) o.d (c7 o.d<|k3 o.e) (c7 o.d<|a3 (k3 o.e)<|k3 o.f) i
def hQ.top(o:hQ D A a4)(i:Nat):A.fw i<=A.ev:=gO.all (P:=(·<=A.ev)) (a3 (k3 o.e)<|k3 o.f) (k3 o.f) (gF _) i
def hQ.N7(o:hQ D A a4)(ah:i<3)(aQ:j<3)(h:i≠j):A.fw i+3<=A.fw j\/A.fw j+3<=A.fw i:=by
 have aF:=a3 o.e<|k3 o.f;rcases gf ah with rfl|rfl|rfl<;>rcases gf aQ with rfl|rfl|rfl
 ·exact absurd rfl h
 ·exact .inl o.e
 ·exact .inl aF
 ·exact .inr o.e
 ·exact absurd rfl h
 ·exact .inl o.f
 ·exact .inr aF
 ·exact .inr o.f
 ·exact absurd rfl h
def hQ.ZR(o:hQ D A a4)(ah:i<3)(aQ:j<3)(h:i≠j):A.fw i≠A.fw j:=(o.N7 ah aQ h).elim (λh=>dV<|ur h) λh=>dd<|ur h
def N8(Y:x≠D.a)(ae:x≠a4.aG)(ba:x<=A.t\/A.t+3<=x)(cp:∀i,i<3->x≠A.fw i):x∉lT D A a4:=qk Y (qk ae<|qk (ba.elim (λh=>dV<|pJ h) λh=>dd<|c7 (oy<|oY _) h)<|qk (ba.elim (λh=>dV<|pJ<|rZ h) λh=>dd h)<|qk (cp 0<|by decide)<|mi (cp 1<|by decide)<|cp 2<|by decide)
def hQ.ce(o:hQ D A a4)(h:x<A.t)(Y:x≠D.a)(ae:x≠a4.aG):x∉lT D A a4:=N8 Y ae (.inl<|hj h) λi B=>dV<|ec h<|c1 (cT _ _)<|o.fw i
def hQ.ah(o:hQ D A a4)(h:A.t+3<=x)(cp:∀i,i<3->x≠A.fw i):x∉lT D A a4:=
 have aP:a4.aG<x:=c7 o.t<|k3 h
 N8 (dd<|ec o.a aP) (dd aP) (.inr h) cp
def hQ.gm(o:hQ D A a4)(h:A.ev<x):x∉lT D A a4:=o.ah (a3 (hj<|c1 (hB (by decide) _)<|o.fw 2)<|hj h) λi B=>dd<|c1 (o.top i) h
def ZS(Y:H 1=some (.L D.n))(ae:H 2=some (.L D.a))(nx:hE D 40 C)(fE:qc C aG na N)(on:D.n<D.a)(y0:D.a<aG)(pb:∀i,i<3->D.a<na i/\aG≠na i)(aq:∀be bF S A a4,cr (bk<|d+3) (ik 4) H C=some (.next,ar H 4<|.L A.t,be)->cr (bk<|d+3) (ik 5) (ar H 4<|.L A.t) be=some (.next,ar (ar H 4<|.L A.t) 6<|.L a4.gm,bF)->
  cr (bk (d+3)) (ik 6) (ar (ar H 4 (.L A.t)) 6 (.L a4.gm)) bF=some (.next,ar (ar (ar H 4 (.L A.t)) 6 (.L a4.gm)) 7 (.L a4.hr),S)->a4.aG=aG->g2 D A a4 S fU (λB=>.int (-1)) N 43->bY):bY:=by
 have mM:=fc fE.fi;have uV:=ec y0 mM;refine ZH (d:=d) (A:=⟨C.length,0,0,0,0⟩) (lN mM) rfl λaw a6 dB dW aD f0=> ?_;refine Gx (d:=d) (i:=0) (H:=ar H 4<|.L C.length) (λB=>rfl) (nx.keep f0 b4 b4) (by decide) dB aD (by decide) on uV Y ae rfl λnY be dK fF es g1 y1 hk fo f1=> ?_;refine Gx (d:=d) (i:=1) (H:=ar H 4<|.L C.length) (λB=>rfl) hk (by decide) fo g1 (p0 rfl) on uV Y ae rfl λhA bF fk hu cU bd y2 j7 nd f2=> ?_;refine Gx (d:=d) (i:=2) (H:=ar H 4<|.L C.length) (λB=>rfl) j7 (by decide) nd bd (p0 rfl) on uV Y ae rfl λeW s3 oj mX bl cQ y3 iK f6 hl=> ?_;have nZ:C.length+8<nY:=a3 (cP dW.symm) fF;have nH:nY+3<=hA:=a3 (cP es.symm) hu;have eZ:hA+3<=eW:=a3 (cP cU.symm) mX;have s0:∀a∈[D.a,C.length+3],a∈[D.a,C.length+1,C.length+2,C.length+3]:=λa h=>(cR h).elim (λe=>e▸bp) λh=>bQ _<|bQ _<|bQ _ h;have ql:∀a∈[C.length+1,C.length+2],a∈[D.a,C.length+1,C.length+2,C.length+3]:=λa h=>bQ _<|(cR h).elim (λe=>e▸bp) λh=>bQ _<|bT h▸bp;have out:∀{x},C.length+3<x->x∉[D.a,C.length+1,C.length+2,C.length+3]:=λh=>Mb (dd<|ec uV<|c1 (cT _ _) h) (dd<|c1 (hB (by decide) _) h) (dd<|c1 (hB (by decide) _) h)<|dd h;have rk:∀{x},x<C.length->D.a≠x->x∉[D.a,C.length+1,C.length+2,C.length+3]:=λh n=>Mb n.symm (dV<|oy h) (dV<|c7 h<|cT _ _)<|dV<|c7 h<|cT _ _;have fH:C.length+3<nY:=c1 (hB (by decide) _) nZ;have du:=c7 fH<|k3 nH;have n2:=c7 du<|k3 eZ;have up:∀{x},C.length+3<x->C.length+3<x+2:=λh=>c7 h<|cT _ _;have ez:=f1.ci s0;have ee:=f2.ci s0;have oJ:=(hl.ci s0).trans<|bx.push s3 [.list [.L nY,.L hA,.L eW]] _;have cX:(s3++[b5.list [.L nY,.L hA,.L eW]])[s3.length]? =some (.list [.L nY,.L hA,.L eW]):=ea;have js:C.length+3<s3.length:=c7 n2<|a3 (cT _ 3)<|cP bl.symm;have jJ:=f6.keep (bx.push s3 [.list [.L nY,.L hA,.L eW]] []) λB B B=>b4;refine Gy (d:=d+1) (H:=ar (ar H 4<|.L C.length) 6<|.L s3.length) (n:=1) jJ (by decide) (by decide) rfl (y1.keep (ee.trans oJ) (out fH)<|out<|up fH) λg6 v8 cz bG=> ?_;refine Gy (d:=d+1) (H:=ar (ar H 4<|.L C.length) 6<|.L s3.length) (n:=2) cz (by decide) (by decide) rfl (y2.keep (oJ.trans<|bG.ci ql) (out du)<|out<|up du) λgv v9 mv bo=> ?_;refine Gy (d:=d+1) (H:=ar (ar H 4<|.L C.length) 6<|.L s3.length) (n:=3) mv (by decide) (by decide) rfl (y3.keep (((bx.push s3 [.list [.L nY,.L hA,.L eW]] _).trans<|bG.ci ql).trans<|bo.ci ql) (out n2)<|out<|up n2) λhK uk wN fx=> ?_;have W:=((bG.trans bo).trans fx).trans<|bx.push hK [.list [J 16,J 17,J 18]] _;have jo:s3.length∉[C.length+1,C.length+2]:=λh=>out js<|ql _ h;have aB:=(ez.trans<|ee.trans oJ).trans<|W.ci ql;have N9:=bG.get cX jo;have Oa:=bo.get N9 jo;have Ob:=fx.get Oa jo;have or:hQ D ⟨C.length,nY,hA,eW,0⟩ ⟨aG,s3.length,hK.length,na⟩:=⟨on,y0,mM,nZ,nH,eZ⟩;have Gz:eW<s3.length:=c7 (nz (k:=3)<|by decide)<|cP bl.symm;have jP:=iK.keep ((bx.push s3 [.list [.L nY,.L hA,.L eW]] _).trans W) (λh=>rk (ec on uV) (dd on)<|ql _ h)<|mi (dV<|oy uV)<|dV<|c7 uV<|cT _ _;have y1:=y1.keep ((ee.trans oJ).trans<|W.ci ql) (out fH)<|out<|up fH;have y2:=y2.keep (oJ.trans<|W.ci ql) (out du)<|out<|up du;have y3:=y3.keep ((bx.push s3 [.list [.L nY,.L hA,.L eW]] _).trans<|W.ci ql) (out n2)<|out<|up n2;have fw:∀{q n:Nat},wM (hK++[.list [J 16,J 17,J 18]]) q n->∃F,(hK++[b5.list [J 16,J 17,J 18]])[q]? =some (.cO 2 F)/\F 10=some (.int<|-1)/\F 9=some (.ak [])/\F 56=some (.L<|q+2):=λaI=>aI.wx.elim λa h=>h.elim λb h=>⟨_,h,rfl,rfl,rfl⟩;refine aq aw _ _ ⟨C.length,nY,hA,eW,0⟩ ⟨aG,s3.length,hK.length,na⟩ (ux<|cF (x:=iX (bk<|d+3) [] H C) rfl a6) (ux<|F2 dK fk oj) (ux<|rc (fJ rfl) (lO cX)<|sD (iw cX) v8<|sD (iw N9) v9<|sD (iw Oa) uk<|bg<|iw Ob) rfl
  ⟨jP,aB.get (f0.get fE.fi b4)<|rk mM<|dV y0,fE.ok,λi ah=>⟨aB.get (f0.get (fE.d2 i ah) b4)<|rk (fc<|fE.d2 i ah)<|dV (pb i ah).1,or.ce (fc<|fE.d2 i ah) (dd (pb i ah).1) (pb i ah).2.symm⟩,(wN.keep (bx.push hK _ []) λB B B=>b4).ZE rfl,ZQ,
   ⟨W.get ((bx.push s3 _ []).get cQ b4)<|mi (dd<|oy<|oY _)<|dd<|oY _,or.ah (gF _) λi B=>dV<|c1 (hB (by decide) _)<|or.fw i⟩,
   ⟨W.get cX jo,or.gm Gz⟩,⟨ea,or.gm (ec Gz (fc Ob))⟩,λi ah=> ?_,λi ah=>⟨?_,?_⟩,or,Gz⟩
 ·rcases gf ah with rfl|rfl|rfl;exact fw y1;exact fw y2;exact fw y3
 ·rcases gf ah with rfl|rfl|rfl;exact y1.B7;exact y2.B7;exact y3.B7
 ·refine or.ah (a3 (hj<|c1 (hB (by decide) _)<|or.fw i)<|cT _ _) λj aQ=> ?_;by_cases e:i=j
  ·exact e▸dd (nz<|by decide)
  ·exact(or.N7 ah aQ e).elim (λh=>dV h) λh=>dd<|c7 (ur h)<|cT _ _
end
end
variable{a4:uU}
section
section
variable{T:List af}{x f n:Nat}{D:kG}{lQ:Nat->List cZ}{bv:Nat->I}{F:Nat->Option I}{a9:Nat->Nat->Prop}
def wO(h:x<A.t):x∉[A.t+1,A.t+2]:=mi (dV<|oy h)<|dV<|c7 h<|cT _ _
def Ca(h:A.t+2<x):x∉[A.t+1,A.t+2]:=mi (dd<|Nat.lt_of_succ_lt h)<|dd h
def hQ.uW(o:hQ D A a4)(i:Nat):A.t+2<A.fw i:=c1 (hB (by decide) _)<|o.fw i
def hQ.d2(o:hQ D A a4):D.a<A.t:=ec o.a o.t
def hQ.fL(o:hQ D A a4):D.n<A.t:=ec o.n o.d2
def hQ.Oc(o:hQ D A a4)(h:x<=A.t+8)(i:Nat):x≠A.fw i:=dV<|c1 h<|o.fw i
def hQ.GA(o:hQ D A a4)(h:x<A.t)(i:Nat):x≠A.fw i:=o.Oc (a3 (hj h)<|cT _ _) i
def GB:∀a∈[A.t+1,A.t+2],a∈lT D A a4:=λa h=>bQ _<|bQ _<|(cR h).elim (λe=>e▸bp) λh=>bQ _<|bT h▸bp
def g2.h8(P:g2 D A a4 C T bv N b)(W:ja C A T n S a7):g2 D A a4 S a7 bv N b:=P.keep W.bU GB (P.jP.keep W.bU (wO P.o.fL)<|wO P.o.d2) (W.bU.get P.fi<|wO P.o.t) W.fZ W.cX λi ah=>(P.kA i ah).imp λF h=>⟨W.bU.get h.1<|Ca<|P.o.uW i,h.2⟩
def g2.y4(P:g2 D A a4 C T bv N b)(aB:hP D b' C S):g2 D A a4 S T bv N b':=P.keep aB.f (λa h=>bT h▸bp) aB.w (aB.f.get P.fi<|fv<|dd P.o.a) (P.fZ.keep aB.f λa h B=>fv<|dd<|c7 P.o.d2 h) P.cX λi ah=>(P.kA i ah).imp λF h=>⟨aB.f.get h.1<|fv (P.o.GA P.o.d2 i).symm,h.2⟩
def g2.same(P:g2 D A a4 C T bv N b)(f:bx C S []):g2 D A a4 S T bv N b:=P.y4 ⟨P.jP.keep f b4 b4,f.ci nofun⟩
def g2.ZT(P:g2 D A a4 C T bv N b)(h:∀i,i<3->bv i=B9 i):g2 D A a4 C T B9 N b:={P with kA:=λi ah=>h i ah▸P.kA i ah}
def g2.Od(P:g2 D A a4 C T bv N b)(ah:i<3)(v:I)(aq:∀S,jZ dD C 10 v (.L<|A.fw i)=some S->g2 D A a4 S T (λj=>if j=i then v else bv j) N b->bY):bY:=(P.kA i ah).elim λF e=>by
 have f:=bx.set C (A.fw i)<|.cO 2<|ar F 10 v;have m:∀{x},x<A.t->x∉[A.fw i]:=λh=>fv<|P.o.GA h i;refine aq _ (wd e.1 (dd<|lN<|P.o.fw i) rfl) (P.keep f (λa h=>bT h▸ ?_) (P.jP.keep f (m P.o.fL)<|m P.o.d2) (f.get P.fi<|m P.o.t) (P.fZ.keep f λa B h=>fv<|P.o.Oc (a3 h<|hB (by decide) _) i) P.cX λj aQ=> ?_)
 ·exact bQ _ (bQ _<|bQ _<|bQ _ (by rcases gf ah with rfl|rfl|rfl;exact bp;exact bQ _ bp;exact bQ _<|bQ _ bp))
 ·by_cases c:j=i
  ·subst c;exact⟨_,List.getElem?_set_self<|fc e.1,V (bg rfl) rfl,e.2.2.1,e.2.2.2⟩
  ·exact(P.kA j aQ).imp λG h=>⟨f.get h.1<|fv<|P.o.ZR aQ ah c,V (bI c) h.2.1,h.2.2⟩
def g2.av(P:g2 D A a4 C T bv N b)(ah:i<3):fj C (.L a4.gm) (J i)=some (.L<|A.fw i):=kb P.gm.c (by rcases gf ah with rfl|rfl|rfl<;>rfl)
def g2.Oe(P:g2 D A a4 C T bv N b)(ah:i<3):fj C (.L a4.aG) (J i)=some (.L<|a4.na i):=kb P.fi (by rcases gf ah with rfl|rfl|rfl<;>rfl)
def Of(h:x∉lT D A a4):x∉[A.t+1,A.t+2]:=λq=>h<|GB x q
def GC(P:g2 D A a4 C T bv N b)(eA:H 3=some (.L a4.aG))(dX:H 4=some (.L A.t))(jF:H 6=some (.L a4.gm))(lF:H 7=some (.L a4.hr))(ah:i<3)(an:T.length<=1000)(aq:∀u S a7,cG (bk<|d+7) (jO<|ik 7) (ar H 5<|J i) C=some (.next,ar H 5<|J i,S)->g2 D A a4 S a7 (λj=>if j=i then J u else bv j) N b->el T a7->a7.length<=T.length+10->nc a7 u (N i)->bY):bY:=NN (d:=d) (s:=0) P.fZ P.cX (a3 an<|by decide) (P.ok i ah) (Nat.mod_lt i<|by decide) (by decide) (P.d2 i ah).c P.made.c (Of P.made.n) (Of (P.d2 i ah).n) λu be a7 c W a1=>(P.h8 W).Od ah (J u) λbF aJ fg=>aq u bF a7 (eK λk=>k _ dX _ eA _ rfl _ (P.Oe ah) _ rfl _ _ (wA<|by decide) _ lF _ _ c _ jF _ rfl _ ((P.h8 W).av ah) _ aJ) fg W.pre W.len a1
def ZU(P:g2 D A a4 C fU bv N b)(eA:H 3=some (.L a4.aG))(dX:H 4=some (.L A.t))(jF:H 6=some (.L a4.gm))(lF:H 7=some (.L a4.hr))(aq:∀S a7 e8 fy e1,cr (bk<|d+7) (ik 7) H C=some (.next,ar (ar (ar H 5<|J 0) 5<|J 1) 5<|J 2,S)->g2 D A a4 S a7 (λi=>J<|[e8,fy,e1].getD i 0) N b->a7.length<=49->nc a7 e8 (N 0)->nc a7 fy (N 1)->nc a7 e1 (N 2)->bY):bY:=GC (d:=d) P eA dX jF lF (i:=0) (by decide) (by decide) λe8 be cz a6 gA nH dW ZV=>GC (d:=d) (H:=ar H 5<|J 0) gA eA dX jF lF (i:=1) (by decide) (a3 dW<|by decide) λfy bF mv bR fg eZ d3 ZW=>GC (d:=d) (H:=ar (ar H 5<|J 0) 5<|J 1) fg eA dX jF lF (i:=2) (by decide) (a3 d3<|a3 (fm dW 10)<|by decide) λe1 s3 wN d4 P3 hC uX ZX=>aq s3 wN e8 fy e1 (wu (n:=3) rfl (by decide)<|eT rfl a6<|eT rfl bR<|eT rfl d4 rfl) (P3.ZT λi ah=>by rcases gf ah with rfl|rfl|rfl<;>rfl) (a3 uX<|fm (a3 d3<|fm dW 10) 10) ((ZV.pre gA.cX eZ).pre fg.cX hC) (ZW.pre fg.cX hC) ZX
def uY(G:bO T)(aQ:j<3):d6 T a1 (n+1) (16+j)=d6 T a1 n (a1 j):=by
 show(match T[16+j]?with
  |some (.obj B cq)=>some<|16+j
  |some (.ref d)=>if 1<=d/\d<=3 then d6 T a1 n (a1<|d-1)else none
  |some (.dI B)=>none
  |none=>none
  |_=>some 11)=_
 exact V (B0 G aQ)<|bg ⟨Nat.le_add_left _ _,aQ⟩
def ZY(h:T[u]? =some (.obj ps f)):d6 T a1 (n+1) u=some u:=by
 show(match T[u]?with
  |some (.obj B cq)=>some u
  |some (.ref d)=>if 1<=d/\d<=3 then d6 T a1 n (a1<|d-1)else none
  |some (.dI B)=>none
  |none=>none
  |_=>some 11)=_
 exact V h rfl
def uZ(T:List af)(a1:Nat->Nat)(N:Nat->List cZ)(j:Nat):Prop:=nc T (a1 j) (N j)\/∃i,i<3/\a1 j=16+i/\N j=N i
def wP(h:nc T u df)(e:d6 T a1 40 (16+j)=d6 T a1 (n+1) u):∃u ps f,d6 T a1 40 (16+j)=some u/\T[u]? =some (.obj ps f)/\u≠11/\cC (pg T) df ps:=h.ex.elim λps q=>q.elim λf q=>⟨u,ps,f,e.trans<|ZY q.1,q.1,h.bw,q.2⟩
def ZZ{e8 fy e1:Nat}(P:g2 D A a4 C T (λi=>J<|[e8,fy,e1].getD i 0) N b)(aj:b<=1000)(bh:H 1=some (.L D.n))(bf:H 2=some (.L D.a))(eA:H 3=some (.L a4.aG))(jF:H 6=some (.L a4.gm))(lF:H 7=some (.L a4.hr))(h0:nc T e8 (N 0))(Y:nc T fy (N 1))(ae:nc T e1 (N 2))(aq:∀S y5 a1 lQ,cr (bk<|d+1) (ik 8) H C=some (.next,H,S)->y5.aG=a4.aG->y5.gm=a4.gm->y5.hr=a4.hr->g2 D A y5 S T (λi=>J<|a1 i) lQ (b+1)->nV T a1 lQ->(∀j,j<3->uZ T a1 lQ j)->bY):bY:=by
 refine lf (d:=d) (n:=5) P.jP (a3 aj<|by decide) (by decide) λv be aR a6 fS=> ?_;have gA:=P.y4 fS;by_cases cp:v=4
 ·refine gA.Od (i:=2) (by decide) (J 16) λbF aJ fg=>yI (i:=2) (v:=.L<|a4.na 0) fg.fi (dd<|lN P.o.a) (p0 rfl) λs3 aP w=> ?_;have Z0:∀i,i<3->(if i=2 then J 16 else J ([e8,fy,e1].getD i 0))=J ([e8,fy,16].getD i 0):=λi ah=>by rcases gf ah with rfl|rfl|rfl<;>rfl
  have hw:∀{x},x∉lT D A a4->x∉[a4.aG]:=λh=>fv λq=>h<|q▸bQ _ bp;have u0:∀a∈[a4.aG],a∈lT D A a4:=λa h=>bT h▸bQ _ bp;refine aq s3 ⟨a4.aG,a4.gm,a4.hr,λi=>[a4.na 0,a4.na 1,a4.na 0].getD i 0⟩ (λi=>[e8,fy,16].getD i 0) (λi=>[N 0,N 1,N 0].getD i []) (gy λk=>k _ bh _ bf _ _ a6 _ (cY (b:=4) cp) _ lF _ (kb (i:=0) gA.made.c rfl) _ jF _ (gA.av (i:=2)<|by decide) _ aJ _ eA _ (fg.Oe (i:=0)<|by decide) _ eA _ aP) rfl rfl rfl
   ⟨fg.jP.keep w.bU (fv<|dV<|ec P.o.n P.o.a)<|fv<|dV P.o.a,w.i7 fg.fi,λi ah=> ?_,λi ah=> ?_,fg.fZ.keep w.bU λa h B=>fv<|dd<|c7 P.o.t h,fg.cX,fg.sv.keep w.bU u0,fg.gm.keep w.bU u0,fg.made.keep w.bU u0,λi ah=>(fg.kA i ah).imp λF h=>⟨w.bU.get h.1<|fv (P.o.GA P.o.t i).symm,h.2.1.trans<|ai some<|Z0 i ah,h.2.2⟩,λi ah=>(fg.B8 i ah).keep w.bU u0,⟨P.o.n,P.o.a,P.o.t,P.o.d,P.o.e,P.o.f⟩,P.h⟩ ⟨fg.cX,λj aQ=> ?_⟩ λj aQ=> ?_
  ·rcases gf ah with rfl|rfl|rfl;exact fg.ok 0 ah;exact fg.ok 1 ah;exact fg.ok 0 (by decide)
  ·rcases gf ah with rfl|rfl|rfl;exact(fg.d2 0 ah).keep w.bU u0;exact(fg.d2 1 ah).keep w.bU u0;exact(fg.d2 0<|by decide).keep w.bU u0
  ·rcases gf aQ with rfl|rfl|rfl;exact wP (n:=38) h0<|uY fg.cX aQ;exact wP (n:=38) Y<|uY fg.cX aQ;exact wP (n:=37) h0 ((uY fg.cX aQ).trans<|uY (j:=0) fg.cX<|by decide)
  ·rcases gf aQ with rfl|rfl|rfl;exact .inl h0;exact .inl Y;exact .inr ⟨0,by decide,rfl,rfl⟩
 ·refine aq be a4 (λi=>[e8,fy,e1].getD i 0) N (gy λk=>k _ bh _ bf _ _ a6 _<|bN (b:=4) cp) rfl rfl rfl gA ⟨gA.cX,λj aQ=> ?_⟩ λj aQ=> ?_
  ·rcases gf aQ with rfl|rfl|rfl;exact wP (n:=38) h0<|uY gA.cX aQ;exact wP (n:=38) Y<|uY gA.cX aQ;exact wP (n:=38) ae<|uY gA.cX aQ
  ·rcases gf aQ with rfl|rfl|rfl;exact .inl h0;exact .inl Y;exact .inl ae
structure rp(D:kG)(A:gO)(C:St)(x:Nat)(o:b5):Prop where
 c:C[x]? =some o
 n:x∉[D.a,A.t+1,A.t+2]
 h:x<A.cn
structure hF(D:kG)(A:gO)(a4:uU)(C:St)(T:List af)(a1:Nat->Nat)(N:Nat->List cZ)(b bL:Nat)(f:Nat->Nat->Bool):Prop where
 jP:hE D b C
 fi:rp D A C a4.aG (.list [.L<|a4.na 0,.L<|a4.na 1,.L<|a4.na 2])
 ok:∀i,i<3->lh (N i)
 d2:∀i,i<3->rp D A C (a4.na i) (.list<|(N i).map fQ)
 au:dY C A T a1
 cX:bO T
 gm:rp D A C a4.gm (.list [.L A.k7,.L A.iO,.L A.ev])
 made:rp D A C a4.hr (.list [J 16,J 17,J 18])
 same:rp D A C bL (.dict<|jN f)
 o:D.n<D.a/\D.a<A.t
 s:A.t+2<bL
def Z1(P:g2 D A a4 C T (λi=>J<|a1 i) N b)(eA:H 3=some (.L a4.aG))(dX:H 4=some (.L A.t))(aq:∀be S nX bL e6,cr (bk<|d+6) (ik 9) H C=some (.next,ar H 8<|.L bL,be)->cr (bk<|d+6) (ik 10) (ar H 8<|.L bL) be=some (.next,ar (ar H 8<|.L bL) 9<|.L nX.cn,S)->nX.t=A.t->hF D nX a4 S T a1 N b bL e6->
  (∀a9,sS N a9->∀i j,i<3->j<3->a9 i j->e6 i j)->(∀i j,i<3->j<3->i≠j->e6 i j->m6 e6 (N i) (N j)=true)->bY):bY:=by
 refine Y2 (d:=d) (na:=a4.na) ⟨P.fi,λi ah=>(P.d2 i ah).c,P.ok⟩ (lN<|fc P.fi) λe6 be a6 aD f1 up eV=> ?_;have gA:=P.same f1;have f2:=bx.push be [.cO 4<|B6 A.t] [];have fg:=gA.same f2;have ch:∀{x o},ro (lT D A a4) be x o->rp D {A with cn:=be.length} (be++[.cO 4<|B6 A.t]) x o:=λh=>⟨f2.get h.c b4,λq=>h.n<|(cR q).elim (λe=>e▸bp) λq=>GB _ q,fc h.c⟩;have jo:∀{x},A.t+2<x->x∉[D.a,A.t+1,A.t+2]:=λh=>qk (dd<|ec P.o.d2<|c1 (cT _ _) h)<|Ca (A:=A) h;have aJ:A.t+2<C.length:=c7 (P.o.uW 2) (hj<|(P.kA 2<|by decide).elim λF h=>fc h.1);refine aq be _ {A with cn:=be.length} C.length e6 (gy λk=>k _ eA _ _ a6) (gy λk=>k _ dX _ _<|ZK (d:=d+4)<|lN<|fc aD) rfl ⟨fg.jP,⟨fg.fi,qk (dd P.o.a)<|wO P.o.t,fc gA.fi⟩,fg.ok,λi ah=>ch<|gA.d2 i ah,
  ⟨⟨fg.fZ.pos,P.o.d,c7 (nz (by decide)) P.o.e,c7 (nz (by decide)) P.o.f,ec P.h (fc gA.gm.c)⟩,fg.fZ.jI,fg.fZ.lG,fg.fZ.av,fg.sv.c,λi ah=>(fg.kA i ah).imp λF e=>⟨e.1,e.2.1,e.2.2.1,A.fw i+2,e.2.2.2,?_,hj (fc (gA.B8 i ah).c),(fg.B8 i ah).c⟩,B6 A.t,ea,rfl,rfl,rfl,rfl⟩,fg.cX,ch gA.gm,ch gA.made,⟨f2.get aD b4,jo aJ,fc aD⟩,⟨P.o.n,P.o.d2⟩,aJ⟩ up eV
 exact a3 (gO.all (P:=(A.k7<=·)) (gF _) (k3 P.o.e) (a3 (k3 P.o.e)<|k3 P.o.f) i)<|cT _ _
end
end
section
noncomputable def sY(i:Nat):dA:=(jO<|ik 13).getD i .fA
def lU(T:List af)(N:Nat->List cZ)(x:af)(j:Nat):Prop:=(∃i,i<3/\x=fV i/\N j=N i)\/∃ps f,x=.obj ps f/\cC (pg T) (N j) ps
structure n0(T:List af)(N:Nat->List cZ)(k:e0)(u:Nat):Prop where
 ks:jL k
 ex:∃g,pe T u k g/\iQ k.aV g/\∀j∈k.aV,lU T N (g j) j
structure wQ(H:bS)(D:kG)(A:gO)(a4:uU)(bL m0 dg:Nat):Prop where
 bh:H 1=some (.L D.n)
 bf:H 2=some (.L D.a)
 eA:H 3=some (.L a4.aG)
 dX:H 4=some (.L A.t)
 jF:H 6=some (.L a4.gm)
 lF:H 7=some (.L a4.hr)
 wa:H 8=some (.L bL)
 y6:H 9=some (.L A.cn)
 Cb:H 10=some (J m0)
 Cc:H 11=some (.L dg)
noncomputable def qm(e:e0×Nat):I:=.ak [dz e.1,J e.2]
noncomputable def rq(j u i:Nat):Nat:=if i=j then u else 16+i
section
variable{T:List af}{x n m0 rr mc:Nat}{D:kG}{k:e0}{g:Nat->af}
def dY.Cd(X:dY C A T a1):A.t+8<A.cn:=ec (ec (ec X.eC.2.1 X.eC.2.2.1) X.eC.2.2.2.1) X.eC.2.2.2.2
def rp.keep(h:rp D A C x o)(f:bx C S ms)(s:∀a∈ms,a∈[D.a,A.t+1,A.t+2]\/A.cn<a):rp D A S x o:=⟨f.get h.c λq=>(s x q).elim h.n λl=>Nat.lt_asymm l h.h,h.n,h.h⟩
def hF.keep(P:hF D A a4 C T a1 N b bL e6)(f:bx C S ms)(s:∀a∈ms,a∈[D.a,A.t+1,A.t+2]\/A.cn<a)(jP:hE D b' S)(au:dY S A a7 a1)(cX:bO a7):hF D A a4 S a7 a1 N b' bL e6:=⟨jP,P.fi.keep f s,P.ok,λi ah=>(P.d2 i ah).keep f s,au,cX,P.gm.keep f s,P.made.keep f s,P.same.keep f s,P.o,P.s⟩
def hF.up(P:hF D A a4 C T a1 N b bL e6)(f:bx C S ms)(h:∀a∈ms,A.cn<a):hF D A a4 S T a1 N b bL e6:=
 have n:∀{x},x<=A.cn->x∉ms:=λl q=>lv l<|h _ q;have t:=a3 (k3 (k:=8)<|hj P.au.Cd)<|gF _
 P.keep f (λa q=>.inr<|h a q) (P.jP.keep f (n<|a3 (hj<|ec P.o.1 P.o.2) t)<|n<|a3 (hj P.o.2) t) (P.au.keep f λa B l=>n l) P.cX
def hF.push(P:hF D A a4 C T a1 N b bL e6)(m:St):hF D A a4 (C++m) T a1 N b bL e6:=P.up (bx.push C m []) nofun
def hF.y4(P:hF D A a4 C T a1 N b bL e6)(aB:hP D b' C S):hF D A a4 S T a1 N b' bL e6:=P.keep aB.f (λa q=>.inl<|bT q▸bp) aB.w (P.au.keep aB.f λa l B=>fv<|dd<|c7 P.o.2 l) P.cX
def hF.h8(P:hF D A a4 C T a1 N b bL e6)(W:ja C A T n S a7):hF D A a4 S a7 a1 N b bL e6:=P.keep W.bU (λa q=>.inl<|bQ _ q) (P.jP.keep W.bU (wO<|ec P.o.1 P.o.2)<|wO P.o.2) (P.au.with W.fZ W.bU) W.cX
def hF.ci(P:hF D A a4 C T a1 N b bL e6)(h:b<=b'):hF D A a4 C T a1 N b' bL e6:={P with jP:=P.jP.ci h}
def hF.ah(P:hF D A a4 C T a1 N b bL e6)(h:A.cn<x):x∉[D.a,A.t+1,A.t+2]:=
 have l:A.t+8<x:=ec P.au.Cd h
 qk (dd<|ec P.o.2<|c1 (cT _ _) l) (Ca (A:=A)<|c1 (hB (by decide) _) l)
def uZ.pre(h:uZ T a1 N j)(G:bO T)(x:el T a7):uZ a7 a1 N j:=h.imp_left λh=>h.pre G x
def lU.pre(h:lU T N r j)(G:bO T)(p:el T a7):lU a7 N r j:=h.imp_right λh=>h.imp λps h=>h.imp λf h=>⟨h.1,h.2.imp λB B h=>h.pre G p⟩
def lU.d6(h:lU T N r j):r.shaped:=h.elim (λh=>h.elim λi h=>h.2.1▸rfl) λh=>h.elim λps h=>h.elim λf h=>h.1▸rfl
def lU.bw(h:lU T N r j)(ok:lh (N j)):r≠.obj [] 0:=λe=>h.elim (λh=>h.elim λi h=>nomatch e.symm.trans h.2.1) λh=>h.elim λps h=>h.elim λf h=>(Gm _ ok.names).2.2<|Gn h.2▸(af.obj.inj<|bu e h.1).1▸rfl
def n0.pre(h:n0 T N k u)(G:bO T)(p:el T a7):n0 a7 N k u:=⟨h.ks,h.ex.imp λg h=>⟨h.1.pre G p,h.2.1,λj aQ=>(h.2.2 j aQ).pre G p⟩⟩
def Og(ao:k.aV=[j])(hn:lU T N r j)(ok:lh (N j)):iQ k.aV (λB=>r)/\∀i∈k.aV,lU T N r i:=by rw[ao];exact⟨⟨λB B=>hn.d6,λB B=>hn.bw ok,.inr ⟨j,rfl⟩⟩,λi ah=>bT ah▸hn⟩
def Oh(h:l=[J 16,J 17,J 18]\/∃v,l=[J<|rq j v 0,J<|rq j v 1,J<|rq j v 2])(aQ:j<3):l.set j (J u)=[J<|rq j u 0,J<|rq j u 1,J<|rq j u 2]:=by rcases h with rfl|⟨v,rfl⟩<;>(rcases gf aQ with rfl|rfl|rfl<;>rfl)
def Z2(P:hF D A a4 C T a1 N b bL e6)(R:wQ H D A a4 bL m0 dg)(pH:∀j,j<3->uZ T a1 N j)(ao:jL k)(y7:H 15=some (.ak<|k.aV.map J))(y8:H 16=some (J mc))(GD:H 17=some (.L rr))(GF:C[rr]? =some (.list [J 16,J 17,J 18]))(h0:A.cn<rr)(Oi:mc<3)(an:T.length<=1000)(aq:∀S a7 (mk:Nat->Nat) (g:Nat->af),cr (bk<|d+7) (sY 5) H C=some (.next,H,S)->hF D A a4 S a7 a1 N b bL e6->el T a7->a7.length<=T.length+10->bx C S [A.t+1,A.t+2,rr]->S[rr]? =some (.list [J<|mk 0,J<|mk 1,J<|mk 2])->(∀j∈k.aV,a7[mk j]? =some (g j))->iQ k.aV g->(∀j∈k.aV,lU a7 N (g j) j)->bY):bY:=by
 have GG:=uM _ ao.aV;have cW:=λ(e:cr (bk (d+7)) (sY 5) H C=some (.next,H,C))=>aq C T (λj=>16+j) fV e P (.refl _) (cT _ _) (.refl _ _) GF (λj aQ=>B0 P.cX<|GG j aQ) .fV λj aQ=>.inl ⟨j,GG j aQ,rfl,rfl⟩;by_cases ag:k.aV.length=1
 ·obtain⟨j,e⟩:=List.length_eq_one_iff.mp ag;have aQ:j<3:=GG j<|e▸pL j;by_cases hf:mc=0
  ·exact cW (gy λq=>q _ y7 _ _ mq _ (cY (b:=1) ag) _ y8 _<|k8<|co<|hf▸by decide)
  have Oj:d0 C .gt (J mc) (.int 0)=some true:=k8<|cj<|hx<|Nat.pos_of_ne_zero hf;have wR:H 15=some (.ak [J j]):=y7.trans<|e▸rfl;have gi:rr≠0:=dd<|lN h0;have bl:∀a∈[rr],a∈[A.t+1,A.t+2,rr]:=λa h=>bQ _<|bQ _ h;have Ok:fj C (.L a4.gm) (J j)=some (.L<|A.fw j):=kb P.gm.c (by rcases gf aQ with rfl|rfl|rfl<;>rfl);refine(P.au.kA j aQ).elim λF q=>yI (i:=j) (v:=J<|a1 j) GF gi aQ λbe aJ w=> ?_;have g1:=(w.i7 GF).trans<|ai (λl=>some<|b5.list l)<|Oh (.inl rfl) aQ;have gA:=P.up w.bU λa h=>bT h▸h0;have aD:∀v,rq j v j=v:=λv=>bg rfl;by_cases ae:mc=2
  ·refine NN (d:=d) (f:=1) (s:=1) gA.au.fZ gA.cX (a3 an<|by decide) (gA.ok j aQ) (by decide) (by decide) (gA.d2 j aQ).c gA.made.c (λh=>gA.made.n<|bQ _ h) (λh=>(gA.d2 j aQ).n<|bQ _ h) λu bF a7 c W uR=> ?_;have bd:=W.bU.get g1 λh=>P.ah h0<|bQ _ h;refine yI (i:=j) (v:=J u) bd gi aQ λs3 aP bo=>uR.ex.elim λps h=>h.elim λf h=> ?_;have GH:lU a7 N (.obj ps f) j:=.inr ⟨ps,f,rfl,h.2⟩;have o:=Og e GH<|P.ok j aQ;exact aq s3 a7 (rq j u) (λB=>.obj ps f) (gy λnu=>nu _ y7 _ _ mq _ (cY (b:=1) ag) _ y8 _ Oj _ R.jF _ wR _ (bZ (i:=0) rfl) _ Ok _ (kz q.1 rfl q.2.1) _ GD _ wR _ (bZ (i:=0) rfl) _ aJ _ y8 _ (cY (b:=2) ae) _ R.dX _ R.eA _ wR _ (bZ (i:=0) rfl) _ (kb gA.fi.c (by rcases gf aQ with rfl|rfl|rfl<;>rfl)) _ R.lF _ _ c _ GD _ wR _ (bZ (i:=0) rfl) _ aP)
    ((gA.h8 W).up bo.bU λa h=>bT h▸h0) W.pre W.len ((w.bU.ci bl).trans<|(W.bU.ci λa h=>(cR h).elim (λe=>e▸bp) λh=>bQ _<|bT h▸bp).trans<|bo.bU.ci bl) ((bo.i7 bd).trans<|ai (λl=>some<|b5.list l)<|Oh (.inr ⟨_,rfl⟩) aQ) (λi ah=>by rw[e]at ah;rw[bT ah,aD];exact h.1) o.1 o.2
  ·have aB:cr (bk<|d+7) (sY 5) H C=some (.next,H,be):=gy λnu=>nu _ y7 _ _ mq _ (cY (b:=1) ag) _ y8 _ Oj _ R.jF _ wR _ (bZ (i:=0) rfl) _ Ok _ (kz q.1 rfl q.2.1) _ GD _ wR _ (bZ (i:=0) rfl) _ aJ _ y8 _<|bN (b:=2) ae;have fin:∀{r:af},T[a1 j]? =some r->lU T N r j->bY:=λ{r} aH GH=>have o:=Og e GH<|P.ok j aQ;aq be T (rq j<|a1 j) (λB=>r) aB gA (.refl _) (cT _ _) (w.bU.ci bl) g1 (λi ah=>by rw[e]at ah;rw[bT ah,aD];exact aH) o.1 o.2;exact(pH j aQ).elim (λuR=>uR.ex.elim λps h=>h.elim λf h=>fin h.1<|.inr ⟨ps,f,rfl,h.2⟩) λh=>h.elim λi h=>fin (h.2.1▸B0 P.cX h.1)<|.inl ⟨i,h.1,rfl,h.2.2⟩
 ·exact cW<|gy λq=>q _ y7 _ _ mq _<|bN (b:=1) ag
end
end
section
noncomputable def y9:List Nat:=[1,2,4,3,5,6,7,0]
def Z3:∀w∈y9,w<8:=by decide
section
variable{T:List af}{x n m0 rr mc:Nat}{D:kG}{k:e0}{g:Nat->af}
def Z4(h:hE D b C)(aj:b<=9000)(bh:H 1=some (.L D.n))(bf:H 2=some (.L D.a))(Cb:H 10=some (J m0))(hm:m0∈jq)(aq:∀m S,m∈jq->cr (bk<|d+1) (sY 1) H C=some (.next,ar H 13<|J m,S)->hP D (b+2) C S->bY):bY:=
 lf (d:=d) (n:=4) h (a3 aj<|by decide) (by decide) λv be B a6 fS=>by
  by_cases ba:v<3
  ·exact aq m0 be hm (gy λk=>k _ bh _ bf _ _ a6 _ (lH<|cj<|hx ba) _ Cb)<|fS.ci<|j1 _
  ·exact lf (d:=d) (n:=16) fS.w (a3 (kX aj)<|by decide) (by decide) λy bF a8 bR hk=>F6 bF a8 λm wS im=>aq m bF wS (gy λk=>k _ bh _ bf _ _ a6 _ (lH<|co λq=>ba<|qJ.mp q) _ bh _ bf _ _ bR _ im)<|fS.trans hk
def Z5{w:Nat}(h:hE D b C)(Z6:H 12=some (J w))(Ol:H 13=some (J m))(hm:m∈jq)(hw:w<8)(aq:∀aV S,jL ⟨m,aV⟩->cr (bk d) (sY 2) H C=some (.next,ar H 15<|.ak<|aV.map J,S)->hP D b C S->bY):bY:=by
 by_cases t:PySem.Builtin.bitAnd (m:Int) 6144≠0
 ·exact aq [] C ⟨hm,bp,λB=>rfl⟩ (gy λk=>k _ Ol _ _ (di _ _ _) _<|kI t) h.refl
 ·exact aq (F3 w) _ ⟨hm,Nf w hw,λq=>absurd ((F4 m hm).mp q) t⟩ (gy λk=>k _ Ol _ _ (di _ _ _) _ (kJ t) _ _ (F5 (m:=3) rfl (by decide) λB=>fJ Z6) _ _<|yn ea)<|h.refl.push _
def GI{l:List (e0×Nat)}(P:hF D A a4 C T a1 N b bL e6)(R:wQ H D A a4 bL m0 dg)(hm:m0∈jq)(pH:∀j,j<3->uZ T a1 N j)(aj:b<=1000)(an:T.length<=1000)(he:C[dg]? =some (.list<|l.map qm))(hle:l.length<=10)(h0:A.cn<dg)(ed:∀e∈l,n0 T N e.1 e.2)(aq:∀e aU S a7,cG (bk<|d+7) (jO<|ik 13) (ar H 5<|J i) C=some (.next,aU,S)->wQ aU D A a4 bL m0 dg->hF D A a4 S a7 a1 N (b+5) bL e6->el T a7->a7.length<=T.length+13->S[dg]? =some (.list<|(l++[e]).map qm)->(∀e'∈l++[e],n0 a7 N e'.1 e'.2)->bY):bY:=by
 refine lf (d:=d+6) (n:=8) P.jP (a3 aj<|by decide) (by decide) λv be B a6 fS=> ?_;have Om:(i+v)%8<y9.length:=Nat.mod_lt _ (by decide);have hw:=Z3 _<|List.getElem_mem Om;have g6:cr (bk<|d+7) (sY 0) (ar H 5<|J i) C=some (.next,ar (ar H 5<|J i) 12<|J y9[(i+v)%8],be):=gy λk=>k _ rfl _ R.bh _ R.bf _ _ a6 _ _ rfl _ _ (wA (b:=8)<|by decide) _<|bZ (l:=y9.map J)<|nP<|ji Om;generalize y9[(i+v)%8]=w at hw g6;refine Z4 (d:=d+6) (H:=ar (ar H 5<|J i) 12<|J w) fS.w (a3 (kX aj)<|by decide) R.bh R.bf R.Cb hm λm bF wS gv hk=> ?_;refine Z5 (d:=d+7) (H:=ar (ar (ar H 5<|J i) 12<|J w) 13<|J m) hk.w rfl rfl wS hw λaV s3 ao hK j7=> ?_;refine lf (d:=d+6) (n:=3) j7.w (a3 (fm aj 3)<|by decide) (by decide) λmc s4 Oi eR iK=> ?_;have aB:=((fS.trans hk).trans j7).trans iK;have u1:=(P.y4 aB).ci (b':=b+5)<|j1 _;have On:=aB.f.get he<|fv λq=>P.ah h0<|q▸bp;have Z7:=(bx.push s4 [.list [J 16,J 17,J 18]] []).get On b4;have wT:=u1.push [.list [J 16,J 17,J 18]];have ra:cr (bk<|d+7) (sY 3) (ar (ar (ar (ar H 5<|J i) 12<|J w) 13<|J m) 15<|.ak<|aV.map J) s3=some (.next,ar (ar (ar (ar (ar H 5<|J i) 12<|J w) 13<|J m) 15<|.ak<|aV.map J) 16<|J mc,s4):=gy λk=>k _ R.bh _ R.bf _ _ eR;have n1:cr (bk<|d+7) (sY 4) (ar (ar (ar (ar (ar H 5<|J i) 12<|J w) 13<|J m) 15<|.ak<|aV.map J) 16<|J mc) s4=some (.next,ar (ar (ar (ar (ar (ar H 5<|J i) 12<|J w) 13<|J m) 15<|.ak<|aV.map J) 16<|J mc) 17<|.L s4.length,s4++[.list [J 16,J 17,J 18]]):=ux<|yq (b3:=J) (xs:=[16,17,18]) (g:=J) (fJ R.lF) (lO u1.made.c) (iw u1.made.c) λp B=>fJ rfl;have nQ:=fc On;have Ce:wQ (ar (ar (ar (ar (ar (ar H 5<|J i) 12<|J w) 13<|J m) 15<|.ak<|aV.map J) 16<|J mc) 17<|.L s4.length) D A a4 bL m0 dg:=⟨R.bh,R.bf,R.eA,R.dX,R.jF,R.lF,R.wa,R.y6,R.Cb,R.Cc⟩;refine Z2 (d:=d) (k:=⟨m,aV⟩) wT Ce pH ao rfl rfl rfl ea (ec h0 nQ) Oi an λpN Oo mk g Cf mw v7 Cg mR r4 es cU bl=> ?_;have wU:∀{y},A.cn<y->y∉[A.t+1,A.t+2]:=λh q=>P.ah h<|bQ _ q;refine NI (d:=d+2) (f:=mc%2) mw.au.fZ mw.cX (a3 (a3 Cg<|fm an 10)<|by decide) ao (Nat.mod_lt _<|by decide) r4 (wU<|ec h0 nQ) es cU λu Ak Op fN za gd=> ?_;have GJ:=mR.get Z7<|Ma (λq=>wU h0<|q▸bp) (λq=>wU h0<|q▸bQ _ bp)<|dV nQ;have Oq:=za.bU.get GJ<|wU h0;refine ut (v:=qm (⟨m,aV⟩,u)) Oq (dd<|lN h0) (V (c2 _)<|c1 hle<|by decide) λBH aT w=> ?_;have o4:=v7.trans za.pre;exact aq (⟨m,aV⟩,u) _ BH Op ((eB g6).trans<|(eB gv).trans<|(eB hK).trans<|(eB ra).trans<|(eB n1).trans<|(eB Cf).trans<|oV<|gy λk=>k _ R.Cc _ (lI GJ) _ rfl _ rfl _ R.dX _ rfl _ rfl _ rfl _ _ (wA (b:=2)<|by decide) _ rfl _ _ fN _ _<|lJ GJ aT)
  Ce ((mw.h8 za).up w.bU λa h=>bT h▸h0) o4 (a3 za.len<|fm Cg 3) ((w.i7 Oq).trans<|ai (λl=>some<|b5.list l) (iI (f:=qm) (l₁:=l) (l₂:=[(⟨m,aV⟩,u)])).symm)
  λe' aO=>(gc aO).elim (λaO=>(ed e' aO).pre wT.cX o4) λaO=>bT aO▸⟨ao,g,gd,cU,λj aQ=>(bl j aQ).pre mw.cX za.pre⟩
def Z8(P:hF D A a4 C T a1 N b bL e6)(bh:H 1=some (.L D.n))(bf:H 2=some (.L D.a))(eA:H 3=some (.L a4.aG))(dX:H 4=some (.L A.t))(jF:H 6=some (.L a4.gm))(lF:H 7=some (.L a4.hr))(wa:H 8=some (.L bL))(y6:H 9=some (.L A.cn))(pH:∀j,j<3->uZ T a1 N j)(aj:b<=900)(an:T.length<=900)(aq:∀cg dr aU be bF S a7 m0 dg bM aD aF,cr (bk<|d+7) (ik 11) H C=some (.next,cg,be)->cr (bk<|d+7) (ik 12) cg be=some (.next,dr,bF)->cr (bk<|d+7) (ik 13) dr bF=some (.next,aU,S)->wQ aU D A a4 bL m0 dg->hF D A a4 S a7 a1 N (b+16) bL e6->A.cn<dg->el T a7->a7.length<=T.length+39->S[dg]? =some (.list<|[bM,aD,aF].map qm)->(∀e∈[bM,aD,aF],n0 a7 N e.1 e.2)->bY):bY:=by refine lf (d:=d+6) (n:=16) P.jP (a3 aj<|by decide) (by decide) λv be aR a6 fS=>F6 be aR λm0 hm ac=> ?_;have gA:=P.y4 fS;have fg:=gA.push [.list []];have dp:A.cn<be.length:=gA.au.cn.elim λF h=>fc h.1;have R:wQ (ar (ar H 10<|J m0) 11<|.L be.length) D A a4 bL m0 be.length:=⟨bh,bf,eA,dX,jF,lF,wa,y6,rfl,rfl⟩;refine GI (d:=d) (i:=0) (l:=[]) fg R hm pH (a3 (kX aj)<|by decide) (a3 an<|by decide) ea (by decide) dp nofun λbM kg s3 wN v8 Z9 P3 hC uX cQ qj=> ?_;have Os:=λj aQ=>(pH j aQ).pre fg.cX hC;refine GI (d:=d) (i:=1) P3 Z9 hm Os (a3 (fm aj 6)<|by decide) (a3 uX<|a3 (fm an 13)<|by decide) cQ (p0 rfl) dp qj λaD BO s4 zb v9 aaa u1 lE Ch eu pi=> ?_;have Ch:=a3 Ch<|fm uX 13;refine GI (d:=d) (i:=2) u1 aaa hm (λj aQ=>(Os j aQ).pre P3.cX lE) (a3 (fm aj 11)<|by decide) (a3 Ch<|a3 (fm an 26)<|by decide) eu (p0 rfl) dp pi λaF Ot s5 GK uk Ce wT sp aab i5 aac=> ?_;exact aq _ _ Ot be _ s5 GK m0 be.length bM aD aF (gy λk=>k _ bh _ bf _ _ a6 _ ac) (gy λk=>k) (wu (n:=3) rfl (by decide)<|eT rfl v8<|eT rfl v9<|eT rfl uk rfl) Ce wT dp (hC.trans<|lE.trans sp) (a3 aab<|fm Ch 13) i5 aac
end
end
section
structure eL where
 aM:Nat
 tr:List (Nat×Nat)
 bA:List (I×I)
 dn:List I
 dl:Nat
 ns:List I
 n3:Bool
 miss:Str
structure fp where
 q:Nat
 dZ:Nat
 gI:Nat
 rule:Nat
noncomputable def fp.iz(Q:fp):List Nat:=[Q.q,Q.q+2,Q.q+3,Q.dZ,Q.q+5,Q.q+7]
noncomputable def fp.all(Q:fp):List Nat:=[Q.q,Q.q+2,Q.q+3,Q.dZ,Q.q+5,Q.q+6,Q.q+7,Q.gI,Q.rule]
noncomputable def jt(tr:List (Nat×Nat)):List (I×I):=tr.map λk=>(cc k,J 1)
structure u2(A:gO)(Q:fp)(r:eL)(v:I)(F:Nat->Option I):Prop where
 mR:F 6=some (.L<|Q.q+2)
 oU:F 7=some (J 0)
 sZ:F 15=some (J r.dl)
 rs:F 22=some (.L A.cn)
 rt:F 25=some (.L<|Q.q+3)
 s1:F 29=some (.str r.miss)
 ru:F 30=some (J r.aM)
 rv:F 37=some (.L<|Q.q+6)
 rx:F 44=some (.L<|Q.q+5)
 ry:F 46=some (.L Q.gI)
 rz:F 52=some (.bool r.n3)
 s2:F 54=some (.L Q.dZ)
 s6:F 55=some v
 m:F 5=none/\F 8=none/\F 27=none/\F 36=none/\F 47=none
structure bE(A:gO)(C:St)(Q:fp)(r:eL)(as:List (Nat×Nat))(v:I):Prop where
 ce:∀a∈Q.all,A.cn<a
 aG:Q.all.Nodup
 cells:∃R F G,u2 A Q r v R/\(F 45=some (.L<|Q.q+7)/\F 41=none/\F 13=none)/\G 21=none/\cC (λa o=>C[a]? =some o) Q.all [.cO 3 R,.dict<|jt as,.dict r.bA,.list<|r.tr.map cc,.list r.dn,.cO 0 F,.list r.ns,.dict [(.int 5,.L Q.rule)],.cO 5 G]
def cC.Ou{α β:Type}{c4 W:α->β->Prop}{xs:List α}:∀{ys:List β},cC c4 xs ys->(∀x∈xs,∀y,c4 x y->W x y)->cC W xs ys:=by
 induction xs with
 |nil=>exactλ{ys} v B=>by cases ys with
  |nil=>exact v
  |cons=>exact v.elim
 |cons x xs ay=>exactλ{ys} v h=>by cases ys with
  |nil=>exact v.elim
  |cons=>exact⟨h _ bp _ v.1,ay v.2 λy a8=>h y<|bQ _ a8⟩
def cC.rA{α β:Type}{c4 W:α->β->Prop}{b:α}{o:β}(da:W b o){xs:List α}:∀{ys:List β} {i:Nat},cC c4 xs ys->xs.Nodup->xs[i]? =some b->(∀x∈xs,x≠b->∀y,c4 x y->W x y)->cC W xs (ys.set i o):=by
 induction xs with
 |nil=>exactλB B e=>bj e
 |cons x xs ay=>exactλ{ys i} v aG e k=>by cases ys with
  |nil=>exact v.elim
  |cons y ys=>cases i with
   |zero=>obtain rfl:=br e;exact⟨da,v.2.Ou λz hz=>k z (bQ _ hz) λq=>(hI aG).1<|q▸hz⟩
   |succ i=>exact⟨k x bp (λq=>(hI aG).1<|q▸dL e) _ v.1,ay v.2 (hI aG).2 e λz hz=>k z<|bQ _ hz⟩
section
variable{Q tV:fp}{r r':eL}{Ov:List (Nat×Nat)}{kr:I}{f:Nat}{P:Prop}
def bE.eb(X:bE A C Q r as v)(k:∀R F G,u2 A Q r v R->(F 45=some (.L<|Q.q+7)/\F 41=none/\F 13=none)->G 21=none->cC (λa o=>C[a]? =some o) Q.all [.cO 3 R,.dict<|jt as,.dict r.bA,.list<|r.tr.map cc,.list r.dn,.cO 0 F,.list r.ns,.dict [(.int 5,.L Q.rule)],.cO 5 G]->P):P:=X.cells.elim λR h=>h.elim λF h=>h.elim λG h=>k R F G h.1 h.2.1 h.2.2.1 h.2.2.2
def bE.wV(X:bE A C Q r as v):C[Q.q+2]? =some (.dict<|jt as):=X.eb λB B B B B B c=>c.2.1
def bE.zc(X:bE A C Q r as v):C[Q.q+3]? =some (.dict r.bA):=X.eb λB B B B B B c=>c.2.2.1
def bE.dZ(X:bE A C Q r as v):C[Q.dZ]? =some (.list<|r.tr.map cc):=X.eb λB B B B B B c=>c.2.2.2.1
def bE.ha(X:bE A C Q r as v):C[Q.q+5]? =some (.list r.dn):=X.eb λB B B B B B c=>c.2.2.2.2.1
def bE.mx(X:bE A C Q r as v):C[Q.q+7]? =some (.list r.ns):=X.eb λB B B B B B c=>c.2.2.2.2.2.2.1
def bE.gI(X:bE A C Q r as v):C[Q.gI]? =some (.dict [(.int 5,.L Q.rule)]):=X.eb λB B B B B B c=>c.2.2.2.2.2.2.2.1
def bE.at(X:bE A C Q r as v)(hm:dD 3 f=none)(h:∀R,u2 A Q r v R->R f=some x):hd dD C f (.L Q.q)=some x:=X.eb λR B B q B B c=>kz c.1 hm<|h R q
def bE.rB(X:bE A C Q r as v):hd dD C 6 (.L Q.q)=some (.L<|Q.q+2):=X.at rfl λB h=>h.mR
def bE.aad(X:bE A C Q r as v):hd dD C 7 (.L Q.q)=some (J 0):=X.at rfl λB h=>h.oU
def bE.GL(X:bE A C Q r as v):hd dD C 15 (.L Q.q)=some (J r.dl):=X.at rfl λB h=>h.sZ
def bE.c5(X:bE A C Q r as v):hd dD C 22 (.L Q.q)=some (.L A.cn):=X.at rfl λB h=>h.rs
def bE.rC(X:bE A C Q r as v):hd dD C 25 (.L Q.q)=some (.L<|Q.q+3):=X.at rfl λB h=>h.rt
def bE.GM(X:bE A C Q r as v):hd dD C 29 (.L Q.q)=some (.str r.miss):=X.at rfl λB h=>h.s1
def bE.d7(X:bE A C Q r as v):hd dD C 30 (.L Q.q)=some (J r.aM):=X.at rfl λB h=>h.ru
def bE.qn(X:bE A C Q r as v):hd dD C 37 (.L Q.q)=some (.L<|Q.q+6):=X.at rfl λB h=>h.rv
def bE.s7(X:bE A C Q r as v):hd dD C 44 (.L Q.q)=some (.L<|Q.q+5):=X.at rfl λB h=>h.rx
def bE.GN(X:bE A C Q r as v):hd dD C 46 (.L Q.q)=some (.L Q.gI):=X.at rfl λB h=>h.ry
def bE.GO(X:bE A C Q r as v):hd dD C 52 (.L Q.q)=some (.bool r.n3):=X.at rfl λB h=>h.rz
def bE.s8(X:bE A C Q r as v):hd dD C 54 (.L Q.q)=some (.L Q.dZ):=X.at rfl λB h=>h.s2
def bE.GP(X:bE A C Q r as v):hd dD C 55 (.L Q.q)=some v:=X.at rfl λB h=>h.s6
def bE.qo(X:bE A C Q r as v):hd dD C 45 (.L<|Q.q+6)=some (.L<|Q.q+7):=X.eb λB F B B h B c=>kz c.2.2.2.2.2.1 rfl h.1
def bE.ny(X:bE A C Q r as v)(hm:dD 3 m=some f)(h:∀R,u2 A Q r v R->R m=none):kB dD C m (.L Q.q)=some (some f):=X.eb λR B B q B B c=>hN c.1 (h R q) hm
def bE.pj(X:bE A C Q r as v):kB dD C 5 (.L Q.q)=some (some 30):=X.ny rfl λB h=>h.m.1
def bE.Ow(X:bE A C Q r as v):kB dD C 8 (.L Q.q)=some (some 34):=X.ny rfl λB h=>h.m.2.1
def bE.zd(X:bE A C Q r as v):kB dD C 27 (.L Q.q)=some (some 33):=X.ny rfl λB h=>h.m.2.2.1
def bE.ze(X:bE A C Q r as v):kB dD C 36 (.L Q.q)=some (some 31):=X.ny rfl λB h=>h.m.2.2.2.1
def bE.Ox(X:bE A C Q r as v):kB dD C 47 (.L Q.q)=some (some 32):=X.ny rfl λB h=>h.m.2.2.2.2
def bE.gt(X:bE A C Q r as v)(i:Nat)(h:Q.all[i]? =some a):A.cn<a:=X.ce a<|dL h
def bE.pos(X:bE A C Q r as v)(i:Nat)(h:Q.all[i]? =some a):a≠0:=dd<|lN<|X.gt i h
def bE.lt(X:bE A C Q r as v)(h:a∈Q.all):a<C.length:=X.eb λB B B B B B c=>(c.swap.i9 a h).elim λB q=>fc q.2
def bE.keep(X:bE A C Q r as v)(f:bx C S ms)(h:∀a∈Q.all,a∉ms):bE A S Q r as v:=⟨X.ce,X.aG,X.eb λR F G Y ae ba c=>⟨R,F,G,Y,ae,ba,c.Ou λa aT B q=>f.get q<|h a aT⟩⟩
def bE.push(X:bE A C Q r as v)(g:St):bE A (C++g) Q r as v:=X.keep (bx.push C g []) λB B=>b4
def hM.rA{o':b5}(u:hM C b o S){xs:List Nat}{ys:List b5}(i:Nat)(c:cC (λa o=>C[a]? =some o) xs ys)(h:C[b]? =some o')(aG:xs.Nodup)(e:xs[i]? =some b):cC (λa o=>S[a]? =some o) xs (ys.set i o):=cC.rA (W:=λa o=>S[a]? =some o) (u.i7 h) c aG e λB B n B q=>u.get q n
def bE.Ci(X:bE A C Q r as v)(u:hM C (Q.q+2) (.dict<|jt Ov) S):bE A S Q r Ov v:=⟨X.ce,X.aG,X.eb λR F G Y ae ba c=>⟨R,F,G,Y,ae,ba,u.rA 1 c c.2.1 X.aG rfl⟩⟩
def bE.Oy(X:bE A C Q r as v)(u:hM C (Q.q+3) (.dict bA) S):bE A S Q {r with bA:=bA} as v:=⟨X.ce,X.aG,X.eb λR F G Y ae ba c=>⟨R,F,G,⟨Y.mR,Y.oU,Y.sZ,Y.rs,Y.rt,Y.s1,Y.ru,Y.rv,Y.rx,Y.ry,Y.rz,Y.s2,Y.s6,Y.m⟩,ae,ba,u.rA 2 c c.2.2.1 X.aG rfl⟩⟩
def bE.GQ(X:bE A C Q r as v){tr:List (Nat×Nat)}(u:hM C Q.dZ (.list<|tr.map cc) S):bE A S Q {r with tr:=tr} as v:=⟨X.ce,X.aG,X.eb λR F G Y ae ba c=>⟨R,F,G,⟨Y.mR,Y.oU,Y.sZ,Y.rs,Y.rt,Y.s1,Y.ru,Y.rv,Y.rx,Y.ry,Y.rz,Y.s2,Y.s6,Y.m⟩,ae,ba,u.rA 3 c c.2.2.2.1 X.aG rfl⟩⟩
def bE.aae(X:bE A C Q r as v)(u:hM C (Q.q+5) (.list dn) S):bE A S Q {r with dn:=dn} as v:=⟨X.ce,X.aG,X.eb λR F G Y ae ba c=>⟨R,F,G,⟨Y.mR,Y.oU,Y.sZ,Y.rs,Y.rt,Y.s1,Y.ru,Y.rv,Y.rx,Y.ry,Y.rz,Y.s2,Y.s6,Y.m⟩,ae,ba,u.rA 4 c c.2.2.2.2.1 X.aG rfl⟩⟩
def bE.GR(X:bE A C Q r as v){ns:List I}(u:hM C (Q.q+7) (.list ns) S):bE A S Q {r with ns:=ns} as v:=⟨X.ce,X.aG,X.eb λR F G Y ae ba c=>⟨R,F,G,⟨Y.mR,Y.oU,Y.sZ,Y.rs,Y.rt,Y.s1,Y.ru,Y.rv,Y.rx,Y.ry,Y.rz,Y.s2,Y.s6,Y.m⟩,ae,ba,u.rA 6 c c.2.2.2.2.2.2.1 X.aG rfl⟩⟩
def bE.GS(X:bE A C Q r as v)(hm:dD 3 f=none){n:Nat}{s:Str}(h:∀R,u2 A Q r v R->u2 A Q {r with dl:=n,miss:=s} kr (ar R f x))(k:∀S,jZ dD C f x (.L Q.q)=some S->bx C S [Q.q]->bE A S Q {r with dl:=n,miss:=s} as kr->P):P:=
 X.eb λR F G Y ae ba c=>have u:hM C Q.q (.cO 3<|ar R f x) (C.set Q.q<|.cO 3<|ar R f x):=rfl
  k _ (wd c.1 (X.pos 0 rfl) hm) u.bU ⟨X.ce,X.aG,_,F,G,h R Y,ae,ba,u.rA 0 c c.1 X.aG rfl⟩
def bE.Oz(X:bE A C Q r as v)(n:Nat)(k:∀S,jZ dD C 15 (J n) (.L Q.q)=some S->bx C S [Q.q]->bE A S Q {r with dl:=n} as v->P):P:=X.GS (f:=15) (x:=J n) rfl (s:=r.miss) (λR h=>⟨h.mR,h.oU,rfl,h.rs,h.rt,h.s1,h.ru,h.rv,h.rx,h.ry,h.rz,h.s2,h.s6,h.m⟩) k
def bE.aaf(X:bE A C Q r as v)(s:Str)(k:∀S,jZ dD C 29 (.str s) (.L Q.q)=some S->bx C S [Q.q]->bE A S Q {r with miss:=s} as v->P):P:=X.GS (f:=29) (x:=.str s) (kr:=v) rfl (n:=r.dl) (s:=s) (λR h=>⟨h.mR,h.oU,h.sZ,h.rs,h.rt,rfl,h.ru,h.rv,h.rx,h.ry,h.rz,h.s2,h.s6,h.m⟩) k
def bE.aag(X:bE A C Q r as v)(kr:I)(k:∀S,jZ dD C 55 kr (.L Q.q)=some S->bx C S [Q.q]->bE A S Q r as kr->P):P:=X.GS (f:=55) (x:=kr) rfl (n:=r.dl) (s:=r.miss) (λR h=>⟨h.mR,h.oU,h.sZ,h.rs,h.rt,h.s1,h.ru,h.rv,h.rx,h.ry,h.rz,h.s2,rfl,h.m⟩) k
def aah{α:Type}{a:α}{l:List α}:∀{i:Nat},l.Nodup->a∉l->(l.set i a).Nodup:=by
 induction l with
 |nil=>exactλh B=>h
 |cons x l ay=>exactλ{i} h n=>by cases i with
  |zero=>exact p8 ⟨λq=>n<|bQ _ q,(hI h).2⟩
  |succ i=>exact p8 ⟨λq=>(List.mem_or_eq_of_mem_set q).elim (hI h).1 λe=>n<|e▸bp,ay (hI h).2 λq=>n<|bQ _ q⟩
def bE.aai(X:bE A C Q r as v)(k:∀S,jZ dD (C++[.list []]) 54 (.L C.length) (.L Q.q)=some S->bx C S [Q.q]->bE A S {Q with dZ:=C.length} {r with tr:=[]} as v->P):P:=
 (X.push [.list []]).eb λR F G h ae ba c=>by
  have u:hM (C++[b5.list []]) Q.q (.cO 3<|ar R 54<|.L C.length) ((C++[b5.list []]).set Q.q<|.cO 3<|ar R 54<|.L C.length):=rfl;have bK:=u.rA 0 c c.1 X.aG rfl;have bw:∀a∈Q.all,a≠C.length:=λa h=>dV<|X.lt h;exact k _ (wd c.1 (X.pos 0 rfl) rfl) ((bx.push C _ _).trans u.bU) ⟨λa (h:a∈Q.all.set 3 C.length)=>(List.mem_or_eq_of_mem_set h).elim (X.ce a) λe=>e▸ec (X.gt 0 rfl) (X.lt bp),aah (i:=3) X.aG λq=>bw _ q rfl,
   ar R 54 (.L C.length),F,G,⟨h.mR,h.oU,h.sZ,h.rs,h.rt,h.s1,h.ru,h.rv,h.rx,h.ry,h.rz,rfl,h.s6,h.m⟩,ae,ba,bK.1,bK.2.1,bK.2.2.1,u.get ea (bw _ bp).symm,bK.2.2.2.2⟩
end
end
section
def u3{a b:Nat×Nat}(h:cc a=cc b):a=b:=h2 (I.ak.inj h) λY h=>h2 h λae B=>Prod.ext (Fi Y)<|Fi ae
section
variable{k:Nat×Nat}{tr a b:List (Nat×Nat)}
def wW:e2 (jt tr) (cc k)=true:=dJ rfl<|nv.mpr λp ab=>(e3 ab).elim λq h=>h.2▸rfl
def GU(h:k∉tr):cD (jt tr) (cc k)=none:=ai (Option.map Prod.snd) (List.find?_eq_none.mpr λx ac e=>(e3 ac).elim λq aC=>have c:cc q=x.1:=ai Prod.fst aC.2;h<|(u3 (c.trans<|dw e):q=k)▸aC.1)
def GV(h:k∈tr):cD (jt tr) (cc k)=some (J 1):=by
 delta cD;cases hf:(jt tr).find? λp=>decide (p.1=cc k)with
 |none=>exact absurd (cj rfl)<|List.find?_eq_none.mp hf _<|nS h
 |some p=>exact(e3<|List.mem_of_find?_eq_some hf).elim λq aC=>aC.2▸rfl
def OA(h:k∉tr):fB (jt tr) (cc k) (J 1)=jt (tr++[k]):=by delta fB;exact V (GU h) (iI (f:=λk=>(cc k,J 1)) (l₁:=tr) (l₂:=[k])).symm
def OB(Y:k∉a)(ae:k∉b):mG (jt (a++k::b)) (cc k)=jt (a++b):=by have e:∀{l:List (Nat×Nat)},k∉l->(jt l).filter (λp=>decide<|p.1≠cc k)=jt l:=λh=>List.filter_eq_self.mpr λp ab=>(e3 ab).elim λq aC=>cj λc=>h<|u3 ((ai Prod.fst aC.2).trans c)▸aC.1;have c:(jt (k::b)).filter (λp=>decide<|p.1≠cc k)=jt b:=(vA (p:=λp:I×I=>decide<|p.1≠cc k) λq=>dw q rfl).trans<|e ae;exact(ai (List.filter λp=>decide<|p.1≠cc k)<|iI (f:=λk=>(cc k,J 1)) (l₁:=a) (l₂:=k::b)).trans ((List.filter_append _ _).trans ((congr (ai (·++·)<|e Y) c).trans iI.symm))
noncomputable def s9(clean:Bool)(dP:List (Nat×Nat))(bA:List (I×I)):List (I×I):=if clean then dP.foldl (λbA k=>fB bA (cc k)<|.bool true) bA else bA
def ju(bA:List (I×I)):Prop:=∀p∈bA,nh p.1=2
def ju.ok(h:ju bA):e2 bA (cc k)=true:=dJ rfl<|nv.mpr λp ab=>V (h p ab) rfl
def OC{k:I}{p:I×I}(h:p∈fB bA k v):p∈bA\/p=(k,v):=by
 delta fB at h;by_cases c:(cD bA k).isSome=true
 ·rw[bg c]at h;refine(e3 h).elim λq aC=> ?_;by_cases e:q.1=k
  ·exact .inr<|bu aC.2<|(bg e).trans<|e▸rfl
  ·exact .inl<|((bI e).symm.trans aC.2)▸aC.1
 ·rw[bI c]at h;exact(gc h).imp id bT
def ju.set(h:ju bA):ju (fB bA (cc k) v):=λp ab=>(OC ab).elim (h p) λe=>e▸rfl
def aaj{k:I}:(fB bA k v).length<=bA.length+1:=by
 delta fB;by_cases c:(cD bA k).isSome=true
 ·exact V (bg c)<|a3 (cP<|c2 _)<|j1 _
 ·exact V (bI c)<|cP er
end
section
variable{Q:fp}{r:eL}{tr:List (Nat×Nat)}{w:I}{n fH du o:Nat}{D:List (I×I)}{clean:Bool}
def GW(h:C[o]? =some (.list<|l++[x]))(h0:o≠0)(k:∀S,mH o 1 [] C=some (x,S)->hM C o (.list l) S->R):R:=k _ ((W8 h h0 List.getLast?_concat).trans<|by rw[List.dropLast_concat]) rfl
def OD(h:C[o]? =some (.dict D))(h0:o≠0)(ao:e2 D x)(bB:cD D x=some w)(k:∀S,tA C x (.L o)=some S->hM C o (.dict<|mG D x) S->R):R:=k _ (Xa h h0 ao bB) rfl
def OE{c:Int}(X:bE A C Q r as v)(an:r.ns.length<16000000)(aq:∀S n,a0 a2 (d+2) 31 [.L Q.q,.int c] C=some (.none,S)->bE A S Q {r with ns:=n} as v->bx C S [Q.q+7]->(n=r.ns\/∃x,n=r.ns++[x])->R):R:=by
 cases h:r.n3 with
 |true=>exact X.eb λB F B B ir B fN=>ut (v:=.ak [.int c,J 0]) X.mx (X.pos 6 rfl) an λS aT u=>aq S _ (go λk=>k _ (dH X.GO<|ai I.bool h) _ X.qn _ (hN fN.2.2.2.2.2.1 ir.2.1 rfl) _ X.aad _ _<|go λk=>k _ X.qo _ (lI X.mx) _ _<|lJ X.mx aT) (X.GR u) u.bU<|.inr ⟨_,rfl⟩
 |false=>exact aq C r.ns (go λk=>k _<|dH X.GO<|ai I.bool h) X (.refl _ _)<|.inl rfl
def OF(X:bE A C Q r as v):a0 a2 (d+1) 33 [.L Q.q] C=some (.ak [J r.ns.length,J r.tr.length],C):=go λk=>k _ X.qn _ X.qo _ _ (oW X.mx) _ X.s8 _ _<|nL X.dZ
def OG(X:bE A C Q r as v):a0 a2 (d+1) 43 [.L Q.q] C=some (.bool<|r.n3&&decide (r.aM=1),C):=by
 have aP:=X.GO;cases h:r.n3 with
 |false=>rw[h]at aP;exact go λk=>k _ aP
 |true=>rw[h]at aP;exact go λk=>k _ aP _ X.d7 _<|o8 (b:=1)
def aak(h0:H 0=some (.L Q.q))(Y:H 1=some (.ak [J fH,J du]))(m:Nat):∀{fuel:Nat} {C:St} {tr:List (Nat×Nat)},bE A C Q {r with tr:=tr} tr v->tr.Nodup->tr.length=du+m->m<fuel->
  (∀S,kT (λH s=>jg (bk d) (.aK .gt (.cw .len<|.aZ (.E 0) 54)<|.av (.E 1)<|U 1) H s) (λH s=>cG (bk d) [.delItem (.aZ (.E 0) 6)<|.b1 (.aZ (.E 0) 54) 1 []] H s) fuel H C=some (.next,H,S)->bE A S Q {r with tr:=tr.take du} (tr.take du) v->bx C S [Q.q+2,Q.dZ]->R)->R:=by
 induction m with
 |zero=>
  intro fuel C tr X aG an hf aq;cases fuel with
  |zero=>exact absurd hf<|ua _
  |succ fuel=>rw[List.take_of_length_le (show tr.length<=du from cP an)]at aq;exact aq C (Ge<|Ff λk=>k _ h0 _ X.s8 _ _ (nL X.dZ) _ Y _ (bZ (i:=1) rfl) _<|k8<|co<|Int.not_lt.mpr<|Int.ofNat_le.mpr<|cP an) X<|.refl _ _
 |succ m ay=>
  intro fuel C tr X aG an hf aq;cases fuel with
  |zero=>exact absurd hf<|ua _
  |succ fuel=>
   rcases List.eq_nil_or_concat tr with e|⟨rD,k,e⟩
   ·subst e;exact nomatch an
   ·have e:tr=rD++[k]:=e.trans List.concat_eq_append;subst e;have Cj:k∉rD:=λq=>(kU.mp aG).2.2 k q k (pL k) rfl;have li:rD.length=du+m:=nq<|bu er an;have aP:=X.dZ.trans<|ai (λl=>some<|b5.list l)<|iI (f:=cc) (l₁:=rD) (l₂:=[k]);refine GW aP (X.pos 3 rfl) λaw ab u=> ?_;have dB:bE A aw Q {r with tr:=rD} (rD++[k]) v:=X.GQ u;refine OD dB.wV (X.pos 1 rfl) wW (GV<|i1 _<|pL k) λbn bC w=> ?_;have fo:bE A bn Q {r with tr:=rD} rD v:=dB.Ci<|eF ((OB Cj b4).trans<|ai jt<|ew rD) w;refine ay fo (aG.sublist<|List.sublist_append_left _ _) li (Nat.lt_of_succ_lt_succ hf) λS c ih f=> ?_;rw[List.take_append_of_le_length (k3<|cP li.symm)]at aq;exact aq S (Nw (Ff λk=>k _ h0 _ X.s8 _ _ (nL X.dZ) _ Y _ (bZ (i:=1) rfl) _<|k8<|cj<|hx<|an▸nz (pI m))
     (eK λk=>k _ h0 _ X.rB _ h0 _ X.s8 _ (lI X.dZ) _ _ (lJ X.dZ ab) _ bC) c) ih (((u.bU.ci λB=>bQ _).trans (w.bU.ci λB h=>bT h▸bp)).trans f)
def OH(X:bE A C Q r r.tr v)(aG:r.tr.Nodup)(h0:fH<=r.ns.length)(Y:du<=r.tr.length)(aj:r.tr.length<16000000)(aq:∀S,a0 a2 (d+1) 38 [.L Q.q,.ak [J fH,J du]] C=some (.none,S)->bE A S Q {r with tr:=r.tr.take du,ns:=r.ns.take fH} (r.tr.take du) v->bx C S [Q.q+2,Q.dZ,Q.q+7]->R):R:=by have u:hM C (Q.q+7) (.list<|r.ns.take fH) (C.set (Q.q+7)<|.list<|r.ns.take fH):=rfl;refine aak (d:=d) (fH:=fH) (du:=du) (r:={r with ns:=r.ns.take fH}) (H:=ck [.L Q.q,.ak [J fH,J du]]) rfl rfl (r.tr.length-du) (fuel:=zC) (tr:=r.tr) (X.GR u) aG (Nat.add_sub_of_le Y).symm (c1 (Nat.sub_le _ _) aj) λS c ih f=> ?_;exact aq S (go λk=>k _ X.qn _ X.qo _ (bZ (i:=0) rfl) _ (Xb X.mx (X.pos 6 rfl) h0) _ _ _ c) ih<|(u.bU.ci λB h=>bQ _<|bQ _ h).trans<|f.ci λB h=>(cR h).elim (λe=>e▸bp) λh=>bQ _<|bT h▸bp
def aal(dP:List (Nat×Nat)):∀{C:St} {bA:List (I×I)} {H:bS},bE A C Q {r with bA:=bA} dP v->dP.Nodup->ju bA->bA.length+dP.length<16000000->H 0=some (.L Q.q)->H 1=some (.bool clean)->
  (∀aU S,fX (λs=>hg s (some Q.dZ)<|r.tr.map cc) (λx H s=>(gq (.aS 2) x H).bind λcg=>cG (bk d) [.delItem (.aZ (.E 0) 6)<|.E 2,.ite (.E 1) [.setItem (.aZ (.E 0) 25) (.E 2)<|.bc<|.bool true] []] cg s) (dP.map cc) H C=some (.next,aU,S)->aU 0=some (.L Q.q)->bE A S Q {r with bA:=s9 clean dP bA} [] v->bx C S [Q.q+2,Q.q+3]->R)->R:=by
 induction dP with
 |nil=>exactλX B B B h0 B aq=>aq _ _ (wc<|iw X.dZ) h0 (by cases clean<;>exact X)<|.refl _ _
 |cons k dP ay=>
  intro C bA H X aG ao an h0 Y aq;have aG:=hI aG;refine OD X.wV (X.pos 1 rfl) wW (GV bp) λaw bC u=> ?_;have dB:bE A aw Q {r with bA:=bA} dP v:=X.Ci<|eF (OB (a:=[]) b4 aG.1:mG (jt (k::dP)) (cc k)=jt dP) u;have f1:bx C aw [Q.q+2,Q.q+3]:=u.bU.ci λB h=>bT h▸bp;have aJ:hg C (some Q.dZ) (r.tr.map cc)=true:=iw X.dZ;cases clean with
  |false=>exact ay (H:=ar H 2<|cc k) dB aG.2 ao (c1 (hB (j1 _) _) an) h0 Y λaU S c q ih f=>aq aU S (eT aJ (eK λr=>r _ h0 _ X.rB _ rfl _ bC _ Y) c) q ih<|f1.trans f
  |true=>refine oX (k:=cc k) (v:=.bool true) dB.zc (X.pos 2 rfl) ao.ok (c1 (cT _ _) an) λbn BN w=>ay (H:=ar H 2<|cc k) (bA:=fB bA (cc k)<|.bool true) (dB.Oy w) aG.2 ao.set (c1 (fm aaj _) (show bA.length+1+dP.length<16000000 by rw[i0,m9 1];exact an)) h0 Y λaU S c q ih f=> ?_;exact aq aU S (eT aJ (eK λr=>r _ h0 _ X.rB _ rfl _ bC _ Y _ h0 _ dB.rC _ rfl _ BN) c) q ih<|(f1.trans<|w.bU.ci λB=>bQ _).trans f
def aam(X:bE A C Q r r.tr v)(aG:r.tr.Nodup)(ao:ju r.bA)(an:r.bA.length+r.tr.length<16000000)(aq:∀S n,a0 a2 (d+1) 42 [.L Q.q,.bool clean] C=some (.none,S)->bE A S {Q with dZ:=n} {r with tr:=[],bA:=s9 clean r.tr r.bA} [] v->bx C S [Q.q+2,Q.q+3,Q.q]->C.length<=n->R):R:=
 aal (d:=d) (clean:=clean) (r:=r) r.tr (H:=ck [.L Q.q,.bool clean]) X aG ao an rfl rfl λaU aw c q dB f=>dB.aai λS aJ f2 fo=>aq S aw.length (p6 λk=>k _ _ _ (wj (jk λk=>k _ X.s8) (lO X.dZ) c) _ q _ aJ) fo
  ((f.ci λB h=>(cR h).elim (λe=>e▸bp) λh=>bQ _<|bT h▸bp).trans<|f2.ci λB h=>bQ _<|bQ _ h) f.len
def OI{z:I×St}(X:bE A C Q r as v)(h:a0 a2 d 96 [.L Q.rule,.L Q.q,x,y] C=some z):a0 a2 (d+1) 35 [.L Q.q,.int 5,x,y] C=some z:=X.eb λB B G B B qp c=>go λk=>k _ X.GN _ (Fg X.gI) _ _ (Fh X.gI<|Mt X.gI rfl) _ rfl _ (hN c.2.2.2.2.2.2.2.2.1 qp rfl) _ _ h
end
end
section
def Ck(dn:List I):Prop:=∀x∈dn,∃a b y,x=.ak (J a::J b::y)/\(0<a->b=15+a)
noncomputable def lV(ps:List ef)(nm:Str):Option ef:=ps.find? λp=>decide<|p.name=nm
noncomputable def wX(ps:List ef):Bool:= !ps.isEmpty&&ps.all λp=>gk p.b0
noncomputable def ta(T:List af)(s:Nat)(eS dO:List ef):Bool:=wX dO&& !rf T s&&dO.all λp=>(lV eS p.name).isNone
section
variable{Q:fp}{r:eL}{iA au n:Nat}{T:List af}{a b:af}{cE:List I}
def aan(aJ:hg C iv cE)(dn:List I):∀{H:bS} {last:Int} {count:Nat},Ck dn->H 1=some (J 0)->H 2=some (J iA)->H 4=some (.int last)->H 5=some (J count)->(0<iA->count=0\/last=(15+iA:Nat)/\count=1)->
  (∀aU OJ,fX (λs=>hg s iv cE) (λx H s=>(gq (.aS 6) x H).bind λcg=>cG (bk d) [
  .ite (.and (.aK .eq (.av (.E 6)<|.E 1)<|.E 2)<|.aK .gt (.av (.E 6)<|.b6 .add (.E 1)<|U 1)<|.E 4) [
   .assign (.aS 4) (.av (.E 6)<|.b6 .add (.E 1)<|U 1),
   .tx 5 .add (U 1)] []] cg s) dn H C=some (.next,aU,C)->aU 2=some (J iA)->aU 5=some (J OJ)->(0<iA->OJ<=1)->R)->R:=by
 induction dn with
 |nil=>exactλB B ae B dF ab aq=>aq _ _ (wc aJ) ae dF λh=>(ab h).elim (λe=>e▸jB _) λe=>cP e.2
 |cons x dn ay=>
  intro H last count aH Y ae cp dF ab aq;have mQ:=λy (h:y∈dn)=>aH y<|bQ _ h;refine(aH x bp).elim λu q=>q.elim λw q=>q.elim λy z=> ?_;obtain⟨e,aao⟩:=z;subst e;by_cases bD:u=iA
  ·by_cases aR:last<(w:Int)
   ·refine ay (H:=ar (ar (ar H 6<|.ak (J u::J w::y)) 4<|J w) 5<|J<|count+1) (last:=w) (count:=count+1) mQ Y ae rfl rfl (λh=> ?_) λaU bK e=>aq aU bK<|eT aJ (eK λk=>k _ rfl _ Y _ (bZ (i:=0) rfl) _ ae _ (cY bD) _ rfl _ Y _ _ rfl _ (bZ (i:=1) rfl) _ cp _ (k8<|cj aR) _ rfl _ Y _ _ rfl _ (bZ (i:=1) rfl) _ _ _<|cF dF rfl) e;have OK:w=15+iA:=bD▸aao (bD▸h);exact .inr ⟨ai (λn:Nat=>(n:Int)) OK,(ab h).elim (λe=>e▸rfl) λe=>absurd (e.1▸OK▸aR)<|Int.lt_irrefl _⟩
   ·exact ay (H:=ar H 6<|.ak (J u::J w::y)) mQ Y ae cp dF ab λaU bK e=>aq aU bK<|eT aJ (eK λk=>k _ rfl _ Y _ (bZ (i:=0) rfl) _ ae _ (cY bD) _ rfl _ Y _ _ rfl _ (bZ (i:=1) rfl) _ cp _<|k8<|co aR) e
  ·exact ay (H:=ar H 6<|.ak (J u::J w::y)) mQ Y ae cp dF ab λaU bK e=>aq aU bK<|eT aJ (eK λk=>k _ rfl _ Y _ (bZ (i:=0) rfl) _ ae _<|bN bD) e
def OL(X:bE A C Q r as v)(GX:dY C A T a1)(aH:Ck r.dn)(an:r.dn.length<24)(aJ:T[s]? =some a):a0 a2 (d+2) 79 [.L Q.q,J s,J t] C=some (.bool false,C):=by
 refine aan (d:=d) (iA:=mj a) (iw X.ha) r.dn (H:=ar (ar (ck [.L<|Q.q+5,J 0,J<|mj a,J s]) 4<|.int<|-1) 5<|J 0) (count:=0) aH rfl rfl rfl rfl (λB=>.inl rfl) λaU bK e ae dF ag=> ?_;have aV:a0 a2 (d+1) 78 [.L<|Q.q+5,J 0,J<|mj a,J s] C=some (.bool false,C):=by
  by_cases h:0<mj a
  ·exact p6 λk=>k _ _ _ (wj (fJ rfl) (lO X.ha) e) _ ae _ (k8<|cj<|hx h) _ dF _ (kc<|co<|pG.mpr<|hx<|c1 (ag h) (by decide:1<3))
  ·exact p6 λk=>k _ _ _ (wj (fJ rfl) (lO X.ha) e) _ ae _<|k8<|co λq=>h<|qJ.mp q
 exact go λk=>k _ X.s7 _ _ (oW X.ha) _ (kc<|co<|pG.mpr<|hx an) _ X.c5 _ GX.cy _ GX.cJ _ X.s7 _ (GX.row aJ) _ _ wv _ _ aV
def dY.n4(X:dY C A T a1):kB dD C 48 (.L A.cn)=some (some 68):=X.cn.elim λB h=>hN h.1 h.2.2.2.1 rfl
def dY.aap(X:dY C A T a1):kB dD C 20 (.L A.cn)=some (some 64):=X.cn.elim λB h=>hN h.1 h.2.2.1 rfl
def dY.same(X:dY C A T a1)(f:bx C S []):dY S A T a1:=X.keep f λB B B=>b4
def mm.GY(a9:mm T a1 s a eS)(X:dY C A T a1)(hn:e9 nm):a0 a2 (d+3) 70 [.L A.cn,J s,.str nm] C=some (yp<|lV eS nm,C):=a9.d6.elim λu h=>h.elim λf h=>XV X a9.row h.1 h.2 hn a9.names
def aaq(X:dY C A T a1)(a9:mm T a1 s a eS)(Cl:mm T a1 t b dO)(aj:b.kind=8\/b.kind=9)(aq:∀S,a0 a2 (d+4) 76 [.L A.cn,J s,J t] C=some (.bool<|ta T s eS dO,S)->bx C S []->R):R:=
 a9.d6.elim λu h=>h.elim λf h=>Cl.d6.elim λDl aO=>aO.elim λlS aO=>X1 (d:=d) X Cl.row aj aO.1 aO.2 Cl.names λaw bG bo=>by
  have dB:=X.same bo;have rU:=X2 (d:=d) dB a9.row (u:=u) (ps:=eS) (f:=f) (λao=>⟨h.1,h.2,a9.cE ao,a9.names⟩) a9.M5;have bG:a0 a2 (d+3) 75 [.L A.cn,J t] C=some (.bool<|wX dO,aw):=bG;delta ta at aq;cases hw:wX dO with
  |false=>rw[hw]at bG aq;exact aq aw (go λr=>r _ _ bG) bo
  |true=>
   rw[hw]at bG aq;cases hn:rf T s with
   |true=>rw[hn]at rU aq;exact aq aw (go λr=>r _ _ bG _ _ rU) bo
   |false=>
    rw[hn]at rU aq;have ag:=yr (b3:=cm) (C:=aw) (O:=bk<|d+3) (H:=ar (ck [.L A.cn,J s,J t]) 3 (af.obj dO lS).b3) (i:=7) (elt:=.aK .is (.a5 70 [(.E 0),(.E 1),(.av (.E 7)<|U 0)])<|.bc<|.none) (cf:=.av (.E 3)<|U 1) (xs:=dO) (g:=λp=>.bool (lV eS p.name).isNone)
     (jk λk=>k _<|bZ (i:=1) rfl) λq aC=>jk λk=>k _ (bZ (i:=0) rfl) _ _ (a9.GY (d:=d) dB<|Cl.names q aC) _ (by cases lV eS q.name<;>rfl)
    have e:(dO.map λp=>(lV eS p.name).isNone).all id=dO.all λp=>(lV eS p.name).isNone:=List.all_map;exact aq _ (go λr=>r _ _ bG _ _ rU _ dB.cy _ dB.cJ _ dB.n4 _ _ (re (d:=d+1) dB aO.1) _ (dB.row aO.2) _ _ ag _ _<|e▸FJ (ea.trans<|ai (λl=>some<|b5.list l) jC.symm))<|bo.trans<|bx.push _ _ _
def bx.rR(f:bx C aw [])(g:bx aw bn ms)(h:∀a∈ms,C.length<=a):bx C bn []:=⟨a3 f.len g.len,λa aT B=>(g.same a (c7 aT f.len) λq=>lv (h a q) aT).trans<|f.same a aT b4⟩
def aar{c:b2}{body:List dA}(h:jg O c H C=some (true,aw))(aj:cG O body H aw=some (.next,dr,bn))(ae:jg O c dr bn=some (false,cA)):cr O (.pw c body) H C=some (.next,dr,cA):=by show kT _ _ (15999998+1+1) _ _=_;exact Nw h aj<|Ge ae
def aas{c:b2}{body:List dA}(h:jg O c H C=some (true,aw))(aj:cG O body H aw=some (.ret v,dr,bn)):cr O (.pw c body) H C=some (.ret v,dr,bn):=by show kT _ _ (15999999+1) _ _=_;exact YW h aj
def aat(X:dY C A T a1)(Y:0<iA)(ba:iA<=3)(aq:∀S,a0 a2 (d+1) 72 [.L A.cn,J iA,J au] C=some (.bool<|decide<|iA=au,S)->bx C S []->R):R:=by
 have f2:=(bx.push C [.dict []] []).trans<|bx.push _ [.list [J iA]] [];have nZ:0<C.length:=ec X.eC.1<|X.jI.elim λB h=>fc h.1;have hn:(C++[b5.dict []]).length=C.length+1:=er;have rR:(C++[b5.dict []]).length≠0:=hn▸qB _;have bw:C.length≠(C++[b5.dict []]).length:=hn▸dV (oY _);have hw:(C++[b5.dict []]++[b5.list<|[]++[J iA]])[(C++[b5.dict []]).length]? =some (.list<|[]++[J iA]):=ea;have bC:(C++[b5.dict []]++[b5.list [J iA]])[C.length]? =some (.dict<|gH []):=(bx.push (C++[b5.dict []]) _ []).get ea b4;have ge:∀a∈[C.length,(C++[b5.dict []]).length],C.length<=a:=λa h=>(cR h).elim (λe=>e▸gF _) λh=>bT h▸hn▸j1 _;refine GW hw rR λcA ab u=> ?_;have hl:=u.bU.ci (ns:=[C.length,(C++[b5.dict []]).length]) λB=>bQ _;by_cases aj:iA=au
 ·rw[cj aj]at aq;exact aq cA (go λk=>k _ _ _<|aas (Bc λk=>k _<|uA hw)<|hp λk=>k _ (lI hw) _ _ (lJ hw ab) _<|cY aj)<|f2.rR hl ge
 ·rw[co aj]at aq;have OM:=u.get bC bw;have aau:=u.i7 hw;refine oX (k:=J iA) (v:=.int 1) OM (dd nZ) Fo (by decide) λfD aJ w=> ?_;have Cm:=w.get aau bw.symm;have f4:=hl.trans<|w.bU.ci (ns:=[C.length,(C++[b5.dict []]).length]) λB h=>bT h▸bp;have f6:=X.same<|f2.rR f4 ge;have ON:=(bx.push fD [b5.list []] []).get Cm b4;have x:=Mf ON rR (ea (C:=fD) (o:=.list [])) (dV<|fc Cm) (by decide);have y:hM (fD++[b5.list []]) (C++[b5.dict []]).length (.list []) ((fD++[b5.list []]).set (C++[b5.dict []]).length<|.list<|[]++[]):=rfl;have gm:∃F,fD[A.fw (iA-1)]? =some (.cO 2 F)/\F 9=some (.ak []):=(f6.kA (iA-1)<|c7 (Nat.sub_lt Y<|by decide) ba).imp λF h=>⟨h.1,h.2.2.1⟩;exact gm.elim λF h=>aq _ (go λk=>k _ _ _<|aar (Bc λk=>k _<|uA hw) (hp λk=>k _ (lI hw) _ _ (lJ hw ab) _ (bN aj) _ (kd (b:=0)<|dd Y) _ (o2<|sA OM) _ aJ _ (lI Cm) _ _ (rc (l:=[]) (iv:=none) (jk λk=>k _ f6.cy _ f6.A7 _ (f6.FD Y ba) _<|kz h.1 rfl h.2) rfl rfl) _ _<|lJ Cm x)<|Bc λk=>k _<|uA<|y.i7 ON)<|f2.rR ((f4.trans<|bx.push fD [.list []] _).trans<|y.bU.ci λB=>bQ _) ge
end
end
section
open PySem.Builtin (bitAnd bitOr)
structure Cn(p q:ef):Prop where
 aav:bitAnd (p.b0:Int) 24=bitAnd (q.b0:Int) 24
 own:p.dG=q.dG
 rh:ii p.b0=ii q.b0
 aaw:gk p.b0=gk q.b0
noncomputable def OO(i:Nat):dA:=Ib.body.getD i .fA
noncomputable def OP(i:Nat):dA:=Ic.body.getD i .fA
section
variable{Q:fp}{r:eL}{n f:Nat}{T:List af}{a b:af}{w:Bool}
def eZ:fj C (cm p) (.int 2)=some (J p.b0):=bZ (i:=2) rfl
def hC:fj C (cm p) (.int 3)=some (J p.dG):=bZ (i:=3) rfl
def nZ:fj C (cm p) (.int 0)=some (.str p.name):=bZ (i:=0) rfl
def tb(h:gk f=w):d0 C .eq (.int<|bitAnd (f:Int) 1) (.int 0)=some (!w):=gY (h▸((ai (!·) decide_not).trans<|Bool.not_not _).symm)
def aax(X:dY C A T a1)(aJ:T[s]? =some a)(aA:p.dG<=3)(bC:mj a<=3)(aq:∀b S,a0 a2 (d+2) 89 [.L A.cn,J s,cm p,cm q] C=some (.bool b,S)->bx C S []->(Cn p q->b)->R):R:=by
 by_cases Y:bitAnd (p.b0:Int) 24=bitAnd (q.b0:Int) 24/\p.dG=q.dG
 ·exact aq true C (go λk=>k _ _ rfl _ eZ _ _ (di _ _ _) _ eZ _ _ (di _ _ _) _ (gY<|cj Y.1) _ hC _ hC _<|cY Y.2) (.refl _ _) λB=>rfl
 have Co:∀{b:Bool},Cn p q->b:=λh=>absurd ⟨h.aav,h.own⟩ Y;have bF:cr (bk<|d+1) (OO 1) (ar (ck [.L A.cn,J s,cm p,cm q]) 4<|.int 24) C=some (.next,ar (ck [.L A.cn,J s,cm p,cm q]) 4<|.int 24,C):=by
  by_cases ae:bitAnd (p.b0:Int) 24=bitAnd (q.b0:Int) 24
  ·exact dk λr=>r _ eZ _ _ (di _ _ _) _ eZ _ _ (di _ _ _) _ (gY<|cj ae) _ hC _ hC _<|bN λq=>Y ⟨ae,q⟩
  ·exact dk λr=>r _ eZ _ _ (di _ _ _) _ eZ _ _ (di _ _ _) _<|gY<|co ae
 by_cases dF:bitAnd (q.b0:Int) 16=0
 ·exact aq false C (gj [false,true] λk=>k _ _ rfl _ _ _ bF _ eZ _ _ (di _ _ _) _<|gY<|cj dF) (.refl _ _) Co
 by_cases t9:bitAnd (p.b0:Int) 8≠0
 ·exact aq false C (gj [false,true] λk=>k _ _ rfl _ _ _ bF _ eZ _ _ (di _ _ _) _ (gY<|co dF) _ eZ _ _ (di _ _ _) _<|kC<|cj t9) (.refl _ _) Co
 have fin:∀u4:Nat,u4<=3->cr (bk<|d+1) (OO 3) (ar (ck [.L A.cn,J s,cm p,cm q]) 4<|.int 24) C=some (.next,ar (ar (ck [.L A.cn,J s,cm p,cm q]) 4<|.int 24) 5<|J u4,C)->R:=λu4 hle s4=>by
  by_cases h0:0<u4
  ·exact aat (d:=d) (au:=q.dG) X h0 hle λS fF hu=>aq _ S (gj [false,true,false,true] λk=>k _ _ rfl _ _ _ bF _ eZ _ _ (di _ _ _) _ (gY<|co dF) _ eZ _ _ (di _ _ _) _ (kC<|co t9) _ _ _ s4 _ (lH<|cj<|hx h0) _ X.cy _ X.A7 _ _ (oW X.sv) _ (lH<|cj<|hx<|pJ hle) _ hC _ _ fF) hu Co
  ·exact aq false C (gj [false,true,false,true] λk=>k _ _ rfl _ _ _ bF _ eZ _ _ (di _ _ _) _ (gY<|co dF) _ eZ _ _ (di _ _ _) _ (kC<|co t9) _ _ _ s4 _<|lH<|co λq=>h0<|qJ.mp q) (.refl _ _) Co
 by_cases sg:0<p.dG
 ·exact fin _ aA<|dk λr=>r _ hC _ (k8<|cj<|hx sg) _ hC
 ·exact fin _ bC<|dk λr=>r _ hC _ (k8<|co λq=>sg<|qJ.mp q) _ X.cy _ X.cJ _ (X.row aJ) _ _ wv
def aay(iB:bE A C Q r as v)(X:dY C A T a1)(aJ:T[s]? =some a)(aA:p.dG<=3)(bC:mj a<=3)(aq:∀b S,a0 a2 (d+3) 90 [.L Q.q,J s,cm p,cm q] C=some (.bool b,S)->bx C S []->(Cn p q->b)->R):R:=by
 have fin:∀{bn:St},cr (bk<|d+2) (OP 0) (ck [.L Q.q,J s,cm p,cm q]) C=some (.next,ck [.L Q.q,J s,cm p,cm q],bn)->bx C bn []->R:=λ{bn} g0 f1=>by
  have u5:=iB.keep f1 λB B=>b4;have bh:=sG (d:=d+1) (C:=bn) (p:=p);have bf:=sG (d:=d+1) (C:=bn) (p:=q);by_cases h:r.aM=4/\ii p.b0/\ii q.b0=false
  ·exact aq false bn (gj [true] λk=>k _ _ _ g0 _ u5.d7 _ (cY (b:=4) h.1) _ _ (gX bh h.2.1) _ _<|gX bf h.2.2) f1 λdp=>b8<|bu h.2.2<|bu dp.rh h.2.1
  ·have jc:cr (bk<|d+2) (OP 1) (ck [.L Q.q,J s,cm p,cm q]) bn=some (.next,ck [.L Q.q,J s,cm p,cm q],bn):=by
    by_cases cp:r.aM=4
    ·cases ab:ii p.b0 with
     |false=>exact dk λk=>k _ u5.d7 _ (cY (b:=4) cp) _ _<|gX bh ab
     |true=>cases aC:ii q.b0 with
      |false=>exact absurd ⟨cp,ab,aC⟩ h
      |true=>exact dk λk=>k _ u5.d7 _ (cY (b:=4) cp) _ _ (gX bh ab) _ _<|gX bf aC
    ·exact dk λk=>k _ u5.d7 _<|bN (b:=4) cp
   by_cases ae:r.aM=2
   ·exact aq true bn (gj [true,true] λk=>k _ _ _ g0 _ _ _ jc _ u5.d7 _<|cY (b:=2) ae) f1 λB=>rfl
   ·cases ab:gk p.b0 with
    |false=>exact aq true bn (gj [true,true] λk=>k _ _ _ g0 _ _ _ jc _ u5.d7 _ (bN (b:=2) ae) _ eZ _ _ (di _ _ _) _<|tb ab) f1 λB=>rfl
    |true=>exact aq (gk q.b0) bn (gj [true,true] λk=>k _ _ _ g0 _ _ _ jc _ u5.d7 _ (bN (b:=2) ae) _ eZ _ _ (di _ _ _) _ (tb ab) _ eZ _ _ (di _ _ _) _<|kC rfl) f1 λh=>bu h.aaw ab
 by_cases h:bitAnd (bitOr (p.b0:Int) (q.b0:Int)) 24=0
 ·exact fin (dk λr=>r _ eZ _ eZ _ _ rfl _ _ rfl _ _ (di _ _ _) _ (p7<|co λq=>q h) _<|p7<|co λq=>q h)<|.refl _ _
 ·refine aax (d:=d) (p:=p) (q:=q) X aJ aA bC λL aw gT gD jo=> ?_;cases L with
  |true=>exact fin (dk λr=>r _ eZ _ eZ _ _ rfl _ _ rfl _ _ (di _ _ _) _ (p7<|cj h) _ iB.c5 _ _ gT) gD
  |false=>exact aq false aw (go λr=>r _ eZ _ eZ _ _ rfl _ _ rfl _ _ (di _ _ _) _ (p7<|cj h) _ iB.c5 _ _ gT) gD jo
def aaz(iB:bE A C Q r as v)(X:dY C A T a1)(aJ:T[s]? =some a)(hm:e9 r.miss)(hn:e9 p.name)(an:r.ns.length<16000000)(aq:∀b S m n,a0 a2 (d+3) 88 [.L Q.q,J s,cm p] C=some (.bool b,S)->bE A S Q {r with miss:=m,ns:=n} as v->bx C S [Q.q,Q.q+7]->e9 m->(n=r.ns\/∃x,n=r.ns++[x])->(gk p.b0=false->b=false)->(r.aM=4->gk p.b0->a.d8=false->b=false)->R):R:=by
 have hf:=Bj (d:=d+1) X.fZ aJ;cases i3:gk p.b0 with
 |false=>
  have k4:=FE (C:=C) hm (show e9 (aa "")=true by decide);by_cases ae:r.miss=aa ""
  ·by_cases Y:r.dn.length=1
   ·exact iB.aaf p.name λS h f dB=>aq false S p.name r.ns (go λk=>k _ eZ _ _ (di _ _ _) _ (tb i3) _ iB.GM _ (dH k4<|cj ae) _ iB.s7 _ _ (oW iB.ha) _ (cY (b:=1) Y) _ nZ _ h) dB (f.ci λB h=>bT h▸bp) hn (.inl rfl) (λB=>rfl) λB B B=>rfl
   ·exact aq false C r.miss r.ns (go λk=>k _ eZ _ _ (di _ _ _) _ (tb i3) _ iB.GM _ (dH k4<|cj ae) _ iB.s7 _ _ (oW iB.ha) _<|bN (b:=1) Y) iB (.refl _ _) hm (.inl rfl) (λB=>rfl) λB B B=>rfl
  ·exact aq false C r.miss r.ns (go λk=>k _ eZ _ _ (di _ _ _) _ (tb i3) _ iB.GM _<|dH k4<|co ae) iB (.refl _ _) hm (.inl rfl) (λB=>rfl) λB B B=>rfl
 |true=>
  have cW:∀{b:Bool},gk p.b0=false->b=false:=λh=>b8<|bu h i3;cases wr:a.d8 with
  |true=>rw[wr]at hf;exact aq true C r.miss r.ns (go λk=>k _ eZ _ _ (di _ _ _) _ (tb i3) _ iB.c5 _ X.cy _ _ hf) iB (.refl _ _) hm (.inl rfl) cW λB B h=>b8<|bu h wr
  |false=>
   rw[wr]at hf;by_cases cp:r.aM=4
   ·exact aq false C r.miss r.ns (go λk=>k _ eZ _ _ (di _ _ _) _ (tb i3) _ iB.c5 _ X.cy _ _ hf _ iB.d7 _<|cY (b:=4) cp) iB (.refl _ _) hm (.inl rfl) cW λB B B=>rfl
   ·exact OE (d:=d) (c:=11) iB an λS n du n2 js GZ=>aq true S r.miss n (go λk=>k _ eZ _ _ (di _ _ _) _ (tb i3) _ iB.c5 _ X.cy _ _ hf _ iB.d7 _ (bN (b:=4) cp) _ iB.ze _ _ du) n2 (js.ci λB=>bQ _) hm GZ cW λh=>absurd h cp
end
end
section
noncomputable def tc:af->Option af
 |.str B cq=>some<|cu "string"
 |.num B cq=>some<|cu "number"
 |_=>none
def rE(m:Nat)(x y:af):Prop:=(x=cu "undefined"/\y=cu "void")\/tc x=some y\/(m=2/\tc y=some x)
def n5(m:Nat)(x y:af):Prop:=y=cu "any"\/(¬(x=cu "any"/\m=4)/\(y=cu "unknown"\/x=cu "any"\/(x≠cu "unknown"/\rE m x y)))
def jQ(m:Nat)(x y:af):Prop:=x=y\/n5 m x y\/(m=2/\n5 2 y x)
def G0(m:Nat)(x y:af):Prop:=(x.shaped=true/\y.shaped)\/(m=2/\(x.shaped=true\/y.shaped))
def n6(m:Nat)(x:af)(c:List af):Prop:=∃y∈c,jQ m x y
def u6(m:Nat)(x:af)(c:List af):Prop:=∀y∈c,¬jQ m x y/\¬G0 m x y
def iR(P:af->List g9)(c bK:List af):Prop:=∀x∈c,∃y∈bK,cK P [x] [y]
def iR.i9{P:af->List g9}{c:List af}(h:cK P c bK):iR P c bK:=h.eb.ml
def iR.j6{P:af->List g9}{x y:af}(h:iR P [x] [y]):cK P [x] [y]:=(h x bp).elim λB z=>bT z.1▸z.2
structure hY(P:af->List g9)(m:Nat)(c bK:List af)(b:Bool):Prop where
 iy:∀x,c=[x]->n6 m x bK->b=true
 cW:∀x,c=[x]->u6 m x bK->b=false
 kK:m≠2->iR P c bK->b=true
def u7(P:af->List g9)(m:Nat)(c bK:List af)(b:Bool):Prop:=(m=3->(b=true↔cK P c bK))/\(m≠3->hY P m c bK b)
structure hG where
 T0:List af
 a1:Nat->Nat
 A:gO
 G:bO T0
 D:F0 T0 a1
 len:T0.length+(yz T0).length<=400
noncomputable abbrev hG.P(Z:hG):af->List g9:=yF Z.T0 Z.a1
structure gB where
 C:St
 T:List af
 Q:fp
 r:eL
 eV:Option (fp×eL)
def iC(T:List af)(k:Nat×Nat):Prop:=(T[k.1]?).isSome=true/\(T[k.2]?).isSome=true
def iC.pre{T:List af}(x:el T a7){k:Nat×Nat}(h:iC T k):iC a7 k:=⟨x.some h.1,x.some h.2⟩
noncomputable def OQ(T:List af)(tr:List (Nat×Nat)):rg:=λc bK=>∃k∈tr,aE T k.1=c/\aE T k.2=bK
noncomputable def lW(Z:hG)(T:List af)(tr:List (Nat×Nat)):rg:=λc bK=>cK Z.P c bK\/OQ T tr c bK
structure gn(Z:hG)(ex:List (Nat×Nat))(z:Nat)(C:St)(T:List af)(Q:fp)(r:eL)(v:I):Prop where
 bz:bE Z.A C Q r r.tr v
 aM:r.aM=1\/r.aM=2\/r.aM=3\/r.aM=4
 aG:r.tr.Nodup
 kL:∀k∈r.tr,iC T k
 my:∀k∈r.tr,r.aM=3\/k∈ex\/hY Z.P r.aM (aE T k.1) (aE T k.2) true
 knd:(r.bA.map Prod.fst).Nodup
 bA:∀p∈r.bA,∃k b,p=(cc k,.bool b)/\iC T k/\u7 Z.P r.aM (aE T k.1) (aE T k.2) b
 td:∀k∈r.tr,cD r.bA (cc k)=none
 dn:Ck r.dn
 te:e9 r.miss=true
 jR:r.ns.length+z<=9*(r.tr.length+r.bA.length)+4000000
noncomputable def kM:Option (fp×eL)->I
 |none=>.none
 |some p=>.L p.1.q
noncomputable def zf:Option (fp×eL)->List Nat
 |none=>[]
 |some p=>p.1.iz
structure Top(r:eL):Prop where
 tr:r.tr=[]
 dl:r.dl=0
 ha:r.dn=[]
 ns:r.ns=[]
structure cb(Z:hG)(ex:List (Nat×Nat))(z:Nat)(w:gB):Prop where
 au:dY w.C Z.A w.T Z.a1
 dy:hD Z.T0 w.T
 k:gn Z ex z w.C w.T w.Q w.r (kM w.eV)
 eV:∀p,w.eV=some p->gn Z [] 0 w.C w.T p.1 p.2 .none/\p.2.aM=3/\Top p.2/\(∀a∈w.Q.all,a∉p.1.iz)/\∀a∈p.1.all,a∉w.Q.iz
noncomputable def hZ(Z:hG)(w:gB):List Nat:=(Z.A.t+1)::(Z.A.t+2)::(w.Q.iz++zf w.eV)
structure jS(Z:hG)(w az:gB):Prop where
 len:w.C.length<=az.C.length
 same:∀a,a<w.C.length->a∉hZ Z w->az.C[a]? =w.C[a]?
 own:∀x∈hZ Z az,x∈hZ Z w\/w.C.length<=x
structure cB(Z:hG)(ex:List (Nat×Nat))(z:Nat)(w az:gB):Prop where
 ok:cb Z ex z az
 pre:el w.T az.T
 bU:jS Z w az
 q:az.Q=w.Q
 same:az.r={w.r with tr:=az.r.tr,bA:=az.r.bA,ns:=az.r.ns,miss:=az.r.miss}
 ext:∃aB,az.r.tr=w.r.tr++aB/\(w.r.aM=3->∀k∈aB,jK Z.P (lW Z az.T az.r.tr) (aE az.T k.1)<|aE az.T k.2)
 rF:∃F,az.r.bA=w.r.bA++F
 u8:∃N,az.r.ns=w.r.ns++N/\(w.r.aM=3->N=[])
 pk:w.r.aM=3->az.eV=w.eV
section
variable{Z:hG}{w az Cp:gB}{n:Nat}{T:List af}{Q:fp}{r r':eL}{c:List af}
def gp(bi:hD Z.T0 T)(x:el T a7)(h:(T[t]?).isSome=true):aE a7 t=aE T t:=FO x h λp ab=>(hT h).elim λB aC=>((Z.G.h8 bi).parts aC p ab).elim λB hz=>ai Option.isSome hz.1
def jS.refl:jS Z w w:=⟨gF _,λB B B=>rfl,λB h=>.inl h⟩
def jS.trans(x:jS Z w az)(y:jS Z az Cp):jS Z w Cp:=⟨a3 x.len y.len,λa an h=>(y.same a (c7 an x.len) λq=>(x.own a q).elim h<|Nat.not_le_of_lt an).trans<|x.same a an h,λa h=>(y.own a h).elim (x.own a) λq=>.inr<|a3 x.len q⟩
def jS.i9(f:bx w.C az.C ms)(h:∀a∈ms,a∈hZ Z w)(q:az.Q=w.Q)(t:az.eV=w.eV):jS Z w az:=⟨f.len,λa an n=>f.same a an λq=>n<|h a q,λx ac=>.inl (by delta hZ at ac⊢;rw[q,t]at ac;exact ac)⟩
def jS.get(f:jS Z w az)(h:w.C[a]? =some o)(n:a∉hZ Z w):az.C[a]? =some o:=(f.same a (fc h) n).trans h
def aaA:∀a∈[Z.A.t+1,Z.A.t+2],a∈hZ Z w:=λa h=>(cR h).elim (λe=>e▸bp) λh=>bT h▸bQ _ bp
def rG:∀a∈w.Q.iz,a∈hZ Z w:=λa h=>bQ _<|bQ _<|jh _ h
def u9:∀a∈Q.iz,a∈Q.all:=λB h=>(va (.cons₂ _<|.cons₂ _<|.cons₂ _<|.cons₂ _<|.cons₂ _<|.cons _<|.cons₂ _<|.cons _<|.cons _ .slnil) h)
def gn.uW(W:gn Z ex z C T Q r v)(X:dY C Z.A T Z.a1):∀a∈Q.all,a∉[Z.A.t+1,Z.A.t+2]:=λa aT=>Ca (ec (c1 (hB (by decide) _) X.Cd)<|W.bz.ce a aT)
def gn.h8(W:gn Z ex z C T Q r v)(X:bE Z.A S Q r r.tr v)(bi:hD Z.T0 T)(x:el T a7):gn Z ex z S a7 Q r v:=⟨X,W.aM,W.aG,λk ao=>(W.kL k ao).pre x,λk ao=>V (gp bi x (W.kL k ao).1)<|V (gp bi x (W.kL k ao).2)<|W.my k ao,W.knd,λp ab=>(W.bA p ab).imp λk h=>h.imp λb h=>⟨h.1,h.2.1.pre x,V (gp bi x h.2.1.1)<|V (gp bi x h.2.1.2) h.2.2⟩,W.td,W.dn,W.te,W.jR⟩
def gn.keep(W:gn Z ex z C T Q r v)(f:bx C S ms)(h:∀a∈Q.all,a∉ms):gn Z ex z S T Q r v:={W with bz:=W.bz.keep f h}
def cB.refl(W:cb Z ex z w):cB Z ex z w w:=⟨W,.refl _,.refl,rfl,rfl,⟨[],(ew _).symm,λB=>nofun⟩,⟨[],(ew _).symm⟩,⟨[],(ew _).symm,λB=>rfl⟩,λB=>rfl⟩
def cb.h8(W:cb Z ex z w)(X:dY S Z.A a7 Z.a1)(f:bx w.C S [Z.A.t+1,Z.A.t+2])(x:el w.T a7)(bi:hD Z.T0 a7):cB Z ex z w {w with C:=S,T:=a7}:=⟨⟨X,bi,W.k.h8 (W.k.bz.keep f<|W.k.uW W.au) W.dy x,λp e=>have t:=W.eV p e;⟨t.1.h8 (t.1.bz.keep f<|t.1.uW W.au) W.dy x,t.2⟩⟩,x,.i9 f aaA rfl rfl,rfl,rfl,⟨[],(ew _).symm,λB=>nofun⟩,⟨[],(ew _).symm⟩,⟨[],(ew _).symm,λB=>rfl⟩,λB=>rfl⟩
def cb.tf(W:cb Z ex z w)(f:bx w.C S []):cB Z ex z w {w with C:=S}:=W.h8 (W.au.same f) (f.ci nofun) (.refl _) W.dy
def cb.de(W:cb Z ex z w)(f:bx w.C S ms)(h:∀a∈ms,a∈w.Q.iz)(k:gn Z eg eM S w.T w.Q r' (kM w.eV)):cb Z eg eM {w with C:=S,r:=r'}/\jS Z w {w with C:=S,r:=r'}:=⟨⟨W.au.keep f λa B l q=>lv l<|W.k.bz.ce a<|u9 a<|h a q,W.dy,k,λp e=>have t:=W.eV p e;⟨t.1.keep f λa aT q=>t.2.2.2.2 a aT<|h a q,t.2⟩⟩,.i9 f (λa q=>rG a<|h a q) rfl rfl⟩
def lW.ci{tr:List (Nat×Nat)}(bi:hD Z.T0 T)(x:el T a7)(aR:∀k∈tr,iC T k):∀c bK,lW Z T tr c bK->lW Z a7 (tr++aB) c bK:=λc bK h=>h.imp_right λh=>h.imp λk h=>⟨jh _ h.1,(gp bi x (aR k h.1).1).trans h.2.1,(gp bi x (aR k h.1).2).trans h.2.2⟩
def cB.up(W:cb Z ex z w)(O:cB Z ex eM w az):∀c bK,lW Z w.T w.r.tr c bK->lW Z az.T az.r.tr c bK:=O.ext.elim λaB e=>e.1.symm▸lW.ci W.dy O.pre W.k.kL
def cB.wY(O:cB Z ex z w az)(m:w.r.aM=3):az.r.ns=w.r.ns:=O.u8.elim λN n=>n.1.trans<|n.2 m▸ew _
def cB.trans(O:cB Z ex z w az)(bV:cB Z ex eM az Cp):cB Z ex eM w Cp:=
 have m:az.r.aM=w.r.aM:=V O.same rfl
 O.ext.elim λaB e=>bV.ext.elim λF f=>O.rF.elim λK k=>bV.rF.elim λX l=>O.u8.elim λdf n=>bV.u8.elim λN o=>
  ⟨bV.ok,O.pre.trans bV.pre,O.bU.trans bV.bU,bV.q.trans O.q,bV.same.trans<|V O.same rfl,⟨aB++F,f.1.trans ((ai (·++F) e.1).trans<|iG _ _ _),λh k ao=>(gc ao).elim (λao=>have aR:=O.ok.k.kL k<|e.1▸i1 _ ao;V (gp O.ok.dy bV.pre aR.1)<|V (gp O.ok.dy bV.pre aR.2)<|(e.2 h k ao).up<|bV.up O.ok)<|f.2 (m.trans h) k⟩,
   ⟨K++X,l.trans ((ai (·++X) k).trans (iG _ _ _))⟩,⟨df++N,o.1.trans ((ai (·++N) n.1).trans (iG _ _ _)),λh=>vb.mpr ⟨n.2 h,o.2 (m.trans h)⟩⟩,λh=>(bV.pk (m.trans h)).trans (O.pk h)⟩
end
end
variable{w az fW:gB}{Z:hG}
section
section
variable{n:Nat}{T:List af}{Q:fp}{r r':eL}{a b:af}
def G1(aG:l.Nodup)(h:∀x∈l,∃k,x=cc k/\iC T k)(eD:T.length<=400):l.length<=160000:=by
 have e:=o6 (m:=(List.range 160000).map λn=>cc (n/400,n%400)) aG λx ac=>(h x ac).elim λk ao=>by
  have lt:∀{i:Nat},(T[i]?).isSome=true->i<400:=λh=>(hT h).elim λB h=>c7 (fc h) eD;have Y:=lt ao.2.1;have ae:=lt ao.2.2;refine i2 ⟨400*k.1+k.2,pK.mpr ?_,?_⟩
  ·exact c7 (Nat.add_lt_add_left ae _)<|show 400*k.1+400<=160000 from m4 400<|Nat.succ_le_of_lt Y
  ·rw[Nat.mul_add_div (by decide),Nat.div_eq_of_lt ae,Nat.mul_add_mod,Nat.mod_eq_of_lt ae];exact ao.1.symm
 rw[c2,tY]at e;exact e
def cb.lX(W:cb Z ex z w):w.T.length<=400:=a3 W.dy.len Z.len
def cb.yD(W:cb Z ex z w):wq w.T:=(Z.G.h8 W.dy).yD (a3 W.lX<|by decide)
def cb.cX(W:cb Z ex z w):bO w.T:=Z.G.h8 W.dy
def gn.tg(W:gn Z ex z C T Q r v)(eD:T.length<=400):r.tr.length<=160000:=c2 (as:=r.tr) cc▸G1 (sU W.aG λB B B B=>u3) (λx ac=>(e3 ac).imp λk h=>⟨h.2.symm,W.kL k h.1⟩) eD
def gn.Cq(W:gn Z ex z C T Q r v)(eD:T.length<=400):r.bA.length<=160000:=c2 (as:=r.bA) Prod.fst▸G1 W.knd (λx ac=>(e3 ac).elim λp h=>(W.bA p h.1).imp λk q=>q.elim λb q=>⟨bu h.2<|ai Prod.fst q.1,q.2.1⟩) eD
def gn.G2(W:gn Z ex z C T Q r v)(eD:T.length<=400):r.ns.length<16000000:=c1 (a3 (cT _ _)<|a3 W.jR<|fm (m4 9<|lg (W.tg eD)<|W.Cq eD) _) (by decide)
def gn.wZ(W:gn Z ex z C T Q r v):ju r.bA:=λp ab=>(W.bA p ab).elim λk h=>h.elim λb h=>h.1▸rfl
def gn.gg(W:gn Z ex z C T Q r v)(h:eM<=z):gn Z ex eM C T Q r v:={W with jR:=a3 (hB h _) W.jR}
def cb.gg(W:cb Z ex z w)(h:eM<=z):cb Z ex eM w:={W with k:=W.k.gg h}
def cB.gg(O:cB Z ex z w az)(h:eM<=z):cB Z ex eM w az:={O with ok:=O.ok.gg h}
def cb.OR(W:cb Z ex z w){o:af}(aA:o∈Z.T0)(ab:p∈o.gP)(aq:∀u S a7,a0 a2 (d+5) 71 [.L Z.A.t,cm p] w.C=some (J u,S)->cB Z ex z w {w with C:=S,T:=a7}->bx w.C S [Z.A.t+1,Z.A.t+2]->aE a7 u=fK Z.T0 p->(a7[u]?).isSome=true->R):R:=
 (Z.G.yA aA ab).1.elim λi ah=>XW (d:=d) (p:=p) W.au W.yD (ai Option.isSome<|W.dy.pre.get ah) λu S Y ae ba cp=>by
  have c:=Yk Z.G W.dy aA ab cp;have x:el w.T (if gk p.b0 then hO w.T [p.dc,4]else w.T)/\hD Z.T0 (if gk p.b0 then hO w.T [p.dc,4]else w.T):=by
   cases gk p.b0 with
   |true=>exact⟨Br _ _,W.dy.wy Z.G aA ab⟩
   |false=>exact⟨.refl _,W.dy⟩
  exact aq u _ _ Y (W.h8 ae ba x.1 x.2) ba c.1 c.2
def cb.wy(W:cb Z ex z w){o:af}(aA:o∈Z.T0)(ab:p∈o.gP)(aq:∀u az,a0 a2 (d+5) 71 [.L Z.A.t,cm p] w.C=some (J u,az.C)->cB Z ex z w az->az.r=w.r->aE az.T u=fK Z.T0 p->(az.T[u]?).isSome=true->R):R:=W.OR (d:=d) aA ab λu B B h O B c s=>aq u _ h O rfl c s
def cb.OS(W:cb Z ex (z+1) w)(bl:w.r.aM≠3){n:List I}{m:Str}(X:bE Z.A S w.Q {w.r with miss:=m,ns:=n} w.r.tr (kM w.eV))(f:bx w.C S [w.Q.q,w.Q.q+7])(hm:e9 m)(h:n=w.r.ns\/∃x,n=w.r.ns++[x]):cB Z ex z w {w with C:=S,r:={w.r with miss:=m,ns:=n}}:=by have an:n.length<=w.r.ns.length+1:=h.elim (λe=>e▸j1 _) λh=>h.elim λx e=>e▸cP er;have t:=W.de (eM:=z) (r':={w.r with miss:=m,ns:=n}) f (λa q=>(cR q).elim (λe=>e▸bp) λq=>bT q▸dL (i:=5) rfl) ⟨X,W.k.aM,W.k.aG,W.k.kL,W.k.my,W.k.knd,W.k.bA,W.k.td,W.k.dn,hm,a3 (fm an z)<|a3 (cP<|by rw[i0,m9 1]) W.k.jR⟩;exact⟨t.1,.refl _,t.2,rfl,rfl,⟨[],(ew _).symm,λB=>nofun⟩,⟨[],(ew _).symm⟩,h.elim (λe=>⟨[],e.trans (ew _).symm,λB=>rfl⟩) λh=>h.imp' (λx=>[x]) λB e=>⟨e,λm=>absurd m bl⟩,λB=>rfl⟩
def cb.Cr(W:cb Z ex (z+1) w)(bl:w.r.aM≠3){c:Int}(aq:∀az,a0 a2 (d+2) 31 [.L w.Q.q,.int c] w.C=some (.none,az.C)->cB Z ex z w az/\az.r.tr=w.r.tr->R):R:=OE (d:=d) (c:=c) W.k.bz (W.k.G2 W.lX) λS n du n2 js GZ=>aq _ du ⟨W.OS bl n2 (js.ci λB=>bQ _) W.k.te GZ,rfl⟩
end
end
section
noncomputable def ne(i:Nat):dA:=zJ.body.getD i .fA
noncomputable def pl(r:eL)(q s t:Nat)(c:Bool):bS:=ar (ar (ar (ck [.L q,J s,J t]) 3<|cc (s,t)) 4<|.ak [J r.ns.length,J r.tr.length]) 5<|.bool c
def OT{o e:b2}{f:Nat}{w:I}{n m k:Int}(Y:bq O o H C=some (w,C))(ae:hd O.b1 C f w=some (.int n))(ba:bq O e H C=some (.int m,C))(cp:iF op (.int n) (.int m) C=some (.int k,C))(dF:jZ O.b1 C f (.int k) w=some S):cr O (.rK o f op e) H C=some (.next,H,S):=cF (x:=bq O o H C) Y<|cF (x:=hd O.b1 C f w) ae<|cF (x:=bq O e H C) ba<|cF (x:=iF op (.int n) (.int m) C) cp<|cF (x:=jZ O.b1 C f (.int k) w) dF rfl
section
variable{fD iN:St}{Q:fp}{r dX:eL}{v4:I}{n:Nat}
def G3(X:bE A C Q r as v)(KT:ju r.bA):d0 C .dU (.ak [J s,J t]) (.L<|Q.q+3)=some (cD r.bA<|cc (s,t)).isSome:=ek<|wh X.zc<|ju.ok (k:=(s,t)) KT
def OU(X:bE A C Q r as v):d0 C .dU (.ak [J s,J t]) (.L<|Q.q+2)=some (cD (jt as)<|cc (s,t)).isSome:=ek<|wh X.wV<|wW (k:=(s,t))
def aaB(X:bE A C Q r as v)(KT:ju r.bA)(h:cD r.bA (cc (s,t))=some x):a0 a2 (d+1) 41 [.L Q.q,J s,J t] C=some (x,C):=go λk=>k _ X.rC _ (dH (G3 X KT)<|ai Option.isSome h) _ X.rC _<|Bg X.zc (ju.ok (k:=(s,t)) KT) h
def aaC(X:bE A C Q r as v)(KT:ju r.bA)(h:cD r.bA (cc (s,t))=none)(ao:(s,t)∈as):a0 a2 (d+1) 41 [.L Q.q,J s,J t] C=some (.bool true,C):=go λk=>k _ X.rC _ (dH (G3 X KT)<|ai Option.isSome h) _ X.rB _<|dH (OU X)<|ai Option.isSome<|GV ao
def aaD(X:bE A C Q r r.tr v)(KT:ju r.bA)(h:cD r.bA (cc (s,t))=none)(ao:(s,t)∉r.tr)(bC:r.dl<60)(an:r.tr.length<16000000)(K:∀cA,bE A cA Q {r with tr:=r.tr++[(s,t)],dl:=r.dl+1} (r.tr++[(s,t)]) v->bx C cA [Q.q,Q.q+2,Q.dZ]->(∀{c:Bool} {fD:St} {dX:eL} {G4:List (Nat×Nat)} {v4:I},a0 a2 (d+1) (if r.aM=3 then 59 else 53) [.L Q.q,J s,J t] cA=some (.bool c,fD)->bE A fD Q dX G4 v4->dX.dl=r.dl+1->∀{P:Prop},(∀iN,bE A iN Q {dX with dl:=r.dl} G4 v4->bx fD iN [Q.q]->
   (∀{b:I} {aU:bS} {S:St},cG (bk (d+1)) [ne 10,ne 11] (pl r Q.q s t c) iN=some (.ret b,aU,S)->a0 a2 (d+2) 41 [.L Q.q,J s,J t] C=some (b,S))->P)->P)->R):R:=by
 refine oX (k:=cc (s,t)) (v:=J 1) X.wV (X.pos 1 rfl) (wW (k:=(s,t))) (V (c2 _) an) λaw Y fy=> ?_;have dB:bE A aw Q r (r.tr++[(s,t)]) v:=X.Ci<|eF (OA ao) fy;refine ut (v:=cc (s,t)) dB.dZ (X.pos 3 rfl) (V (c2 _) an) λbn ae e1=> ?_;have fo:bE A bn Q {r with tr:=r.tr++[(s,t)]} (r.tr++[(s,t)]) v:=dB.GQ<|eF (iI (f:=cc) (l₁:=r.tr) (l₂:=[(s,t)])).symm e1;refine fo.Oz (r.dl+1) λcA ba hl nd=>K cA nd (((fy.bU.ci λB q=>bQ _<|bT q▸bp).trans<|e1.bU.ci λB q=>bQ _<|bQ _ q).trans<|hl.ci λB q=>bT q▸bp) λ{c fD dX G4 v4} ag f6 dM {P} fin=>f6.Oz r.dl λiN dF ky jJ=>fin iN jJ ky λ{b aU S} aP=> ?_;have G5:cr (bk<|d+1) (ne 7) (ar (ar (ck [.L Q.q,J s,J t]) 3<|cc (s,t)) 4<|.ak [J r.ns.length,J r.tr.length]) bn=some (.next,ar (ar (ck [.L Q.q,J s,J t]) 3<|cc (s,t)) 4<|.ak [J r.ns.length,J r.tr.length],cA):=OT (fJ rfl) fo.GL rfl rfl ba;have aaE:cr (bk<|d+1) (ne 9) (pl r Q.q s t c) fD=some (.next,pl r Q.q s t c,iN):=OT (fJ rfl) (f6.GL.trans (dM▸rfl:_=some (J<|r.dl+1))) rfl (ai (λz=>some (I.int z,fD))<|Int.add_sub_cancel (r.dl:Int) 1) dF;have G6:cr (bk<|d+1) (ne 8) (ar (ar (ck [.L Q.q,J s,J t]) 3<|cc (s,t)) 4<|.ak [J r.ns.length,J r.tr.length]) cA=some (.next,pl r Q.q s t c,fD):=by
  by_cases bl:r.aM=3
  ·rw[bg bl]at ag;exact dk λk=>k _ nd.d7 _ (cY (b:=3) bl) _ _ ag
  ·rw[bI bl]at ag;exact dk λk=>k _ nd.d7 _ (bN (b:=3) bl) _ _ ag
 have F:cG (bk<|d+1) (zJ.body.drop 4) (ar (ck [.L Q.q,J s,J t]) 3<|cc (s,t)) C=some (.ret b,aU,S):=gu (eB<|dk λk=>k _ X.zd _ _<|OF (d:=d) X)<|gu (eB (dk λk=>k _ X.rB _ Y))<|gu (eB (dk λk=>k _ dB.s8 _ (lI dB.dZ) _ _ (lJ dB.dZ ae)))<|gu (eB G5)<|gu (eB G6)<|gu (eB aaE) aP;have G:cG (bk<|d+1) zJ.body (ck [.L Q.q,J s,J t]) C=some (.ret b,aU,S):=gu (eB<|dk λk=>k)<|gu (eB (dk λk=>k _ X.rC _ (dH (G3 X KT) (ai Option.isSome h))))<|gu (eB (dk λk=>k _ X.rB _ (dH (OU X) (ai Option.isSome (GU ao)))))<|gu (eB (dk λk=>k _ X.GL _ (kc (co (pG.mpr (hx bC)))))) F;exact(su (np:=3) rfl rfl).trans<|cF G rfl
def aaF:d0 C .eq (J a) (J b)=some (decide<|a=b):=gY<|decide_eq_decide.mpr ⟨k0,λh=>h▸rfl⟩
def aaG(hn:r.tr.length≠0):cG (bk<|d+1) [ne 10,ne 11] (pl r Q.q s t true) C=some (.ret<|.bool true,pl r Q.q s t true,C):=eK λk=>k _ rfl _ rfl _ (bZ (i:=1) rfl) _ (bN (b:=0) hn) _ rfl
def aaH(X:bE A C Q dX dX.tr v)(aG:dX.tr.Nodup)(KT:ju dX.bA)(an:dX.bA.length+dX.tr.length<16000000)(hn:r.tr.length=0)(aq:∀S n,cG (bk<|d+1) [ne 10,ne 11] (pl r Q.q s t true) C=some (.ret<|.bool true,pl r Q.q s t true,S)->bE A S {Q with dZ:=n} {dX with tr:=[],bA:=s9 (decide<|dX.ns.length=r.ns.length) dX.tr dX.bA} [] v->bx C S [Q.q+2,Q.q+3,Q.q]->C.length<=n->R):R:=aam (d:=d) (clean:=decide<|dX.ns.length=r.ns.length) X aG KT an λS n aD=>aq S n<|eK λk=>k _ rfl _ rfl _ (bZ (i:=1) rfl) _ (cY (b:=0) hn) _ rfl _ rfl _ X.qn _ X.qo _ _ (oW X.mx) _ rfl _ (bZ (i:=0) rfl) _ aaF _ _ aD _ rfl
def aaI(X:bE A C Q dX dX.tr v)(aG:dX.tr.Nodup)(KT:ju dX.bA)(an:dX.bA.length<16000000)(xB:dX.tr.length<16000000)(aaJ:r.ns.length<=dX.ns.length)(aaK:r.tr.length<=dX.tr.length)(aq:∀S,cG (bk<|d+1) [ne 10,ne 11] (pl r Q.q s t false) C=some (.ret<|.bool false,pl r Q.q s t false,S)->bE A S Q {dX with tr:=dX.tr.take r.tr.length,ns:=dX.ns.take r.ns.length,bA:=if r.tr.length=0\/dX.aM≠4 then fB dX.bA (cc (s,t)) (.bool false)else dX.bA} (dX.tr.take r.tr.length) v->bx C S [Q.q+2,Q.dZ,Q.q+7,Q.q+3]->R):R:=
 OH (d:=d) X aG aaJ aaK xB λaw aD aF cS=>by
  have f1:=cS.ci (ns:=[Q.q+2,Q.dZ,Q.q+7,Q.q+3]) λB h=>jh [Q.q+3] h;by_cases h:r.tr.length=0\/dX.aM≠4
  ·rw[bg h]at aq;exact oX (k:=cc (s,t)) (v:=.bool false) aF.zc (X.pos 2 rfl) (ju.ok (k:=(s,t)) KT) an λbn aJ u=>aq bn (by
    by_cases Y:r.tr.length=0
    ·exact eK λk=>k _ rfl _ rfl _ rfl _ _ aD _ rfl _ (bZ (i:=1) rfl) _ (cY (b:=0) Y) _ rfl _ aF.rC _ rfl _ aJ _ rfl
    ·exact eK λk=>k _ rfl _ rfl _ rfl _ _ aD _ rfl _ (bZ (i:=1) rfl) _ (bN (b:=0) Y) _ rfl _ aF.d7 _ (kd (b:=4) (h.resolve_left Y)) _ rfl _ aF.rC _ rfl _ aJ _ rfl) (aF.Oy u) (f1.trans (u.bU.ci λB q=>bT q▸i1 [Q.q+2,Q.dZ,Q.q+7] bp))
  ·rw[bI h]at aq;exact aq aw (eK λk=>k _ rfl _ rfl _ rfl _ _ aD _ rfl _ (bZ (i:=1) rfl) _ (bN (b:=0) λq=>h<|.inl q) _ rfl _ aF.d7 _ (ke (b:=4)<|Decidable.not_not.mp λq=>h<|.inr q) _ rfl) aF f1
end
end
section
section
variable{n:Nat}{T:List af}{Q:fp}{r r':eL}{k:Nat×Nat}{a b:I}{F:List (I×I)}
def OV(Y:cD bA a=none)(ae:cD F a=none):cD (bA++F) a=none:=by delta cD at Y ae⊢;rw[Option.map_eq_none_iff]at Y ae⊢;exact List.find?_append.trans (by rw[Y,ae];rfl)
def OW(h:b≠a):cD [(b,v)] a=none:=by delta cD;rw[List.find?_cons,co h];rfl
def aaL(h:cD bA a=none):fB bA a v=bA++[(a,v)]:=by delta fB;rw[h];rfl
def G7{α:Type}{l:List α}{x:α}(aG:l.Nodup)(h:x∉l):(l++[x]).Nodup:=kU.mpr ⟨aG,p8 ⟨nofun,.nil⟩,λa aT b aj e=>h<|bT aj▸e▸aT⟩
def OX(h:cD bA a=none):a∉bA.map Prod.fst:=λq=>(e3 q).elim λp ab=>of_decide_eq_false (mJ.mpr<|List.find?_eq_none.mp (Option.map_eq_none_iff.mp h) p ab.1) ab.2
def OY(h:cD bA a=some v):(a,v)∈bA:=(Option.map_eq_some_iff.mp h).elim λp ab=>have e:p.1=a:=dw<|List.find?_some (p:=λp:I×I=>decide<|p.1=a) ab.1;(Prod.ext e ab.2:p=(a,v))▸List.mem_of_find?_eq_some ab.1
def gn.get(W:gn Z ex z C T Q r v)(h:cD r.bA (cc k)=some x)(aq:∀b,x=.bool b->u7 Z.P r.aM (aE T k.1) (aE T k.2) b->R):R:=(W.bA _<|OY h).elim λcx q=>q.elim λb q=>aq b (ai Prod.snd q.1)<|(u3 (ai Prod.fst q.1):k=cx)▸q.2.2
noncomputable def eL.push(r:eL)(k:Nat×Nat):eL:={r with tr:=r.tr++[k],dl:=r.dl+1}
def gn.push(W:gn Z ex z C T Q r v)(X:bE Z.A S Q (r.push k) (r.tr++[k]) v)(aR:iC T k)(h:k∉r.tr)(ao:cD r.bA (cc k)=none)(ac:∀k∈ex,k∈eg)(aT:r.aM=3\/k∈eg\/hY Z.P r.aM (aE T k.1) (aE T k.2) true):gn Z eg (z+9) S T Q (r.push k) v:=
 have m {p:Nat×Nat->Prop} (Y:∀x∈r.tr,p x) (ae:p k):∀x∈r.tr++[k],p x:=λx ac=>(gc ac).elim (Y x) λq=>bT q▸ae
 ⟨X,W.aM,G7 W.aG h,m W.kL aR,m (λk ao=>(W.my k ao).imp_right λq=>q.imp_left<|ac k) aT,W.knd,W.bA,m W.td ao,W.dn,W.te,by
  have e:(r.push k).tr.length=r.tr.length+1:=er;rw[e,rT,Nat.mul_succ,rT,<-i0];exact fm W.jR 9⟩
structure iS(Z:hG)(ex:List (Nat×Nat))(z:Nat)(w:gB)(c bK:List af)(b:Bool)(az:gB):Prop where
 out:cB Z ex z w az
 zg:b=false->az.r.tr=w.r.tr/\az.r.ns=w.r.ns
 pos:w.r.aM=3->b->lW Z az.T az.r.tr c bK
 neg:w.r.aM=3->b=false->¬cK Z.P c bK
 iT:w.r.aM≠3->hY Z.P w.r.aM c bK b
 clean:w.r.aM≠2->iR Z.P c bK->az.r.ns=w.r.ns
structure lY(Z:hG)(ex:List (Nat×Nat))(z:Nat)(w:gB)(c bK:List af)(b:Bool)(az:gB):Prop where
 out:cB Z ex z w az
 pos:w.r.aM=3->b->jK Z.P (lW Z az.T az.r.tr) c bK
 neg:w.r.aM=3->b=false->¬cK Z.P c bK
 iT:w.r.aM≠3->hY Z.P w.r.aM c bK b
 clean:w.r.aM≠2->iR Z.P c bK->az.r.ns=w.r.ns
def u7.ask(W:cb Z ex z w){a6 bR:List af}(h:u7 Z.P w.r.aM a6 bR c):iS Z ex z w a6 bR c w:=⟨.refl W,λB=>⟨rfl,rfl⟩,λm e=>.inl<|(h.1 m).mp e,λm e a=>Bool.noConfusion<|bu e<|(h.1 m).mpr a,h.2,λB B=>rfl⟩
def Cs:∀x∈[Q.q,Q.q+2,Q.dZ],x∈Q.iz:=λx h=>(va (.cons₂ _<|.cons₂ _<|.cons _<|.cons₂ _<|List.nil_sublist _) h:x∈Q.iz)
def aaM:∀x∈[Q.q+2,Q.dZ,Q.q+7,Q.q+3],x∈Q.iz:=λx h=>(cR h).elim (λe=>e▸dL (i:=1) rfl) λh=>(cR h).elim (λe=>e▸dL (i:=3) rfl) λh=>(cR h).elim (λe=>e▸dL (i:=5) rfl) λh=>bT h▸dL (i:=2) rfl
def OZ(W:cb Z ex z w)(bC:w.r.dl<60)(aR:iC w.T (s,t))(hex:(s,t)∉ex)(ac:∀k∈ex,k∈eg)(aj:∀k∈eg,k∈ex\/k=(s,t))(aT:w.r.aM=3\/(s,t)∈eg\/hY Z.P w.r.aM (aE w.T s) (aE w.T t) true)(iD:∀cA,cb Z eg (z+9) {w with C:=cA,r:=w.r.push (s,t)}->(s,t)∉w.r.tr->cD w.r.bA (cc (s,t))=none->(∀c bH,a0 a2 (d+1) (if w.r.aM=3 then 59 else 53) [.L w.Q.q,J s,J t] cA=some (.bool c,bH.C)->lY Z eg z {w with C:=cA,r:=w.r.push (s,t)} (aE w.T s) (aE w.T t) c bH->pn c->R)->R)(tt:pn true->∀cA bH iN,jS Z w {w with C:=cA,r:=w.r.push (s,t)}->lY Z eg z {w with C:=cA,r:=w.r.push (s,t)} (aE w.T s) (aE w.T t) true bH->bE Z.A iN w.Q {bH.r with dl:=w.r.dl} bH.r.tr (kM bH.eV)->bx bH.C iN [w.Q.q]->(∀{b:I} {aU:bS} {S:St},cG (bk<|d+1) [ne 10,ne 11] (pl w.r w.Q.q s t true) iN=some (.ret b,aU,S)->a0 a2 (d+2) 41 [.L w.Q.q,J s,J t] w.C=some (b,S))->R)(aq:∀b az,a0 a2 (d+2) 41 [.L w.Q.q,J s,J t] w.C=some (.bool b,az.C)->iS Z ex z w (aE w.T s) (aE w.T t) b az->az.r.tr=w.r.tr->(w.r.bA=[]->w.r.tr=[]->pn b)->R):R:=by
 cases vc:cD w.r.bA (cc (s,t))with
 |some x=>exact W.k.get vc λb e a=>aq b w (e▸aaB W.k.bz W.k.wZ vc) (a.ask W) rfl λq=>nomatch (q▸vc:cD [] _=some x)
 |none=>
  by_cases ao:(s,t)∈w.r.tr
  ·exact aq true w (aaC W.k.bz W.k.wZ vc ao) ⟨.refl W,nofun,λB B=>.inr ⟨_,ao,rfl,rfl⟩,λB=>nofun,λm=>((W.k.my _ ao).resolve_left m).resolve_left hex,λB B=>rfl⟩ rfl λB q=>nomatch (q▸ao:(s,t)∈[])
  ·refine aaD (d:=d) W.k.bz W.k.wZ vc ao bC (c1 (W.k.tg W.lX)<|by decide) λcA nd hl fin=> ?_;have O0:cb Z eg z w:={W with k:={W.k with my:=λk ao=>(W.k.my k ao).imp_right λq=>q.imp_left<|ac k}};have hK:=O0.de (eM:=z+9) (r':=w.r.push (s,t)) hl Cs<|O0.k.push nd aR ao vc (λB h=>h) aT;refine iD cA hK.1 ao vc λc bH ag a9 ab=> ?_;have O:=a9.out;have em:bH.r.aM=w.r.aM:=V O.same rfl;have eq:bH.Q=w.Q:=O.q;have iE:gn Z eg z bH.C bH.T w.Q bH.r (kM bH.eV):=eq▸O.ok.k;have a6:aE bH.T s=aE w.T s:=gp W.dy O.pre aR.1;have bR:aE bH.T t=aE w.T t:=gp W.dy O.pre aR.2;refine O.ext.elim λaB e=>O.rF.elim λF w0=>O.u8.elim λN fC=> ?_;have bM:bH.r.tr=w.r.tr++([(s,t)]++aB):=e.1.trans<|iG _ _ _;have w0:bH.r.bA=w.r.bA++F:=w0;have fC:bH.r.ns=w.r.ns++N:=fC.1;refine fin ag iE.bz (V O.same rfl) λiN jJ ky fin=> ?_;cases c with
   |true=>exact tt ab cA bH iN hK.2 a9 jJ ky fin
   |false=>
    refine aaI (d:=d) (r:=w.r) (s:=s) (t:=t) jJ O.ok.k.aG O.ok.k.wZ (c1 (iE.Cq O.ok.lX)<|by decide) (c1 (iE.tg O.ok.lX)<|by decide) (V fC<|V er<|cT _ _) (V bM<|V er<|cT _ _) λsF g1 bd cQ=> ?_;have O1:cD bH.r.bA (cc (s,t))=none:=O.ok.k.td (s,t)<|bM▸i1 _ bp;have key:∃G,(if w.r.tr.length=0\/bH.r.aM≠4 then fB bH.r.bA (cc (s,t)) (.bool false)else bH.r.bA)=bH.r.bA++G/\(G=[]\/G=[(cc (s,t),.bool false)]):=by
     by_cases h:w.r.tr.length=0\/bH.r.aM≠4
     ·exact⟨_,(bg h).trans<|aaL O1,.inr rfl⟩
     ·exact⟨[],(bI h).trans (ew _).symm,.inl rfl⟩
    refine key.elim λG qp=> ?_;have bd:bE Z.A sF w.Q {bH.r with dl:=w.r.dl,tr:=w.r.tr,ns:=w.r.ns,bA:=bH.r.bA++G} w.r.tr (kM bH.eV):=eF (bM▸List.take_left:bH.r.tr.take w.r.tr.length=w.r.tr)<|eF (fC▸List.take_left:bH.r.ns.take w.r.ns.length=w.r.ns)<|eF qp.1 bd;have aaN:gn Z ex z sF bH.T w.Q {bH.r with dl:=w.r.dl,tr:=w.r.tr,ns:=w.r.ns,bA:=bH.r.bA++G} (kM bH.eV):=⟨bd,iE.aM,W.k.aG,λk ao=>(W.k.kL k ao).pre O.pre,λk ao=>V em<|V (gp W.dy O.pre (W.k.kL k ao).1)<|V (gp W.dy O.pre (W.k.kL k ao).2)<|W.k.my k ao,
     qp.2.elim (λe=>e▸(ew bH.r.bA).symm▸iE.knd) λe=>e▸(iI (f:=Prod.fst) (l₁:=bH.r.bA) (l₂:=[(cc (s,t),I.bool false)])).symm▸G7 iE.knd (OX O1),
     λp ab=>(gc ab).elim (iE.bA p) λq=>⟨(s,t),false,qp.2.elim (λe=>nomatch (e▸q:p∈[])) λe=>bT<|e▸q,aR.pre O.pre,V em<|V (a6:aE bH.T (s,t).1=_)<|V (bR:aE bH.T (s,t).2=_) ⟨λm=>⟨nofun,λa=>absurd a<|a9.neg m rfl⟩,a9.iT⟩⟩,
     λk i4=>OV (iE.td k<|bM▸jh _ i4)<|qp.2.elim (λe=>e▸rfl) λe=>e▸OW λe=>ao<|(u3 e:(s,t)=k)▸i4,iE.dn,iE.te,
     a3 W.k.jR (fm (m4 9 (hB (a3 (a3 (cT _ F.length) (cP (bu er (ai List.length w0.symm)))) (a3 (cT _ G.length) (cP er.symm))) _)) _)⟩
    have n1:=O.ok.de (eM:=z) (r':={bH.r with dl:=w.r.dl,tr:=w.r.tr,ns:=w.r.ns,bA:=bH.r.bA++G}) (ms:=w.Q.iz) ((ky.ci λa h=>Cs a<|(va<|.cons₂ _<|List.nil_sublist _) h).trans<|cQ.ci aaM) (λa h=>eq▸h)<|eq▸aaN;exact aq false {bH with C:=sF,r:={bH.r with dl:=w.r.dl,tr:=w.r.tr,ns:=w.r.ns,bA:=bH.r.bA++G}} (fin g1) ⟨⟨n1.1,O.pre,hK.2.trans<|O.bU.trans n1.2,eq,V O.same rfl,⟨[],(ew _).symm,λB=>nofun⟩,⟨F++G,(ai (·++G) w0).trans<|iG _ _ _⟩,⟨[],(ew _).symm,λB=>rfl⟩,O.pk⟩,λB=>⟨rfl,rfl⟩,λB=>nofun,a9.neg,a9.iT,λB B=>rfl⟩ rfl λB B=>ab
def aaO(W:cb Z ex z w)(bw:w.r.tr≠[])(bC:w.r.dl<60)(aR:iC w.T (s,t))(hex:(s,t)∉ex)(ac:∀k∈ex,k∈eg)(aj:∀k∈eg,k∈ex\/k=(s,t))(aT:w.r.aM=3\/(s,t)∈eg\/hY Z.P w.r.aM (aE w.T s) (aE w.T t) true)(iD:∀cA,cb Z eg (z+9) {w with C:=cA,r:=w.r.push (s,t)}->(s,t)∉w.r.tr->cD w.r.bA (cc (s,t))=none->(∀c bH,a0 a2 (d+1) (if w.r.aM=3 then 59 else 53) [.L w.Q.q,J s,J t] cA=some (.bool c,bH.C)->lY Z eg z {w with C:=cA,r:=w.r.push (s,t)} (aE w.T s) (aE w.T t) c bH->R)->R)(aq:∀b az,a0 a2 (d+2) 41 [.L w.Q.q,J s,J t] w.C=some (.bool b,az.C)->iS Z ex z w (aE w.T s) (aE w.T t) b az->R):R:=by refine OZ (pn:=λB=>True) W bC aR hex ac aj aT (λcA hX a b k=>iD cA hX a b λc bH h a9=>k c bH h a9 trivial) (λB cA bH iN jo a9 jJ ky fin=> ?_) λb az h a B B=>aq b az h a;have O:=a9.out;have em:bH.r.aM=w.r.aM:=V O.same rfl;have eq:bH.Q=w.Q:=O.q;have a6:aE bH.T s=aE w.T s:=gp W.dy O.pre aR.1;have bR:aE bH.T t=aE w.T t:=gp W.dy O.pre aR.2;refine O.ext.elim λaB e=> ?_;have bM:bH.r.tr=w.r.tr++([(s,t)]++aB):=e.1.trans<|iG _ _ _;have O2:∀k∈bH.r.tr,bH.r.aM=3\/k∈ex\/hY Z.P bH.r.aM (aE bH.T k.1) (aE bH.T k.2) true:=λk ao=>(O.ok.k.my k ao).elim .inl λq=>q.elim (λq=>(aj k q).elim (λq=>.inr<|.inl q) λh=>h▸(Decidable.em<|bH.r.aM=3).imp_right λn=>.inr<|V em<|V (a6:aE bH.T (s,t).1=_)<|V (bR:aE bH.T (s,t).2=_)<|a9.iT λq=>n<|em.trans q) λq=>.inr<|.inr q;have n1:=({O.ok with k:={O.ok.k with my:=O2}}:cb Z ex z bH).de (eM:=z) (r':={bH.r with dl:=w.r.dl}) (ms:=[w.Q.q]) ky (λa h=>eq▸Cs a ((va<|.cons₂ _<|List.nil_sublist _) h)) {O.ok.k with my:=O2,bz:=eq▸jJ};exact aq true {bH with C:=iN,r:={bH.r with dl:=w.r.dl}} (fin<|aaG λq=>bw<|yL.mp q) ⟨⟨n1.1,O.pre,jo.trans<|O.bU.trans n1.2,eq,V O.same rfl,⟨[(s,t)]++aB,bM,λm k ao=>(gc ao).elim (λq=>bT q▸V (a6:aE bH.T (s,t).1=_) (V (bR:aE bH.T (s,t).2=_)<|a9.pos m rfl))<|e.2 m k⟩,O.rF,O.u8,O.pk⟩,nofun,λm B=>.inr ⟨(s,t),bM▸i1 _ bp,a6,bR⟩,λB=>nofun,a9.iT,a9.clean⟩
end
end
variable{r':eL}
section
section
variable{n:Nat}{T:List af}{Q:fp}{r:eL}{k:Nat×Nat}{F:List (I×I)}
def O3(h:a∈({Q with dZ:=n}:fp).all):a=n\/a∈Q.all:=have h:a∈Q.all.take 3++n::Q.all.drop 4:=h;(gc h).elim (λh=>.inr<|List.mem_of_mem_take h) λh=>(cR h).imp_right List.mem_of_mem_drop
def O4(h:a∈({Q with dZ:=n}:fp).iz):a=n\/a∈Q.iz:=have h:a∈Q.iz.take 3++n::Q.iz.drop 4:=h;(gc h).elim (λh=>.inr<|List.mem_of_mem_take h) λh=>(cR h).imp_right List.mem_of_mem_drop
def G8:∀x∈[Q.q+2,Q.q+3,Q.q],x∈Q.iz:=λx h=>(cR h).elim (λe=>e▸dL (i:=1) rfl) λh=>(cR h).elim (λe=>e▸dL (i:=2) rfl) λh=>bT h▸bp
def cb.tJ(W:cb Z ex z w)(f:bx w.C S [w.Q.q+2,w.Q.q+3,w.Q.q])(hn:w.C.length<=n)(k:gn Z eg eM S w.T {w.Q with dZ:=n} r' (kM w.eV)):cb Z eg eM {w with C:=S,Q:={w.Q with dZ:=n},r:=r'}/\jS Z w {w with C:=S,Q:={w.Q with dZ:=n},r:=r'}:=
 ⟨⟨W.au.keep f λa B l q=>lv l<|W.k.bz.ce a<|u9 a<|G8 a q,W.dy,k,λp e=>have t:=W.eV p e;⟨t.1.keep f λa aT q=>t.2.2.2.2 a aT<|G8 a q,t.2.1,t.2.2.1,
   λa aT q=>(O3 aT).elim (λe=>lv (e▸hn) (t.1.bz.lt (u9 a q))) λh=>t.2.2.2.1 a h q,λa aT q=>(O4 q).elim (λe=>lv (e▸hn) (t.1.bz.lt aT)) (t.2.2.2.2 a aT)⟩⟩,
  ⟨f.len,λa an h=>f.same a an λq=>h (rG a (G8 a q)),λx ac=>(cR ac).elim (λe=>.inl (e▸bp)) λac=>(cR ac).elim (λe=>.inl (e▸bQ _ bp)) λac=>(gc ac).elim (λh=>(O4 h).elim (λe=>.inr (e▸hn)) λh=>.inl (rG x h)) λh=>.inl (bQ _ (bQ _ (i1 _ h)))⟩⟩
def aaP{a:I}(aG:(bA.map Prod.fst).Nodup):((fB bA a v).map Prod.fst).Nodup:=by
 delta fB;by_cases h:(cD bA a).isSome=true
 ·rw[bg h,jC];exact(ai (λf=>(bA.map f).Nodup) (funext λp=>by
   by_cases e:p.1=a
   ·exact(ai Prod.fst (bg e:(if p.1=a then(p.1,v)else p)=(p.1,v))).trans rfl
   ·exact ai Prod.fst (bI e:(if p.1=a then(p.1,v)else p)=p):(Prod.fst∘λp:I×I=>if p.1=a then(p.1,v)else p)=Prod.fst)).mpr aG
 ·rw[bI h,iI];exact G7 aG<|OX<|Option.not_isSome_iff_eq_none.mp h
def aaQ{a:I}:bA.length<=(fB bA a v).length:=by
 delta fB;by_cases h:(cD bA a).isSome=true
 ·rw[bg h,c2];exact gF _
 ·rw[bI h,er];exact cT _ _
def aaR{P:I×I->Prop}(vF:∀k∈dP,P (cc k,.bool true)):∀{bA:List (I×I)},(bA.map Prod.fst).Nodup->(∀p∈bA,P p)->((s9 c dP bA).map Prod.fst).Nodup/\(∀p∈s9 c dP bA,P p)/\bA.length<=(s9 c dP bA).length:=by
 cases c with
 |false=>exactλaG h=>⟨aG,h,gF _⟩
 |true=>
  induction dP with
  |nil=>exactλaG h=>⟨aG,h,gF _⟩
  |cons k dP ay=>exactλaG h=>have i:=ay (λx ac=>vF x<|bQ _ ac) (aaP aG)<|λp ab=>(OC ab).elim (h p) λe=>e▸vF k bp;⟨i.1,i.2.1,a3 aaQ i.2.2⟩
structure w1(Z:hG)(w:gB)(c bK:List af)(b:Bool)(az:gB):Prop where
 ok:cb Z [] 0 az
 pre:el w.T az.T
 bU:jS Z w az
 aM:az.r.aM=w.r.aM
 sE:az.Q={w.Q with dZ:=az.Q.dZ}
 pk:w.r.aM=3->az.eV=w.eV
 w2:u7 Z.P w.r.aM c bK b
 top:w.r.aM=3\/(w.r.aM≠2/\iR Z.P c bK)->Top az.r
def iS.top{a6 bR:List af}{b:Bool}(a:iS Z [] z w a6 bR b az)(gh:Top w.r)(e:az.r.tr=w.r.tr):w1 Z w a6 bR b az:=
 ⟨a.out.ok.gg<|jB _,a.out.pre,a.out.bU,V a.out.same rfl,V a.out.q rfl,a.out.pk,⟨λm=>⟨λh=>(a.pos m h).elim id λq=>q.elim λk q=>(nomatch (e.trans gh.tr▸q.1:k∈[])),λh=>by
  cases b with
  |true=>rfl
  |false=>exact absurd h (a.neg m rfl)⟩,a.iT⟩,λh=>⟨e.trans gh.tr,(ai eL.dl a.out.same).trans gh.dl,(ai eL.dn a.out.same).trans gh.ha,(h.elim a.out.wY λh=>a.clean h.1 h.2).trans gh.ns⟩⟩
def cb.cE(W:cb Z ex z w)(gh:Top w.r):cb Z ex 4000000 w:={W with k:={W.k with jR:=V (ai List.length gh.ns)<|a3 (cP<|ow _)<|Nat.le_add_left _ _}}
def aaS(W:cb Z [] 4000000 w)(gh:Top w.r)(aR:iC w.T (s,t))(aj:∀k∈eg,k=(s,t))(aT:w.r.aM=3\/(s,t)∈eg\/hY Z.P w.r.aM (aE w.T s) (aE w.T t) true)(iD:∀cA,cb Z eg (4000000+9) {w with C:=cA,r:=w.r.push (s,t)}->(s,t)∉w.r.tr->cD w.r.bA (cc (s,t))=none->(∀c bH,a0 a2 (d+1) (if w.r.aM=3 then 59 else 53) [.L w.Q.q,J s,J t] cA=some (.bool c,bH.C)->lY Z eg 4000000 {w with C:=cA,r:=w.r.push (s,t)} (aE w.T s) (aE w.T t) c bH->pn c->R)->R)(aq:∀b az,a0 a2 (d+2) 41 [.L w.Q.q,J s,J t] w.C=some (.bool b,az.C)->w1 Z w (aE w.T s) (aE w.T t) b az->(w.r.bA=[]->pn b)->R):R:=by
 refine OZ W (V gh.dl<|by decide) aR fO (λB=>fO) (λk h=>.inr<|aj k h) aT iD (λab cA bH iN jo a9 jJ ky fin=> ?_) λb az h a e ab=>aq b az h (a.top gh e) λq=>ab q gh.tr;have O:=a9.out;have em:bH.r.aM=w.r.aM:=V O.same rfl;have eq:bH.Q=w.Q:=O.q;have a6:aE bH.T s=aE w.T s:=gp W.dy O.pre aR.1;have bR:aE bH.T t=aE w.T t:=gp W.dy O.pre aR.2;have iE:gn Z eg 4000000 bH.C bH.T w.Q bH.r (kM bH.eV):=eq▸O.ok.k;have dW:=iE.tg O.ok.lX;refine O.ext.elim λaB e=> ?_;have bM:bH.r.tr=(s,t)::aB:=e.1.trans<|ai (λl=>(l++[(s,t)])++aB) gh.tr;have al:w.r.aM=3->∀k∈bH.r.tr,cK Z.P (aE bH.T k.1) (aE bH.T k.2):=λm k ao=>cK.yy (K:=OQ bH.T bH.r.tr) (λa b h=>h.elim λcx h=>.inr<|eF h.2.1<|eF h.2.2<|(cR (bM▸h.1:cx∈(s,t)::aB)).elim (λq=>q▸V (a6:aE bH.T (s,t).1=_) (V (bR:aE bH.T (s,t).2=_)<|a9.pos m rfl))<|e.2 m cx) ⟨k,ao,rfl,rfl⟩;have yg:∀k∈bH.r.tr,u7 Z.P bH.r.aM (aE bH.T k.1) (aE bH.T k.2) true:=λk ao=>⟨λm=>⟨λB=>al (bu em m) k ao,λB=>rfl⟩,λm=>((iE.my k ao).resolve_left m).elim (λq=>aj k q▸V em (V (a6:aE bH.T (s,t).1=_)<|V (bR:aE bH.T (s,t).2=_)<|a9.iT λq=>m<|em.trans q)) id⟩;have n1:=O.ok.de (eM:=4000000) (r':={bH.r with dl:=w.r.dl}) (ms:=[w.Q.q]) ky (λa h=>eq▸Cs a ((va<|.cons₂ _<|List.nil_sublist _) h)) {O.ok.k with bz:=eq▸jJ};refine aaH (d:=d) (r:=w.r) (s:=s) (t:=t) jJ iE.aG iE.wZ (c1 (lg (iE.Cq O.ok.lX) dW)<|by decide) (ai List.length gh.tr) λsF n g1 bd cQ eu=> ?_;have G9:=aaR (c:=decide<|bH.r.ns.length=w.r.ns.length) (P:=λp=>∃k b,p=(cc k,.bool b)/\iC bH.T k/\u7 Z.P bH.r.aM (aE bH.T k.1) (aE bH.T k.2) b) (λk ao=>⟨k,true,rfl,iE.kL k ao,yg k ao⟩) iE.knd iE.bA;have AY:gn Z [] 0 sF bH.T {w.Q with dZ:=n} {bH.r with dl:=w.r.dl,tr:=[],bA:=s9 (decide<|bH.r.ns.length=w.r.ns.length) bH.r.tr bH.r.bA} (kM bH.eV):=⟨bd,iE.aM,.nil,λB=>fO,λB=>fO,G9.1,G9.2.1,λB=>fO,iE.dn,iE.te,
  a3 (Nat.le_of_add_le_add_right iE.jR) (V (ow _) (V (Nat.mul_add 9 _ _) (a3 (lg (a3 (m4 9 dW) (by decide:9*160000<=4000000)) (m4 9 G9.2.2)) (cP (m9 _ _)))))⟩
 have Cf:=n1.1.tJ (n:=n) (eq▸cQ) eu<|eq▸AY;exact aq true {bH with C:=sF,Q:={bH.Q with dZ:=n},r:={bH.r with dl:=w.r.dl,tr:=[],bA:=s9 (decide<|bH.r.ns.length=w.r.ns.length) bH.r.tr bH.r.bA}} (fin g1) ⟨Cf.1,O.pre,jo.trans<|O.bU.trans<|n1.2.trans Cf.2,em,V eq rfl,O.pk,⟨λm=>⟨λB=>V a6.symm<|V bR.symm<|al m (s,t)<|bM▸bp,λB=>rfl⟩,a9.iT⟩,λh=>⟨rfl,gh.dl,(ai eL.dn O.same).trans gh.ha,(h.elim O.wY λh=>a9.clean h.1 h.2).trans gh.ns⟩⟩ λB=>ab
end
end
section
def n7(c:List af):Prop:=∀x∈c,(x.val=true/\x≠cu "error"/\x≠cu "object")\/∃d,x=.ref d
noncomputable def w3:List (Nat×Nat):=[(16,16),(16,17),(16,18),(17,16),(17,17),(17,18),(18,16),(18,17),(18,18)]
noncomputable def qq(tr:List (Nat×Nat)):Nat:=(w3.filter λk=>decide<|k∉tr).length
structure rH(n:Nat)(r:eL):Prop where
 bw:r.tr≠[]
 mz:qq r.tr<=n
 dl:r.dl+3*n+4<=60
 ha:r.dn.length+n+2<=24
def th(i:Bool)(d n:Nat)(Z:hG):Prop:=∀w z u v,decide (w.r.aM=3)=i->cb Z [] (z+1) w->rH n w.r->iC w.T (u,v)->n7 (aE w.T u)->n7 (aE w.T v)->∃b az,a0 a2 d 40 [.L w.Q.q,J u,J v] w.C=some (.bool b,az.C)/\iS Z [] z w (aE w.T u) (aE w.T v) b az
section
variable{n:Nat}{tr:List (Nat×Nat)}
def Ha:qq (tr++aB)<=qq tr:=a3 (cP w4.symm)<|a3 (List.countP_mono_left (l:=w3) (p:=λk=>decide<|k∉tr++aB) (q:=λk=>decide<|k∉tr) λk B h=>cj λq=>dw h<|jh _ q)<|cP w4
def cB.lim(O:cB Z ex z w az)(X:rH n w.r):rH n az.r:=O.ext.elim λaB e=>⟨λq=>X.bw (vb.mp<|bu e.1 q).1,e.1▸a3 Ha X.mz,V (ai eL.dl O.same) X.dl,V (ai eL.dn O.same) X.ha⟩
def cB.jR(W:cb Z ex eM w)(O:cB Z ex z w az)(m:w.r.aM=3):cB Z ex eM w az:={O with ok:={O.ok with k:={O.ok.k with jR:=V (O.wY m)<|a3 W.k.jR<|fm (m4 9<|lg (O.ext.elim λaB e=>a3 (cT _ aB.length)<|cP<|bu er<|ai List.length e.1.symm)<|O.rF.elim λF e=>a3 (cT _ F.length)<|cP<|bu er<|ai List.length e.symm) _}}}
end
end
section
def zh{a b:Str}{t:Bool}(aT:e9 a)(aj:e9 b)(h:decide (a≠b)=t):d0 C .bw (.str a) (.str b)=some t:=(ai (Option.map λx=> !x)<|FE (C:=C) aT aj).trans<|ai some<|bu decide_not h
def n7.i9{T:List af}(G:bO T){l:List Nat}(h:∀p∈l,p≠13/\p≠10/\∃r,T[p]? =some r/\(r.val=true\/∃d,r=.ref d)):n7 (lc T l):=λx ac=>(e3 ac).elim λp ab=>have q:=h p ab.1;q.2.2.elim λr aH=>by
 rw[<-ab.2,aH.1];show(((ct r).val=true/\ct r≠cu "error"/\ct r≠cu "object")\/∃d,ct r=.ref d);exact aH.2.elim (λaR=>.inl ⟨by
  delta af.val at aR⊢;exact V wz aR,λe=>q.1 (nN G.aG ((yT e rfl)▸aH.1) (G.at (i:=13) rfl)),λe=>q.2.1 (nN G.aG ((yT e rfl)▸aH.1) (G.at (i:=10) rfl))⟩) λbC=>bC.elim λd e=>.inr ⟨d,V e rfl⟩
def Ct(G:bO T0){o:af}(aA:o∈T0)(ab:p∈o.gP):n7 (fK T0 p):=by
 have bi:=G.yA aA ab;have h:∀x∈dT T0 p.dc,x≠13/\x≠10/\∃r,T0[x]? =some r/\(r.val=true\/∃d,r=.ref d):=λx ac=>bi.1.elim λr aH=>by
  have mZ:=bi.2.2.2.2 x ac;by_cases ao:r.kind=6
  ·cases r with
   |dI ps=>
    have By:m3 T0 ps:=G.row _ _ aH;have e:dT T0 p.dc=ps:=by delta dT;exact(bI<|G.o5 aH).trans (by rw[aH])
    rw[e]at ac;exact⟨(By.o3 x ac).2.2.2.2.2.1,(By.o3 x ac).2.2.2.1,mZ⟩
   |_=>exact nomatch ao
  ·rw[G.uH aH ao]at ac;by_cases eU:p.dc=2
   ·rw[bg eU]at ac;cases ac
   ·rw[bI eU]at ac;exact bT ac▸⟨bi.2.2.2.1,bi.2.1,bT ac▸mZ⟩
 have c:n7 (aE T0 p.dc):=.i9 G h;delta fK;by_cases aA:gk p.b0=true
 ·rw[bg aA];by_cases h0:0<=fT (dq T0 [p.dc,4])
  ·rw[bg h0];exact c
  ·rw[bI h0];exact .i9 G λx ac=>bi.1.elim λr aH=>((G.sK aH).mp ac).elim (h x) λe=>e▸⟨by decide,by decide,_,G.rj,.inl rfl⟩
 ·rw[bI aA];exact c
section
variable{n:Nat}
def aaT(il:th true (d+4) n Z)(W:cb Z [] (z+1) w)(X:rH n w.r)(bl:w.r.aM=3){o o':af}(aA:o∈Z.T0)(kY:o'∈Z.T0)(ab:p∈o.gP)(aC:q∈o'.gP)(np:e9 p.name)(uP:e9 q.name)(aq:∀b az,a0 a2 (d+6) 95 [.L w.Q.q,cm p,cm q] w.C=some (.bool b,az.C)->cB Z [] (z+1) w az->(b=true->ix (gz Z.T0 p) (gz Z.T0 q)/\lW Z az.T az.r.tr (fK Z.T0 p) (fK Z.T0 q))->(b=false->¬(ix (gz Z.T0 p) (gz Z.T0 q)/\cK Z.P (fK Z.T0 p) (fK Z.T0 q)))->R):R:=by
 have eh:∀(C:St) (p:ef),fj C (cm p) (.int 0)=some (.str p.name):=λB B=>bZ (i:=0) rfl;have gE:∀(C:St) (p:ef),fj C (cm p) (.int 2)=some (J p.b0):=λB B=>bZ (i:=2) rfl;have kq:∀(C:St) (p:ef),fj C (cm p) (.int 3)=some (J p.dG):=λB B=>bZ (i:=3) rfl;have cW (h:¬ix (gz Z.T0 p) (gz Z.T0 q)) (e:a0 a2 (d+6) 95 [.L w.Q.q,cm p,cm q] w.C=some (.bool false,w.C)):R:=aq false w e (cB.refl W) nofun λB q=>h q.1;by_cases Y:p.name=q.name
 ·by_cases ae:PySem.Builtin.bitAnd (p.b0:Int) 25=PySem.Builtin.bitAnd (q.b0:Int) 25
  ·by_cases ba:p.dG=q.dG
   ·by_cases cp:ii p.b0=ii q.b0
    ·refine W.wy (d:=d) aA ab λfy bG a6 cv bh aD be=> ?_;refine cv.ok.wy (d:=d) kY aC λe1 bo bR d9 bf aF bF=> ?_;have w5:aE bo.T fy=fK Z.T0 p:=(gp cv.ok.dy d9.pre be).trans aD;have m:=(ai eL.aM<|bf.trans bh).trans bl;refine(il bo z fy e1 (cj m) d9.ok (d9.lim<|cv.lim X) ⟨d9.pre.some be,bF⟩ (V w5<|Ct Z.G aA ab)<|V aF<|Ct Z.G kY aC).elim λb h=>h.elim λfx h=> ?_;have d4:a0 a2 (d+4) 40 [.L w.Q.q,J fy,J e1] bo.C=some (.bool b,fx.C):=eF (ai fp.q<|d9.q.trans cv.q) h.1;exact aq b fx (go λk=>k _ W.k.bz.c5 _ W.au.cy _ _ rfl _ _ rfl _ (eh _ _) _ (eh _ _) _ (zh np uP<|co λq=>q Y) _ (gE _ _) _ _ (di _ _ _) _ (gE _ _) _ _ (di _ _ _) _ (kC<|co λq=>q ae) _ (kq _ _) _ (kq _ _) _ (ke ba) _ _ (sG (d:=d+4)) _ _ (sG (d:=d+4)) _ (ai some<|beq_iff_eq.mpr cp) _ W.k.bz.pj _ _ a6 _ _ bR _ _<|go λk=>k _ _ d4) ((cv.trans d9).trans<|h.2.out.jR d9.ok m) (λe=>⟨⟨Y,ae,ba,cp⟩,eF w5<|eF aF<|h.2.pos m e⟩) λe q=>h.2.neg m e<|V w5<|V aF q.2
    ·exact cW (λm=>cp m.rh)<|go λk=>k _ W.k.bz.c5 _ W.au.cy _ _ rfl _ _ rfl _ (eh _ _) _ (eh _ _) _ (zh np uP<|co λq=>q Y) _ (gE _ _) _ _ (di _ _ _) _ (gE _ _) _ _ (di _ _ _) _ (kC<|co λq=>q ae) _ (kq _ _) _ (kq _ _) _ (ke ba) _ _ (sG (d:=d+4)) _ _ (sG (d:=d+4)) _<|ai some<|beq_eq_false_iff_ne.mpr cp
   ·exact cW (λm=>ba m.dG)<|go λk=>k _ W.k.bz.c5 _ W.au.cy _ _ rfl _ _ rfl _ (eh _ _) _ (eh _ _) _ (zh np uP<|co λq=>q Y) _ (gE _ _) _ _ (di _ _ _) _ (gE _ _) _ _ (di _ _ _) _ (kC<|co λq=>q ae) _ (kq _ _) _ (kq _ _) _<|kd ba
  ·exact cW (λm=>ae m.uF)<|go λk=>k _ W.k.bz.c5 _ W.au.cy _ _ rfl _ _ rfl _ (eh _ _) _ (eh _ _) _ (zh np uP<|co λq=>q Y) _ (gE _ _) _ _ (di _ _ _) _ (gE _ _) _ _ (di _ _ _) _<|kC<|cj ae
 ·exact cW (λm=>Y m.name)<|go λk=>k _ W.k.bz.c5 _ W.au.cy _ _ rfl _ _ rfl _ (eh _ _) _ (eh _ _) _<|zh np uP<|cj Y
end
end
section
noncomputable def O5:List dA:=jO<|De.body.getD 4 .fA
section
variable{n:Nat}{c8:List ef}{f g:Nat}
def aaU(il:th true (d+4) n Z)(aaV:BB Z.T0 ps)(aaW:BB Z.T0 c8)(xs:List ef):∀{ys:List ef} {k z:Nat} {w:gB} {H:bS},cb Z [] (z+1) w->rH n w.r->w.r.aM=3->ps.drop k=xs->c8.drop k=ys->xs.length=ys.length->H 0=some (.L w.Q.q)->H 4=some (af.obj ps f).b3->H 5=some (af.obj c8 g).b3->
  (∀c aU az,fX (λB=>true) (λx H s=>cG (bk<|d+6) O5 (ar H 6 x) s) ((List.range' k xs.length).map J) H w.C=some (c,aU,az.C)->cB Z [] (z+1) w az->(∀i,i≠6->aU i=H i)->((c=.next/\cC (λp q=>ix (gz Z.T0 p) (gz Z.T0 q)/\lW Z az.T az.r.tr (fK Z.T0 p) (fK Z.T0 q)) xs ys)\/(c=.ret (.bool false)/\¬cC (λp q=>ix (gz Z.T0 p) (gz Z.T0 q)/\cK Z.P (fK Z.T0 p) (fK Z.T0 q)) xs ys))->R)->R:=by
 induction xs with
 |nil=>
  intro ys k z w H W X m aD aF an h0 cp dF aq;cases ys with
  |nil=>exact aq .next H w rfl (cB.refl W) (λB B=>rfl) (.inl ⟨rfl,trivial⟩)
  |cons=>exact Nat.noConfusion an
 |cons p xs ay=>
  intro ys k z w H W X m aD aF an h0 cp dF aq;cases ys with
  |nil=>exact Nat.noConfusion an
  |cons q ys=>
   have a:=BD aD;have b:=BD aF;have ab:=aaV.mem p<|dL a.1;have aC:=aaW.mem q<|dL b.1;have Fy:fj w.C (.ak<|ps.map cm) (.int k)=some (cm p):=bZ<|nP (f:=cm) a.1;have O6:fj w.C (.ak<|c8.map cm) (.int k)=some (cm q):=bZ<|nP (f:=cm) b.1;refine ab.2.elim λo aA=>aC.2.elim λo' kY=>aaT (d:=d) il W X m aA.1 kY.1 aA.2 kY.2 ab.1.name aC.1.name λt bG a6 cv pos neg=> ?_;cases t with
   |false=>exact aq _ _ bG (mS rfl<|eK λk=>k _ h0 _ cp _ (bZ (i:=1) rfl) _ rfl _ Fy _ dF _ (bZ (i:=1) rfl) _ rfl _ O6 _ _ a6) cv (λi ah=>p4 _ _ ah)<|.inr ⟨rfl,λh=>neg rfl h.1⟩
   |true=>exact ay (H:=ar H 6<|J k) cv.ok (cv.lim X) (V cv.same m) a.2 b.2 (nq an) (V cv.q h0) cp dF λc aU az f1 f2 hl f4=>aq c aU az (eT rfl (eK λk=>k _ h0 _ cp _ (bZ (i:=1) rfl) _ rfl _ Fy _ dF _ (bZ (i:=1) rfl) _ rfl _ O6 _ _ a6) f1) (cv.trans f2) (λi ah=>(hl i ah).trans<|p4 _ _ ah)<|f4.imp (λh=>⟨h.1,⟨(pos rfl).1,f2.up cv.ok _ _ (pos rfl).2⟩,h.2⟩) λh=>⟨h.1,λq=>h.2 q.2⟩
end
end
section
def cC.Hb{α β kR yd:Type}{c4:kR->yd->Prop}{f:α->kR}{g:β->yd}{xs:List α}:∀{ys:List β},cC (λx y=>c4 (f x)<|g y) xs ys↔cC c4 (xs.map f) (ys.map g):=by
 induction xs with
 |nil=>exactλ{ys}=>by cases ys<;>exact Iff.rfl
 |cons x xs ay=>exactλ{ys}=>by cases ys with
  |nil=>exact Iff.rfl
  |cons y ys=>exact and_congr_right λB=>ay
def cC.len{α β:Type}{c4:α->β->Prop}{xs:List α}:∀{ys:List β},cC c4 xs ys->xs.length=ys.length:=by
 induction xs with
 |nil=>exactλ{ys} v=>by cases ys with
  |nil=>rfl
  |cons=>exact v.elim
 |cons x xs ay=>exactλ{ys} v=>by cases ys with
  |nil=>exact v.elim
  |cons=>exact ai Nat.succ<|ay v.2
def kinds(a:af):a.kind∈[1,2,3,4,6,8,9]:=by cases a<;>exact dw rfl
def zi{a:af}(h:a.shaped):a.kind=8\/a.kind=9:=by cases a<;>first|exact .inl rfl|exact .inr rfl|exact Bool.noConfusion h
def zj{a:af}(h:a.shaped):a.kind≠6:=λe=>(zi h).elim (λq=>mE (bu q e) rfl) λq=>mE (bu q e) rfl
def fz{v:Bool}(l:List Nat)(h:decide (r.kind∈l)=v):l4 C (J r.kind) (.ak (l.map λn:Nat=>I.int n))=some v:=h▸mT C r.kind l
def Hc{a b:af}:a0 a2 (d+1) 54 [J a.kind,J b.kind] C=some (.int 5,C):=by
 have key:∀k:Nat,k∈[1,2,3,4,6,8,9]->decide ((k:Int)=7)=false/\decide ((k:Int)=13)=false/\decide (k∈[10,14,15,16,17,18,19])=false/\decide (k∈[11,12])=false:=by decide
 have x:=key _<|kinds a;exact go λr=>r _ (gY x.1) _ (gY (key _<|kinds b).1) _ (ek<|fz [10,14,15,16,17,18,19] x.2.2.1) _ (ek<|fz [10,14,15,16,17,18,19] (key _<|kinds b).2.2.1) _ (gY x.2.1) _<|ek<|fz [11,12] x.2.2.2
noncomputable def aaX(i:Nat):dA:=De.body.getD i .fA
section
variable{n:Nat}{a b:af}{k:Bool}{y:I×St}
def aaY(il:th true (d+4) n Z)(W:cb Z [] (z+1) w)(X:rH n w.r)(bl:w.r.aM=3)(aT:w.T[s]? =some a)(aj:w.T[t]? =some b)(g3:a.shaped)(fh:b.shaped)(na:s≠11)(nb:t≠11)(aq:∀c az,a0 a2 (d+7) 94 [.L w.Q.q,J s,J t] w.C=some (.bool c,az.C)->lY Z [] z w [a] [b] c az->R):R:=
 have ll:=yG Z.G Z.D W.dy aT g3 na;have h1:=yG Z.G Z.D W.dy aj fh nb
 ll.1.d6.elim λu h=>h.elim λf bD=>h1.1.d6.elim λv h=>h.elim λg aR=>by
  have a4:∀{c az},cB Z [] (z+1) w az->(c=true->cC (λp q=>ix (gz Z.T0 p) (gz Z.T0 q)/\lW Z az.T az.r.tr (fK Z.T0 p) (fK Z.T0 q)) (fP Z.T0 Z.a1 a) (fP Z.T0 Z.a1 b))->(c=false->¬cC (λp q=>ix (gz Z.T0 p) (gz Z.T0 q)/\cK Z.P (fK Z.T0 p) (fK Z.T0 q)) (fP Z.T0 Z.a1 a) (fP Z.T0 Z.a1 b))->lY Z [] z w [a] [b] c az:=λO p q=>⟨O.gg<|j1 _,λB e=>.inl ⟨a,b,rfl,rfl,g3,fh,cC.Hb.mp<|(p e).imp λB B h=>⟨h.1,.inr h.2⟩⟩,λB e h=>q e<|(cC.Hb (c4:=λp q=>ix p q/\cK Z.P p.lb q.lb)).mpr<|(h.aS.elim (λe=>e▸.refl) λo=>o.gP:m1 (cK Z.P) (Z.P a) (Z.P b)).imp λB B h=>⟨h.1,.uG h.2⟩,λm=>absurd bl m,λB B=>O.wY bl⟩;have Y:a0 a2 (d+6) 68 [.L Z.A.cn,J s] w.C=some (J u,w.C):=re (d:=d+4) W.au bD.1;have ae:a0 a2 (d+6) 68 [.L Z.A.cn,J t] w.C=some (J v,w.C):=re (d:=d+4) W.au aR.1;by_cases an:(fP Z.T0 Z.a1 a).length=(fP Z.T0 Z.a1 b).length
  ·refine aaU (d:=d) (f:=f) (g:=g) il ll.2 h1.2 (fP Z.T0 Z.a1 a) (k:=0) (ys:=fP Z.T0 Z.a1 b) (H:=ar (ar (ar (ck [.L w.Q.q,J s,J t]) 3<|.L Z.A.cn) 4 (af.obj (fP Z.T0 Z.a1 a) f).b3) 5 (af.obj (fP Z.T0 Z.a1 b) g).b3) W X bl rfl rfl an rfl rfl rfl λc aU az e O vd h=> ?_;have j2:cr (bk<|d+6) (aaX 4) (ar (ar (ar (ck [.L w.Q.q,J s,J t]) 3<|.L Z.A.cn) 4 (af.obj (fP Z.T0 Z.a1 a) f).b3) 5 (af.obj (fP Z.T0 Z.a1 b) g).b3) w.C=some (c,aU,az.C):=wu (n:=(fP Z.T0 Z.a1 a).length) (jk λk=>k _ (bZ (i:=1) rfl) _ _<|ai (λn:Nat=>some (I.int n,w.C))<|c2 cm) (c1 ll.2.gb<|by decide)<|(ai (λl=>fX (λB=>true) (λx H s=>cG (bk<|d+6) O5 (ar H 6 x) s) l _ w.C)<|ai (List.map J) List.range_eq_range').trans e;refine h.elim (λq=> ?_) λq=> ?_
   ·obtain⟨rfl,q⟩:=q;exact aq true az (q9 [false,false,false,false,true] λk=>k _ rfl _ W.k.bz.c5 _ rfl _ W.au.cy _ W.au.cJ _ rfl _ W.au.n4 _ rfl _ _ Y _ (W.au.row bD.2) _ rfl _ W.au.cy _ W.au.cJ _ rfl _ W.au.n4 _ rfl _ _ ae _ (W.au.row aR.2) _ rfl _ (bZ (i:=1) rfl) _ _ (ai (λn:Nat=>some (I.int n,w.C))<|c2 cm) _ rfl _ (bZ (i:=1) rfl) _ _ (ai (λn:Nat=>some (I.int n,w.C))<|c2 cm) _ (ke an) _ _ _ j2 _ (vd 4<|by decide) _ _ rfl _ rfl _ (vd 5<|by decide) _ _ rfl _ rfl _ (vd 4<|by decide) _ _ rfl _ rfl _ (vd 5<|by decide) _ _ rfl _ rfl)<|a4 O (λB=>q) nofun
   ·obtain⟨rfl,q⟩:=q;exact aq false az (q9 [false,false,false,false,true] λk=>k _ rfl _ W.k.bz.c5 _ rfl _ W.au.cy _ W.au.cJ _ rfl _ W.au.n4 _ rfl _ _ Y _ (W.au.row bD.2) _ rfl _ W.au.cy _ W.au.cJ _ rfl _ W.au.n4 _ rfl _ _ ae _ (W.au.row aR.2) _ rfl _ (bZ (i:=1) rfl) _ _ (ai (λn:Nat=>some (I.int n,w.C))<|c2 cm) _ rfl _ (bZ (i:=1) rfl) _ _ (ai (λn:Nat=>some (I.int n,w.C))<|c2 cm) _ (ke an) _ _ _ j2)<|a4 O nofun λB=>q
  ·exact aq false w (go λk=>k _ W.k.bz.c5 _ W.au.cy _ W.au.cJ _ W.au.n4 _ _ Y _ (W.au.row bD.2) _ W.au.cy _ W.au.cJ _ W.au.n4 _ _ ae _ (W.au.row aR.2) _ (bZ (i:=1) rfl) _ _ (ai (λn:Nat=>some (I.int n,w.C))<|c2 cm) _ (bZ (i:=1) rfl) _ _ (ai (λn:Nat=>some (I.int n,w.C))<|c2 cm) _<|kd an)<|a4 (.refl W) nofun λB h=>an h.len
def bO.iA{T:List af}(G:bO T)(h:T[s]? =some a):(0<mj a->s=15+mj a)/\mj a<=3:=by
 have k:=G.row s a h;cases a with
 |ref e=>exact⟨λB=>k.1,k.2.2⟩
 |_=>exact⟨λq=>absurd q<|Nat.lt_irrefl 0,jB _⟩
def cb.ha(W:cb Z ex z w)(u:hM w.C (w.Q.q+5) (.list dn) S)(h:Ck dn):cb Z ex z {w with C:=S,r:={w.r with dn:=dn}}/\jS Z w {w with C:=S,r:={w.r with dn:=dn}}:=W.de u.bU (λa q=>bT q▸dL (i:=4) rfl) {W.k with bz:=W.k.bz.aae u,dn:=h}
def Hd(W:cb Z ex eM w)(aH:w.r.dn.length<24)(aT:w.T[s]? =some a)(aj:w.T[t]? =some b)(sS:∀aw x,cb Z ex eM {w with C:=aw,r:={w.r with dn:=w.r.dn++[x]}}->(∀c bo,(w.r.aM=3->a0 a2 (d+7) 94 [.L w.Q.q,J s,J t] aw=some (.bool c,bo.C))->(w.r.aM≠3->a0 a2 (d+7) 85 [.L w.Q.q,J s,J t,.bool k] aw=some (.bool c,bo.C))->lY Z ex z {w with C:=aw,r:={w.r with dn:=w.r.dn++[x]}} aI gG c bo->R)->R)(aq:∀c az,a0 a2 (d+8) 82 [.L w.Q.q,J s,J t,.bool k] w.C=some (.bool c,az.C)->lY Z ex z w aI gG c az->R):R:=by
 refine ut (v:=.ak [J<|mj a,J s,J<|mj b,J t]) W.k.bz.ha (W.k.bz.pos 4 rfl) (ec aH<|by decide) λaw Y u=> ?_;have g6:=W.ha u λx ac=>(gc ac).elim (W.k.dn x) λq=>⟨_,_,_,bT q,(W.cX.iA aT).1⟩;refine sS aw _ g6.1 λc bo a6 bR a9=> ?_;have O:=a9.out;have e:bo.Q=w.Q:=O.q;have kh:gn Z ex z bo.C bo.T w.Q bo.r (kM bo.eV):=e▸O.ok.k;have bf:bo.C[w.Q.q+5]? =some (.list<|w.r.dn++[.ak [J<|mj a,J s,J<|mj b,J t]]):=kh.bz.ha.trans<|ai (λl=>some<|b5.list l)<|ai eL.dn O.same;refine GW bf (W.k.bz.pos 4 rfl) λcA ba v=> ?_;have hK:=O.ok.ha (dn:=w.r.dn) (e▸v) W.k.dn;refine aq c {bo with C:=cA,r:={bo.r with dn:=w.r.dn}} ?_ ⟨⟨hK.1,O.pre,g6.2.trans<|O.bU.trans hK.2,e,V O.same rfl,O.ext,O.rF,O.u8,O.pk⟩,a9.pos,a9.neg,a9.iT,a9.clean⟩;by_cases bl:w.r.aM=3
 ·exact go λk=>k _ _ (OL (d:=d+5) W.k.bz W.au W.k.dn aH aT) _ W.k.bz.c5 _ W.au.cy _ W.au.cJ _ W.k.bz.s7 _ (lI W.k.bz.ha) _ (W.au.row aT) _ _ wv _ (W.au.row aj) _ _ wv _ _ (lJ W.k.bz.ha Y) _ g6.1.k.bz.d7 _ (cY (b:=3) bl) _ _ (a6 bl) _ kh.bz.s7 _ (lI bf) _ _<|lJ bf ba
 ·exact go λk=>k _ _ (OL (d:=d+5) W.k.bz W.au W.k.dn aH aT) _ W.k.bz.c5 _ W.au.cy _ W.au.cJ _ W.k.bz.s7 _ (lI W.k.bz.ha) _ (W.au.row aT) _ _ wv _ (W.au.row aj) _ _ wv _ _ (lJ W.k.bz.ha Y) _ g6.1.k.bz.d7 _ (bN (b:=3) bl) _ _ (bR bl) _ kh.bz.s7 _ (lI bf) _ _<|lJ bf ba
def cb.j6(W:cb Z ex z w)(aT:w.T[s]? =some a)(aj:w.T[t]? =some b)(st:s≠t){P:Prop}(dK:a.kind≠9->P)(fk:a.kind=9->b.kind≠9->P)(oj:∀e f,a=.ref e->b=.ref f->e≠f->P):P:=by
 by_cases dh:a.kind=9
 ·by_cases da:b.kind=9
  ·cases a with
   |ref e=>cases b with
    |ref f=>exact oj e f rfl rfl λq=>st (((W.cX.row s _ aT).1).trans ((ai (15+·) q).trans ((W.cX.row t _ aj).1).symm))
    |_=>exact mE da rfl
   |_=>exact mE dh rfl
  ·exact fk dh da
 ·exact dK dh
def aaZ(W:cb Z ex z w)(aT:w.T[s]? =some a)(aj:w.T[t]? =some b)(fh:b.shaped)(st:s≠t)(h:a0 a2 d 82 [.L w.Q.q,J s,J t,.bool true] w.C=some y):a0 a2 (d+1) 80 [.L w.Q.q,J s,J t,.bool true] w.C=some y:=
 have He:¬t=10:=λq=>b8<|(ai af.shaped<|br<|(W.cX.at (i:=10) rfl).symm.trans<|q▸aj).trans fh;have nb:=o2<|fz (C:=w.C) [8,9]<|yt<|zi fh
 W.j6 aT aj st (λdh=>go λk=>k _ W.k.bz.c5 _ W.au.cy _ W.au.cJ _ (W.au.row aT) _ W.au.cJ _ (W.au.row aj) _ (bN (b:=10) He) _ cM _ nb _ cM _ (bN (b:=9) dh) _ _ h)
  (λdh da=>go λk=>k _ W.k.bz.c5 _ W.au.cy _ W.au.cJ _ (W.au.row aT) _ W.au.cJ _ (W.au.row aj) _ (bN (b:=10) He) _ cM _ nb _ cM _ (cY (b:=9) dh) _ cM _ (bN (b:=9) da) _ _ h)
  λe f zk sT bw=>by
   subst zk sT;exact go λk=>k _ W.k.bz.c5 _ W.au.cy _ W.au.cJ _ (W.au.row aT) _ W.au.cJ _ (W.au.row aj) _ (bN (b:=10) He) _ rfl _ nb _ rfl _ rfl _ rfl _ rfl _ (bZ (i:=1) rfl) _ (bZ (i:=1) rfl) _ (bN bw) _ _ h
def aa0(W:cb Z ex z w)(aT:w.T[s]? =some a)(aj:w.T[t]? =some b)(g3:a.shaped)(fh:b.shaped)(st:s≠t)(h:a0 a2 d 82 [.L w.Q.q,J s,J t,.bool false] w.C=some y):a0 a2 (d+1) 93 [.L w.Q.q,J s,J t] w.C=some y:=
 have na:=o2<|fz (C:=w.C) [8,9]<|yt<|zi g3;have nb:=o2<|fz (C:=w.C) [8,9]<|yt<|zi fh
 W.j6 aT aj st (λdh=>go λk=>k _ W.k.bz.c5 _ W.au.cy _ W.au.cJ _ (W.au.row aT) _ W.k.bz.c5 _ W.au.cy _ W.au.cJ _ (W.au.row aj) _ cM _ na _ cM _ nb _ cM _ (bN (b:=9) dh) _ _ h)
  (λdh da=>go λk=>k _ W.k.bz.c5 _ W.au.cy _ W.au.cJ _ (W.au.row aT) _ W.k.bz.c5 _ W.au.cy _ W.au.cJ _ (W.au.row aj) _ cM _ na _ cM _ nb _ cM _ (cY (b:=9) dh) _ cM _ (bN (b:=9) da) _ _ h)
  λe f zk sT bw=>by
   subst zk sT;exact go λk=>k _ W.k.bz.c5 _ W.au.cy _ W.au.cJ _ (W.au.row aT) _ W.k.bz.c5 _ W.au.cy _ W.au.cJ _ (W.au.row aj) _ rfl _ na _ rfl _ nb _ rfl _ rfl _ rfl _ rfl _ (bZ (i:=1) rfl) _ (bZ (i:=1) rfl) _ (bN bw) _ _ h
def O7(W:cb Z ex z w)(bl:w.r.aM≠3)(aT:w.T[s]? =some a)(aj:w.T[t]? =some b)(dh:a.kind≠6)(fh:b.shaped)(st:s≠t)(h:a0 a2 d 82 [.L w.Q.q,J s,J t,.bool true] w.C=some y):a0 a2 (d+4) 53 [.L w.Q.q,J s,J t] w.C=some y:=go λk=>k _ W.k.bz.c5 _ W.au.cy _ W.au.cJ _ (W.au.row aT) _ cM _ (W.au.row aj) _ cM _ (bN (b:=6) dh) _ (bN (b:=6)<|zj fh) _ _ Hc _ _<|OI W.k.bz<|go λk=>k _ W.k.bz.d7 _ (bN (b:=3) bl) _ _<|aaZ W aT aj fh st h
def Hf(h:r.kind≠6):decide (r.kind∈[6,7])=false:=co λq=>(cR q).elim h λq=>(by decide:∀k∈[1,2,3,4,6,8,9],k≠7) _ (kinds r)<|bT q
def aa1(W:cb Z ex z w)(bl:w.r.aM=3)(aT:w.T[s]? =some a)(aj:w.T[t]? =some b)(g3:a.shaped)(fh:b.shaped)(st:s≠t)(h:a0 a2 d 82 [.L w.Q.q,J s,J t,.bool false] w.C=some y):a0 a2 (d+4) 59 [.L w.Q.q,J s,J t] w.C=some y:=by
 have aH:a0 a2 (d+3) 35 [.L w.Q.q,.int 5,J s,J t] w.C=some y:=OI W.k.bz<|go λk=>k _ W.k.bz.d7 _ (cY (b:=3) bl) _ _<|aa0 W aT aj g3 fh st h;have dh:=ek<|fz (C:=w.C) [6,7]<|Hf<|zj g3;have da:=ek<|fz (C:=w.C) [6,7]<|Hf<|zj fh;by_cases e:a.kind=b.kind
 ·exact go λk=>k _ W.k.bz.c5 _ W.au.cy _ W.au.cJ _ (W.au.row aT) _ (W.au.row aj) _ cM _ cM _ (cY e) _ cM _ (bN (b:=6)<|zj g3) _ cM _ (bN (b:=7) λq=>(by decide:∀k∈[1,2,3,4,6,8,9],k≠7) _ (kinds a) q) _ cM _ dh _ cM _ da _ cM _ cM _ _ Hc _ _ aH
 ·exact go λk=>k _ W.k.bz.c5 _ W.au.cy _ W.au.cJ _ (W.au.row aT) _ (W.au.row aj) _ cM _ cM _ (bN e) _ cM _ dh _ cM _ da _ cM _ cM _ _ Hc _ _ aH
end
end
section
def Cu(h:r.kind≠6):decide (r.kind∈[6,7,10,14,15,16,17,18,19])=false:=(by decide:∀k:Nat,k∈[1,2,3,4,6,8,9]->k≠6->decide (k∈[6,7,10,14,15,16,17,18,19])=false) _ (kinds r) h
def Hg(h:r.kind=6):decide (r.kind∈[6,7,10,14,15,16,17,18,19])=true:=V h rfl
def Cv:decide (r.kind∈[10,14,15,16,17,18,19])=false:=(by decide:∀k:Nat,k∈[1,2,3,4,6,8,9]->decide (k∈[10,14,15,16,17,18,19])=false) _<|kinds r
def Bm:¬r.kind=5:=(by decide:∀k:Nat,k∈[1,2,3,4,6,8,9]->¬k=5) _<|kinds r
def aa2{a:af}{i:Int}(h:eY a=i)(h0:0<=i):(i=6/\tc a=some (cu "string"))\/(i=7/\tc a=some (cu "number")):=by
 cases a with
 |str=>exact .inl ⟨h.symm,rfl⟩
 |num=>exact .inr ⟨h.symm,rfl⟩
 |_=>exact absurd (Int.le_trans h0<|Int.le_of_eq h.symm) (by decide:¬(0:Int)<=-1)
def Hh{a b:af}(h:tc a=some b):(eY a=6/\b=cu "string")\/(eY a=7/\b=cu "number"):=by
 cases a with
 |str=>exact .inl ⟨rfl,(br h).symm⟩
 |num=>exact .inr ⟨rfl,(br h).symm⟩
 |_=>exact bj h
def jv{T:List af}{a x:af}(G:bO T)(ac:fU[i]? =some x)(aJ:T[s]? =some a):a=x↔s=i:=⟨λe=>nN G.aG aJ<|e▸G.at ac,λe=>br<|bu aJ<|e▸G.at ac⟩
def O8{T:List af}{a b:af}(G:bO T)(aP:T[t]? =some b):eY a=(t:Int)↔tc a=some b:=
 ⟨λh=>(aa2 h<|qb _).elim (λq=>q.2.trans<|ai some ((jv G (i:=6) rfl aP).mpr<|k0 q.1).symm) λq=>q.2.trans<|ai some ((jv G (i:=7) rfl aP).mpr<|k0 q.1).symm,
  λh=>(Hh h).elim (λq=>q.1.trans (ai Int.ofNat ((jv G (i:=6) rfl aP).mp q.2)).symm) λq=>q.1.trans (ai Int.ofNat ((jv G (i:=7) rfl aP).mp q.2)).symm⟩
noncomputable def O9(i:Nat):dA:=H4.body.getD i .fA
noncomputable def aa3(i:Nat):dA:=H5.body.getD i .fA
section
variable{e v:Nat}{a b:af}
def aa4(W:cb Z ex z w)(bD:w.T[u]? =some a)(aR:w.T[v]? =some b)(dK:a0 a2 (d+3) 51 [.L w.Q.q,J u,J v] w.C=some (.int 1,w.C)->rE w.r.aM a b->R)(gi:a0 a2 (d+3) 51 [.L w.Q.q,J u,J v] w.C=some (.int 0,w.C)->¬rE w.r.aM a b->R):R:=by
 have G:=W.cX;have cp:=jv G (i:=4) (x:=cu "undefined") rfl bD;have ba:=jv G (i:=3) (x:=cu "void") rfl aR;have bG:=O8 (a:=a) G aR;have bo:=O8 (a:=b) G bD;by_cases dM:u=4
 ·by_cases cS:v=3
  ·exact dK (go λk=>k _ (cY (b:=4) dM) _<|cY (b:=3) cS)<|.inl ⟨cp.mpr dM,ba.mpr cS⟩
  ·refine gi (go λk=>k _ (cY (b:=4) dM) _<|bN (b:=3) cS) λh=>h.elim (λh=>cS<|ba.mp h.2) λh=>h.elim (λh=>bj<|(ai tc<|cp.mpr dM).symm.trans h) λh=> ?_;exact(Hh h.2).elim (λq=>mE (bu dM<|(jv G (i:=6) rfl bD).mp q.2) rfl) λq=>mE (bu dM<|(jv G (i:=7) rfl bD).mp q.2) rfl
 ·by_cases aD:eY a=(v:Int)
  ·exact dK (go λk=>k _ (bN (b:=4) dM) _ W.k.bz.c5 _ W.au.cy _ W.au.cJ _ (W.au.row bD) _ W.k.bz.c5 _ W.au.cy _ W.au.cJ _ (W.au.row aR) _ _ uy _ (gY<|cj aD) _ _ uy _<|kc<|cj<|aD▸qb _)<|.inr<|.inl<|bG.mp aD
  ·by_cases aF:w.r.aM=2/\eY b=(u:Int)
   ·exact dK (go λk=>k _ (bN (b:=4) dM) _ W.k.bz.c5 _ W.au.cy _ W.au.cJ _ (W.au.row bD) _ W.k.bz.c5 _ W.au.cy _ W.au.cJ _ (W.au.row aR) _ _ uy _ (gY<|co aD) _ W.k.bz.d7 _ (cY (b:=2) aF.1) _ _ uy _<|gY<|cj aF.2)<|.inr<|.inr ⟨aF.1,bo.mp aF.2⟩
   ·have pi:cr (bk<|d+2) (aa3 4) (ar (ar (ck [.L w.Q.q,J u,J v]) 3 a.b3) 4 b.b3) w.C=some (.next,ar (ar (ck [.L w.Q.q,J u,J v]) 3 a.b3) 4 b.b3,w.C):=by
     by_cases cU:w.r.aM=2
     ·exact dk λk=>k _ W.k.bz.d7 _ (cY (b:=2) cU) _ _ uy _<|gY<|co λq=>aF ⟨cU,q⟩
     ·exact dk λk=>k _ W.k.bz.d7 _<|bN (b:=2) cU
    have hn:a0 a2 (d+2) 52 [.L w.Q.q,J u,a.b3,b.b3] w.C=some (.int 0,w.C):=by
     by_cases qr:w.r.aM=4
     ·exact go λk=>k _ W.k.bz.d7 _<|cY (b:=4) qr
     ·exact go λk=>k _ W.k.bz.d7 _ (bN (b:=4) qr) _ _<|go λk=>k _ cM _<|bN (b:=5) Bm
    exact gi (gj [false,false,false,false,true] λk=>k _ (bN (b:=4) dM) _ W.k.bz.c5 _ W.au.cy _ W.au.cJ _ (W.au.row bD) _ W.k.bz.c5 _ W.au.cy _ W.au.cJ _ (W.au.row aR) _ _ uy _ (gY<|co aD) _ _ _ pi _ cM _ (bN (b:=5) Bm) _ cM _ (bN (b:=5) Bm) _ _ hn) λh=>h.elim (λh=>dM<|cp.mp h.1) λh=>h.elim (λh=>aD<|bG.mpr h) λh=>aF ⟨h.1,bo.mpr h.2⟩
def Pa(h:v=0\/v=13\/u=2\/u=13):a0 a2 (d+1) 48 [x,J u,J v] C=some (.int 1,C):=by
 by_cases aD:v=0
 ·exact go λk=>k _<|cY (b:=0) aD
 ·by_cases aF:v=13
  ·exact go λk=>k _ (bN (b:=0) aD) _<|cY (b:=13) aF
  ·by_cases cS:u=2
   ·exact go λk=>k _ (bN (b:=0) aD) _ (bN (b:=13) aF) _<|cY (b:=2) cS
   ·exact go λk=>k _ (bN (b:=0) aD) _ (bN (b:=13) aF) _ (bN (b:=2) cS) _<|cY (b:=13)<|((h.resolve_left aD).resolve_left aF).resolve_left cS
def aa5(W:cb Z ex (z+e) w)(he:u=0->1<=e)(bl:w.r.aM≠3)(bD:w.T[u]? =some a)(aR:w.T[v]? =some b)(eU:11∉dT w.T v)(dK:a0 a2 (d+3) 48 [.L w.Q.q,J u,J v] w.C=some (.int 1,w.C)->(v=0\/v=13\/u=2\/u=13)\/(v=1/\¬(u=0/\w.r.aM=4))->R)(bA:∀az,a0 a2 (d+3) 48 [.L w.Q.q,J u,J v] w.C=some (.int 1,az.C)->cB Z ex z w az->az.r.tr=w.r.tr->u=0->w.r.aM≠4->v≠0->v≠2->R)(gi:a0 a2 (d+3) 48 [.L w.Q.q,J u,J v] w.C=some (.int 0,w.C)->(u=0/\w.r.aM=4/\v≠0)\/(u=1/\v≠0/\v≠1)\/(v=2/\u≠2/\a.kind≠6)->R)(w6:a0 a2 (d+3) 48 [.L w.Q.q,J u,J v] w.C=some (.int<|-1,w.C)->u≠0->u≠1->u≠2->v≠0->v≠1->(v=2->a.kind=6)->R):R:=by
 by_cases c:v=0\/v=13\/u=2\/u=13
 ·exact dK (Pa c)<|.inl c
 ·have iM:¬v=0:=λq=>c<|.inl q;have e1:¬u=2:=λq=>c<|.inr<|.inr<|.inl q;have gZ:cr (bk<|d+2) (O9 0) (ck [.L w.Q.q,J u,J v]) w.C=some (.next,ck [.L w.Q.q,J u,J v],w.C):=dk λk=>k _ (bN (b:=0) iM) _ (bN (b:=13) λq=>c<|.inr<|.inl q) _ (bN (b:=2) e1) _<|bN (b:=13) λq=>c<|.inr<|.inr<|.inr q;have g0:¬(u=0/\w.r.aM=4)->cr (bk<|d+2) (O9 1) (ck [.L w.Q.q,J u,J v]) w.C=some (.next,ck [.L w.Q.q,J u,J v],w.C):=λn=>by
   by_cases e8:u=0
   ·exact dk λk=>k _ (cY (b:=0) e8) _ W.k.bz.d7 _<|bN (b:=4) λq=>n ⟨e8,q⟩
   ·exact dk λk=>k _<|bN (b:=0) e8
  by_cases a6:u=0/\w.r.aM=4
  ·exact gi (gj [true] λk=>k _ _ _ gZ _ (cY (b:=0) a6.1) _ W.k.bz.d7 _<|cY (b:=4) a6.2)<|.inl ⟨a6.1,a6.2,iM⟩
  ·by_cases ez:v=1
   ·exact dK (gj [true,true] λk=>k _ _ _ gZ _ _ _ (g0 a6) _<|cY (b:=1) ez)<|.inr ⟨ez,a6⟩
   ·by_cases e8:u=0
    ·by_cases ee:v=2
     ·exact gi (gj [true,true] λk=>k _ _ _ gZ _ _ _ (g0 a6) _ (bN (b:=1) ez) _ (cY (b:=0) e8) _<|cY (b:=2) ee) (.inr<|.inr ⟨ee,e1,(jv W.cX (i:=0) rfl bD).mpr e8▸by decide⟩)
     ·exact(W.gg (eM:=z+1)<|hB (he e8) z).Cr (d:=d) bl (c:=1) λaz h O=>bA az (gj [true,true] λk=>k _ _ _ gZ _ _ _ (g0 a6) _ (bN (b:=1) ez) _ (cY (b:=0) e8) _ (bN (b:=2) ee) _ W.k.bz.ze _ _ h) O.1 O.2 e8 (λq=>a6 ⟨e8,q⟩) iM ee
    ·by_cases fy:u=1
     ·have bD:a0 a2 (d+2) 49 [.L w.Q.q,J v] w.C=some (.int 0,w.C):=by
       by_cases qr:w.r.aM=4
       ·exact go λk=>k _ W.k.bz.c5 _ W.au.cy _ W.au.cJ _ (W.au.row aR) _ cM _ (ek<|fz [10,14,15,16,17,18,19] Cv) _ W.k.bz.c5 _ W.au.cy _ _ (yk W.au.fZ aR) _ W.k.bz.d7 _<|cY (b:=4) qr
       ·exact go λk=>k _ W.k.bz.c5 _ W.au.cy _ W.au.cJ _ (W.au.row aR) _ cM _ (ek<|fz [10,14,15,16,17,18,19] Cv) _ W.k.bz.c5 _ W.au.cy _ _ (yk W.au.fZ aR) _ W.k.bz.d7 _ (bN (b:=4) qr) _<|ek<|(mT w.C 11<|dT w.T v).trans<|ai some<|co eU
      exact gi (gj [true,true] λk=>k _ _ _ gZ _ _ _ (g0 a6) _ (bN (b:=1) ez) _ (bN (b:=0) e8) _ (cY (b:=1) fy) _ _ bD)<|.inr<|.inl ⟨fy,iM,ez⟩
     ·by_cases ee:v=2
      ·by_cases dh:a.kind=6
       ·exact w6 (gj [true,true] λk=>k _ _ _ gZ _ _ _ (g0 a6) _ (bN (b:=1) ez) _ (bN (b:=0) e8) _ (bN (b:=1) fy) _ (cY (b:=2) ee) _ W.k.bz.c5 _ W.au.cy _ W.au.cJ _ (W.au.row bD) _ cM _<|o2<|fz [6,7,10,14,15,16,17,18,19]<|Hg dh) e8 fy e1 iM ez λB=>dh
       ·exact gi (gj [true,true] λk=>k _ _ _ gZ _ _ _ (g0 a6) _ (bN (b:=1) ez) _ (bN (b:=0) e8) _ (bN (b:=1) fy) _ (cY (b:=2) ee) _ W.k.bz.c5 _ W.au.cy _ W.au.cJ _ (W.au.row bD) _ cM _<|o2<|fz [6,7,10,14,15,16,17,18,19]<|Cu dh)<|.inr<|.inr ⟨ee,e1,dh⟩
      ·exact w6 (gj [true,true] λk=>k _ _ _ gZ _ _ _ (g0 a6) _ (bN (b:=1) ez) _ (bN (b:=0) e8) _ (bN (b:=1) fy) _<|bN (b:=2) ee) e8 fy e1 iM ez λq=>absurd q ee
end
end
section
def hb(c:List af):Prop:=∀x∈c,(x.val=true/\x≠cu "error"/\x≠cu "object")\/(x.shaped=true/\x≠.obj [] 0)
def gJ(n:Nat)(c:List af):Prop:=hb c/\(n<10->n7 c)
def n7.mN{c:List af}(h:n7 c):hb c:=λx ac=>(h x ac).imp_right λq=>q.elim λB e=>e▸⟨rfl,nofun⟩
def n7.wL{n:Nat}{c:List af}(h:n7 c):gJ n c:=⟨h.mN,λB=>h⟩
section
variable{T:List af}{v p:Nat}{a b x y:af}
def kN(G:bO T)(h:T[u]? =some a)(ao:a.kind≠6)(ae:u≠2)(aH:ct a=a):aE T u=[a]:=(uK G h ao ae).trans<|ai (λx=>[x]) aH
def zl(G:bO T)(h:T[p]? =some x)(ab:p∈dT T v):ct x∈aE T v:=i2 ⟨p,ab,ai lP h⟩
def Hi(G:bO T)(aR:T[v]? =some b)(ac:fU[i]? =some x)(aa6:x.yQ=x)(h:x∈aE T v):i∈dT T v:=(e3 h).elim λp ab=>(G.parts aR p ab.1).elim λq aC=>(jv G ac aC.1).mp (yT ((ai lP aC.1).symm.trans ab.2) aa6)▸ab.1
def Hj(G:bO T)(aR:T[v]? =some b)(h:p∈dT T v)(ab:p=0\/p=1):v=p:=G.uI aR (λB e=>absurd (e▸h) b4) (λB B e=>(bT<|e▸h).symm) λps B B e u=>have k:=u.o3 p<|e▸h;absurd ab λq=>q.elim k.1 k.2.1
def w7(G:bO T)(aR:T[v]? =some b)(ee:v≠2):∃y,y∈aE T v:=G.uI aR (λe=>absurd e ee) (λB B e=>⟨_,zl G aR<|e▸bp⟩) λps B B e u=>(List.exists_mem_of_length_pos<|c7 (by decide) u.j6).elim λp ab=>(u.o3 p ab).2.2.2.2.2.2.elim λq aC=>⟨_,zl G aC.1<|e▸ab⟩
def hb.cW(G:bO T)(h:hb (aE T v)):v≠13/\v≠10/\11∉dT T v:=⟨λe=>(h (cu "error")<|e▸zl G (G.at (i:=13) rfl) (G.uH (G.at (i:=13) rfl) (by decide)▸bp)).elim (λq=>q.2.1 rfl) λq=>(nomatch q.1),λe=>(h (cu "object")<|e▸zl G (G.at (i:=10) rfl) (G.uH (G.at (i:=10) rfl) (by decide)▸bp)).elim (λq=>q.2.2 rfl) λq=>(nomatch q.1),λe=>(h _<|zl G (G.at (i:=11) rfl) e).elim (λq=>(nomatch q.1)) λq=>q.2 rfl⟩
def zm(a:af)(dh:a.kind≠6)(h:a.val=false):a.shaped:=by
 cases a with
 |obj=>rfl
 |ref=>rfl
 |dI=>exact absurd rfl dh
 |_=>exact Bool.noConfusion h
def Cw(h:a.val):a.shaped=false:=by
 cases a with
 |obj=>exact Bool.noConfusion h
 |ref=>exact Bool.noConfusion h
 |_=>rfl
def Pb(h:tc a=some b):a.shaped=false/\b.shaped=false:=⟨by
 cases a with
 |str=>rfl
 |num=>rfl
 |_=>exact bj h,(Hh h).elim (λq=>q.2▸rfl) λq=>q.2▸rfl⟩
def rE.ho(h:rE m a b):a.shaped=false/\b.shaped=false:=h.elim (λq=>q.1▸q.2▸⟨rfl,rfl⟩) λh=>h.elim Pb λq=>(Pb q.2).symm
def n5.Pc(h:n5 m a b)(aT:a≠cu "any")(kH:b≠cu "any")(fF:b≠cu "unknown"):rE m a b:=h.elim (λq=>absurd q kH) λq=>q.2.elim (λq=>absurd q fF) λq=>q.elim (λq=>absurd q aT) And.right
def aa7(m:Nat)(x y:af):Prop:=¬n5 m x y/\x≠y/\¬(x.shaped=true/\y.shaped)
end
section
variable{e v:Nat}{a b:af}
def Pd(W:cb Z ex (z+e) w)(he:u=0->1<=e)(bl:w.r.aM≠3)(bD:w.T[u]? =some a)(aR:w.T[v]? =some b)(b9:ct a=a)(dE:ct b=b)(jd:hb (aE w.T u))(iU:hb (aE w.T v))(bw:u≠v)(gC:aE w.T u=aI)(c3:aE w.T v=gG)(dK:∀az,a0 a2 (d+4) 47 [.L w.Q.q,J u,J v] w.C=some (.int 1,az.C)->cB Z ex z w az->az.r.tr=w.r.tr->az.r.ns=w.r.ns\/¬iR Z.P aI gG->(∀x∈aI,∃y∈gG,n5 w.r.aM x y)->R)(gi:a0 a2 (d+4) 47 [.L w.Q.q,J u,J v] w.C=some (.int 0,w.C)->(∀x∈aI,∀y∈gG,aa7 w.r.aM x y)->aI≠[]->(a.kind≠6/\b.kind≠6)\/w.r.aM=4\/u=1\/v=2->R)(w6:a0 a2 (d+4) 47 [.L w.Q.q,J u,J v] w.C=some (.int<|-1,w.C)->u≠0->u≠1->u≠2->v≠0->v≠1->(v=2->a.kind=6)->a.kind=6\/b.kind=6\/(b.shaped=true/\¬n5 w.r.aM a b/\u≠3/\u≠4/\u≠5)->R):R:=by
 subst gC c3;have G:=W.cX;have Cx:=jd.cW G;have w8:=iU.cW G;have Cy:∀{t:Nat} {r:af},w.T[t]? =some r->cu "any"∈aE w.T t->t=0:=λh q=>Hj G h (Hi G h (i:=0) rfl rfl q)<|.inl rfl;have aa8:∀{t:Nat} {r:af},w.T[t]? =some r->cu "unknown"∈aE w.T t->t=1:=λh q=>Hj G h (Hi G h (i:=1) rfl rfl q)<|.inr rfl;have Cz:∀{t:Nat} {x:af},t=0->x∈aE w.T t->x=cu "any":=λe q=>bT (kN G (G.at (i:=0) rfl) (by decide) (by decide) rfl▸e▸q);have aa9:∀{t:Nat} {x:af},t=1->x∈aE w.T t->x=cu "unknown":=λe q=>bT (kN G (G.at (i:=1) rfl) (by decide) (by decide) rfl▸e▸q);have Pe:cB Z ex z w w:=(cB.refl W).gg<|cT _ _;refine aa5 (d:=d) W he bl bD aR w8.2.2 (λh q=> ?_) (λaz h O tr e8 qr iM ee=> ?_) (λh q=> ?_) λh e8 fy e1 iM ez ee=> ?_
 ·refine dK w (go λk=>k _ _ h _<|kc rfl) Pe rfl (.inl rfl) λx ac=>q.elim (λq=>q.elim (λq=>⟨_,q▸kN G (G.at (i:=0) rfl) (by decide) (by decide) rfl▸bp,.inl rfl⟩) λq=>absurd q λq=>q.elim w8.1 λq=>q.elim (λq=>nomatch (q▸ac:x∈aE w.T 2)) Cx.1) λq=> ?_;exact⟨_,q.1▸kN G (G.at (i:=1) rfl) (by decide) (by decide) rfl▸bp,.inr ⟨λp=>q.2 ⟨Cy bD<|p.1▸ac,p.2⟩,.inl rfl⟩⟩
 ·refine dK az (go λk=>k _ _ h _<|kc rfl) O tr (.inr λf=> ?_) λx ac=>(w7 G aR ee).imp λy a8=>⟨a8,.inr ⟨λp=>qr p.2,.inr<|.inl<|Cz e8 ac⟩⟩;exact(w7 G bD<|e8▸by decide).elim λx ac=>(f x ac).elim λy a8=>iM<|Cy aR<|(a8.2.aS.elim (λe=>(Cz e8 ac).symm.trans e) λo=>nomatch (Cz e8 ac▸o.be:(cu "any").shaped=true))▸a8.1
 ·refine gi (go λk=>k _ _ h _<|kc rfl) (λx ac y a8=>q.elim (λq=> ?_) λq=>q.elim (λq=> ?_) λq=>nomatch (q.1▸a8:y∈aE w.T 2)) ((w7 G bD<|q.elim (λq=>q.1▸by decide) λq=>q.elim (λq=>q.1▸by decide) λq=>q.2.1).elim λB=>List.ne_nil_of_mem) (q.elim (λq=>.inr<|.inl q.2.1) λq=>.inr<|.inr<|q.imp And.left And.left)
  ·have fH:y≠cu "any":=λe=>q.2.2<|Cy aR<|e▸a8;have e:=Cz q.1 ac;exact⟨λh=>h.elim fH λh=>h.1 ⟨e,q.2.1⟩,λp=>fH<|bu p e,λp=>nomatch (e▸p.1:(cu "any").shaped=true)⟩
  ·have fH:y≠cu "any":=λe=>q.2.1<|Cy aR<|e▸a8;have du:y≠cu "unknown":=λe=>q.2.2<|aa8 aR<|e▸a8;have e:=aa9 q.1 ac;exact⟨λh=>h.elim fH λh=>h.2.elim du λh=>h.elim (λh=>absurd (bu e h)<|by decide) λh=>h.1 e,λp=>du<|bu p e,λp=>nomatch (e▸p.1:(cu "unknown").shaped=true)⟩
 ·by_cases dh:a.kind=6
  ·exact w6 (go λk=>k _ _ h _ (kc rfl) _ W.k.bz.c5 _ W.au.cy _ W.au.cJ _ (W.au.row bD) _ cM _ (W.au.row aR) _ cM _<|ek<|fz [6,7,10,14,15,16,17,18,19]<|Hg dh) e8 fy e1 iM ez ee<|.inl dh
  by_cases da:b.kind=6
  ·exact w6 (go λk=>k _ _ h _ (kc rfl) _ W.k.bz.c5 _ W.au.cy _ W.au.cJ _ (W.au.row bD) _ cM _ (W.au.row aR) _ cM _ (ek<|fz [6,7,10,14,15,16,17,18,19]<|Cu dh) _<|ek<|fz [6,7,10,14,15,16,17,18,19]<|Hg da) e8 fy e1 iM ez ee<|.inr<|.inl da
  have F:∀{i:Int} {aU:bS},cG (bk<|d+3) (zK.body.drop 7) (ar (ar (ar (ar (ck [.L w.Q.q,J u,J v]) 3<|.int<|-1) 4<|.L<|Z.A.t+1) 5<|J a.kind) 6<|J b.kind) w.C=some (.ret<|.int i,aU,w.C)->a0 a2 (d+4) 47 [.L w.Q.q,J u,J v] w.C=some (.int i,w.C):=λ{i aU} aP=>by
   have a1:cG (bk<|d+3) zK.body (ck [.L w.Q.q,J u,J v]) w.C=some (.ret<|.int i,aU,w.C):=gu (eB<|dk λk=>k _ _ h)<|gu (eB (dk λk=>k _ (kc rfl)))<|gu (eB (dk λk=>k _ W.k.bz.c5 _ W.au.cy _ W.au.cJ))<|gu (eB (dk λk=>k _ (W.au.row bD) _ cM))<|gu (eB (dk λk=>k _ (W.au.row aR) _ cM))<|gu (eB (dk λk=>k _ (ek (fz [6,7,10,14,15,16,17,18,19] (Cu dh))) _ (ek (fz [6,7,10,14,15,16,17,18,19] (Cu da)))))<|gu (eB (dk λk=>k _ (bN (b:=10) w8.2.1))) aP;exact(su (np:=3) rfl rfl).trans<|cF a1 rfl
  have aD:=kN G bD dh e1 b9;have aF:=kN G aR da (λq=>dh<|ee q) dE;have nQ:a≠cu "any":=λe=>e8<|(jv G rfl bD).mp e;have kH:b≠cu "any":=λe=>iM<|(jv G rfl aR).mp e;have fF:b≠cu "unknown":=λe=>ez<|(jv G rfl aR).mp e;have cW:¬rE w.r.aM a b->¬(a.shaped=true/\b.shaped)->∀{aU:bS},cG (bk<|d+3) (zK.body.drop 7) (ar (ar (ar (ar (ck [.L w.Q.q,J u,J v]) 3<|.int<|-1) 4<|.L<|Z.A.t+1) 5<|J a.kind) 6<|J b.kind) w.C=some (.ret<|.int 0,aU,w.C)->R:=λw9 ns aU c=>gi (F c) (λx ac y a8=>by
   obtain rfl:=bT (aD▸ac);obtain rfl:=bT (aF▸a8);exact⟨λh=>w9 (h.Pc nQ kH fF),λe=>bw (nN G.aG bD (e▸aR)),ns⟩) (aD▸List.cons_ne_nil _ _) (.inl ⟨dh,da⟩)
  cases lm:b.val with
  |true=>cases hL:a.val with
   |true=>exact aa4 (d:=d) W bD aR (λc q=>dK w (F<|hp λk=>k _ (ek<|fz [1,2,3,4,5] lm) _ (ek<|fz [1,2,3,4,5] hL) _ _ c) Pe rfl (.inl rfl) λx ac=>⟨b,aF▸bp,bT (aD▸ac)▸.inr ⟨λq=>nQ q.1,.inr<|.inr ⟨λe=>fy<|(jv G rfl bD).mp e,q⟩⟩⟩) λc q=>cW q (λq=>b8<|(Cw hL).symm.trans q.1)<|hp λk=>k _ (ek<|fz [1,2,3,4,5] lm) _ (ek<|fz [1,2,3,4,5] hL) _ _ c
   |false=>exact cW (λq=>b8<|bu q.ho.1<|zm a dh hL) (λq=>b8<|(Cw lm).symm.trans q.2)<|hp λk=>k _ (ek<|fz [1,2,3,4,5] lm) _<|ek<|fz [1,2,3,4,5] hL
  |false=>
   have fh:=zm b da lm;have w9:¬rE w.r.aM a b:=λq=>b8<|bu q.ho.2 fh;have rk:∀{i:Nat} {x:af},fU[i]? =some x->x.shaped=false->u=i->¬(a.shaped=true/\b.shaped):=λac aJ e q=>b8<|bu aJ<|(ai af.shaped<|(jv G ac bD).mpr e).symm.trans q.1;by_cases rd:u=4
   ·exact cW w9 (rk (i:=4) rfl rfl rd)<|hp λk=>k _ (ek<|fz [1,2,3,4,5] lm) _<|cY (b:=4) rd
   by_cases zn:u=5
   ·exact cW w9 (rk (i:=5) rfl rfl zn)<|hp λk=>k _ (ek<|fz [1,2,3,4,5] lm) _ (bN (b:=4) rd) _<|cY (b:=5) zn
   by_cases CA:u=3
   ·exact cW w9 (rk (i:=3) rfl rfl CA)<|hp λk=>k _ (ek<|fz [1,2,3,4,5] lm) _ (bN (b:=4) rd) _ (bN (b:=5) zn) _<|cY (b:=3) CA
   exact w6 (F<|hp λk=>k _ (ek<|fz [1,2,3,4,5] lm) _ (bN (b:=4) rd) _ (bN (b:=5) zn) _<|bN (b:=3) CA) e8 fy e1 iM ez ee<|.inr<|.inr ⟨fh,λh=>w9<|h.Pc nQ kH fF,CA,rd,zn⟩
end
end
section
section
variable{T:List af}{v:Nat}{a b:af}{P:af->List g9}
def Pf(h:a.val):a.kind≠6:=λe=>b8<|(ai (λk=>decide<|k∈[1,2,3,4,5]) e).symm.trans h
def Pg(G:bO T)(bD:T[u]? =some a)(aR:T[v]? =some b)(b9:ct a=a)(dE:ct b=b)(bw:u≠v)(hL:a.val)(h:cK P (aE T u) (aE T v)):False:=by
 by_cases e1:u=2
 ·exact(w7 G aR λq=>bw<|e1.trans q.symm).elim λy a8=>(h.eb.nO y a8).elim λx ac=>nomatch (e1▸ac.1:x∈aE T 2)
 ·have e:=kN G bD (Pf hL) e1 b9;have len:=h.eb.len.mp<|ai List.length e;exact(h.eb.ml a<|e▸bp).elim λy a8=>have aba:a=y:=a8.2.aS.elim id λo=>b8 ((Cw hL).symm.trans o.be)
   G.uI aR (λq B=>nomatch (q▸a8.1:y∈aE T 2)) (λda ee B=>bw<|nN G.aG bD<|(aba.trans<|bT<|kN G aR da ee dE▸a8.1)▸aR) λps B B ep mz=>absurd (a3 mz.j6<|cP<|(ai List.length ep).symm.trans<|(c2 _).symm.trans len) (by decide)
end
structure abb(m u v:Nat)(a b:af):Prop where
 e8:u≠0
 fy:u≠1
 e1:u≠2
 iM:v≠0
 ez:v≠1
 ee:v=2->a.kind=6
 mA:a.kind=6\/b.kind=6\/(b.shaped=true/\¬jQ m a b/\u≠3/\u≠4/\u≠5)
structure lZ(m:Nat)(cs eJ:List af)(b:Bool):Prop where
 g6:m≠2->(∃x∈cs,u6 m x eJ)->b=false
 gv:m≠2->(∀x∈cs,n6 m x eJ)->b=true
 hK:m=2->(∃x∈cs,n6 m x eJ)->b=true
 ra:m=2->cs≠[]->(∀x∈cs,u6 m x eJ)->b=false
 n1:cs=[]->b=true
def lZ.iy{c:List af}(Y:m≠2->∀x∈c,n6 m x bK)(ae:c≠[]->∃x∈c,n6 m x bK):lZ m c bK true:=
 have cW:∀{x:af},n6 m x bK->u6 m x bK->False:=λh k=>h.elim λy q=>(k y q.1).1 q.2
 ⟨λn h=>h.elim λx q=>(cW (Y n x q.1) q.2).elim,λB B=>rfl,λB B=>rfl,λB n h=>(ae n).elim λx q=>(cW q.2<|h x q.1).elim,λB=>rfl⟩
def lZ.cW{c:List af}(n:c≠[])(h:∀x∈c,¬n6 m x bK):lZ m c bK false:=⟨λB B=>rfl,λB k=>(ve _ n).elim λx q=>absurd (k x q)<|h x q,λB k=>k.elim λx q=>absurd q.2<|h x q.1,λB B B=>rfl,λe=>absurd e n⟩
def hY.Hk{P:af->List g9}{x:af}{b:Bool}(h:hY P m [x] bK b):lZ m [x] bK b:=⟨λB q=>q.elim λy q=>h.cW x rfl<|bT q.1▸q.2,λB q=>h.iy x rfl<|q x bp,λB q=>q.elim λy q=>h.iy x rfl<|bT q.1▸q.2,λB B q=>h.cW x rfl<|q x bp,nofun⟩
section
variable{e:Nat}{a b:af}
def Ph:a0 a2 (d+1) 40 [x,J s,J s] C=some (.bool true,C):=go λk=>k _<|cY rfl
def Pi(W:cb Z ex z w)(aT:w.T[s]? =some a)(aj:w.T[t]? =some b)(bw:s≠t)(aq:∀u v aw cz,cB Z ex z w {w with C:=aw,T:=cz}->cz[u]? =some (ct a)->cz[v]? =some (ct b)->aE cz u=aE w.T s->aE cz v=aE w.T t->(ct a=a->u=s)->(ct b=b->v=t)->(u=v->a0 a2 (d+4) 40 [.L w.Q.q,J s,J t] w.C=some (.bool true,aw))->
  (u≠v->∀{x:I} {aU:bS} {S:St},cG (bk (d+3)) (Dd.body.drop 4) (ar (ar (ck [.L w.Q.q,J s,J t]) 1 (J u)) 2 (J v)) aw=some (.ret x,aU,S)->a0 a2 (d+4) 40 [.L w.Q.q,J s,J t] w.C=some (x,S))->R):R:=
 MK (d:=d) W.au W.yD aT λu aw Y dB g7 bh a6=>by
  have cv:=W.h8 dB g7 (Bs w.T a)<|W.dy.FY aT;have Hl:(o1 w.T a)[t]? =some b:=(Bs w.T a).get aj;refine MK (d:=d) cv.ok.au cv.ok.yD Hl λv bn ae fo cC bf bR=> ?_;have d9:=cv.ok.h8 fo cC (Bs _ b)<|cv.ok.dy.FY Hl;refine aq u v _ _ (cv.trans d9) ((Bs _ b).get bh) bf ((gp cv.ok.dy d9.pre<|ai Option.isSome bh).trans<|M3 Z.G W.dy aT bh a6) ((M3 Z.G cv.ok.dy Hl bf bR).trans<|gp W.dy cv.pre<|ai Option.isSome aj) (λq=>(a6 q).1) (λq=>(bR q).1) (λe=>go λk=>k _ (bN bw) _ W.k.bz.c5 _ _ Y _ cv.ok.k.bz.c5 _ _ ae _<|cY e) λn x aU S c=> ?_;have a1:cG (bk<|d+3) Dd.body (ck [.L w.Q.q,J s,J t]) w.C=some (.ret x,aU,S):=gu (eB<|dk λk=>k _<|bN bw)<|gu (eB (dk λk=>k _ W.k.bz.c5 _ _ Y))<|gu (eB (dk λk=>k _ cv.ok.k.bz.c5 _ _ ae))<|gu (eB (dk λk=>k _ (bN n))) c;exact(su (np:=3) rfl rfl).trans<|cF a1 rfl
def Hm(W:cb Z ex (z+e) w)(he:s=0->1<=e)(aT:w.T[s]? =some a)(aj:w.T[t]? =some b)(cs:hb (aE w.T s))(eJ:hb (aE w.T t))(n8:∀c bG,a0 a2 (d+5) 40 [.L w.Q.q,J s,J t] w.C=some (.bool c,bG.C)->iS Z ex z w (aE w.T s) (aE w.T t) c bG->bG.r.tr=w.r.tr->(w.r.aM≠3->lZ w.r.aM (aE w.T s) (aE w.T t) c)->R)(aq:∀u v aw cz,cB Z ex z w {w with C:=aw,T:=cz}->cz[u]? =some (ct a)->cz[v]? =some (ct b)->aE cz u=aE w.T s->aE cz v=aE w.T t->u≠v->(w.r.aM=3->(ct a).val=false/\(ct b).val=false)->(w.r.aM≠3->abb w.r.aM u v (ct a) (ct b))->(∀{y:I×St},a0 a2 (d+4) 41 [.L w.Q.q,J u,J v] aw=some y->a0 a2 (d+5) 40 [.L w.Q.q,J s,J t] w.C=some y)->R):R:=by
 have iy:∀{bG:gB},a0 a2 (d+5) 40 [.L w.Q.q,J s,J t] w.C=some (.bool true,bG.C)->cB Z ex z w bG->bG.r.tr=w.r.tr->(w.r.aM≠2->iR Z.P (aE w.T s) (aE w.T t)->bG.r.ns=w.r.ns)->(w.r.aM=3->aE w.T s=aE w.T t)->(w.r.aM≠2->∀x∈aE w.T s,n6 w.r.aM x<|aE w.T t)->(aE w.T s≠[]->∃x∈aE w.T s,n6 w.r.aM x<|aE w.T t)->R:=λh O tr cl cS Y ae=>n8 true _ h ⟨O,nofun,λm B=>.inl<|cS m▸.refl,λB=>nofun,λB=>⟨λB B B=>rfl,λx e v=>(ae<|e▸List.cons_ne_nil _ _).elim λqF q=>q.2.elim λy p=>absurd (bT (e▸q.1)▸p.2) (v y p.1).1,λB B=>rfl⟩,cl⟩ tr λB=>.iy Y ae;have same:∀{bG:gB},a0 a2 (d+5) 40 [.L w.Q.q,J s,J t] w.C=some (.bool true,bG.C)->cB Z ex z w bG->bG.r=w.r->aE w.T s=aE w.T t->R:=λh O vd c=>have v:∀x∈aE w.T s,n6 w.r.aM x (aE w.T t):=λx e=>⟨x,c▸e,.inl rfl⟩
  iy h O (ai eL.tr vd) (λB B=>ai eL.ns vd) (λB=>c) (λB=>v) λn=>(ve _ n).imp λx h=>⟨h,v x h⟩
 by_cases st:s=t
 ·subst st;exact same Ph ((cB.refl W).gg<|cT _ _) rfl rfl
 ·refine Pi (d:=d+1) W aT aj st λu v aw cz O bD aR gC c3 B B aC ag=> ?_;have bV:=O.gg<|cT z e;by_cases jw:u=v
  ·exact same (bG:={w with C:=aw,T:=cz}) (aC jw) bV rfl<|bu gC<|(ai (aE cz) jw).trans c3
  have c:=@ag jw;have W1:cb Z ex (z+e) {w with C:=aw,T:=cz}:=O.ok;have G:=W1.cX;have jd:hb (aE cz u):=gC.symm▸cs;have iU:hb (aE cz v):=c3.symm▸eJ;have X:=W1.k.bz;have a1:=W1.au;by_cases bl:w.r.aM=3
  ·have cW:a0 a2 (d+5) 40 [.L w.Q.q,J s,J t] w.C=some (.bool false,aw)->(ct a).val=true\/(ct b).val=true->R:=λh k=>n8 false {w with C:=aw,T:=cz} h ⟨bV,λB=>⟨rfl,rfl⟩,λB=>nofun,λB B q=>by
    rw[<-gC,<-c3]at q;exact k.elim (λk=>Pg G bD aR jp jp jw k q) λk=>Pg G aR bD jp jp (Ne.symm jw) k q.symm,λm=>absurd bl m,λB B=>rfl⟩ rfl λm=>absurd bl m
   cases hL:(ct a).val with
   |true=>exact cW (c<|hp λk=>k _ X.d7 _ (cY (b:=3) bl) _ X.c5 _ a1.cy _ a1.cJ _ (bN (b:=13) (jd.cW G).1) _ (bN (b:=13) (iU.cW G).1) _ (a1.row bD) _ cM _<|ek<|fz [1,2,3,4,5] hL)<|.inl hL
   |false=>cases lm:(ct b).val with
    |true=>exact cW (c<|hp λk=>k _ X.d7 _ (cY (b:=3) bl) _ X.c5 _ a1.cy _ a1.cJ _ (bN (b:=13) (jd.cW G).1) _ (bN (b:=13) (iU.cW G).1) _ (a1.row bD) _ cM _ (ek<|fz [1,2,3,4,5] hL) _ (a1.row aR) _ cM _<|ek<|fz [1,2,3,4,5] lm)<|.inr lm
    |false=>exact aq u v aw cz bV bD aR gC c3 jw (λB=>⟨hL,lm⟩) (λm=>absurd bl m) λao=>c<|hp λk=>k _ X.d7 _ (cY (b:=3) bl) _ X.c5 _ a1.cy _ a1.cJ _ (bN (b:=13) (jd.cW G).1) _ (bN (b:=13) (iU.cW G).1) _ (a1.row bD) _ cM _ (ek<|fz [1,2,3,4,5] hL) _ (a1.row aR) _ cM _ (ek<|fz [1,2,3,4,5] lm) _ _ ao
  have gU:u=0->1<=e:=λq=>he (Hj W.cX aT (Hi W.cX aT (i:=0) rfl rfl<|gC▸q▸kN G (G.at (i:=0) rfl) (by decide) (by decide) rfl▸bp)<|.inl rfl);have CB:∀{i:Int},decide (i=1)=false->v≠0->a0 a2 (d+4) 47 [.L w.Q.q,J u,J v] aw=some (.int i,aw)->((∀{r:I×St} {aU:bS},cG (bk<|d+4) [.ret<|.and (.aK .lt (.E 4)<|U 0)<|.a5 41 [(.E 0),(.E 1),(.E 2)]] (ar (ar (ar (ck [.L w.Q.q,J s,J t]) 1<|J u) 2<|J v) 4<|.int i) aw=some (.ret r.1,aU,r.2)->a0 a2 (d+5) 40 [.L w.Q.q,J s,J t] w.C=some r)->
    (w.r.aM=2->v≠2->(∀y∈aE w.T t,∀x∈aE w.T s,¬n5 2 y x)\/(u≠1/\((ct b).kind=6\/(ct a).kind=6\/¬n5 2 (ct b) (ct a))))->R)->R:=λ{i} ah iM h q=>by
   by_cases cU:w.r.aM=2
   ·by_cases ee:v=2
    ·exact q (λe=>c (gu (eB<|dk λk=>k _ X.d7 _<|bN (b:=3) bl)<|gu (eB (dk λk=>k _ _ h))<|gu (eB (dk λk=>k _ (gY ah) _ X.d7 _ (cY (b:=2) cU) _ (ke (b:=2) ee))) e)) λB n=>absurd ee n
    ·have st:∀{j:Int},decide (j=1)=false->a0 a2 (d+4) 47 [.L w.Q.q,J v,J u] aw=some (.int j,aw)->∀{r:I×St} {aU:bS},cG (bk<|d+4) [.ret<|.and (.aK .lt (.E 4)<|U 0)<|.a5 41 [(.E 0),(.E 1),(.E 2)]] (ar (ar (ar (ck [.L w.Q.q,J s,J t]) 1<|J u) 2<|J v) 4<|.int i) aw=some (.ret r.1,aU,r.2)->a0 a2 (d+5) 40 [.L w.Q.q,J s,J t] w.C=some r:=λ{j} aQ ae {r aU} e=>c (gu (eB<|dk λk=>k _ X.d7 _<|bN (b:=3) bl)<|gu (eB (dk λk=>k _ _ h))<|gu (eB (dk λk=>k _ (gY ah) _ X.d7 _ (cY (b:=2) cU) _ (kd (b:=2) ee) _ _ ae _ (gY aQ))) e);exact Pd (d:=d) W1 (λq=>absurd q iM) bl aR bD jp jp iU jd (Ne.symm jw) c3 gC (λbo ae d9 tr B aS=>iy (bG:=bo) (c<|hp λk=>k _ X.d7 _ (bN (b:=3) bl) _ _ h _ (gY ah) _ X.d7 _ (cY (b:=2) cU) _ (kd (b:=2) ee) _ _ ae _<|gY rfl) (O.trans d9) tr (λn=>absurd cU n) (λm=>absurd m bl) (λn=>absurd cU n) λB=>(w7 G aR ee).elim λy a8=>(aS y<|c3▸a8).imp λx ac=>⟨ac.1,y,c3▸a8,.inr<|.inr ⟨cU,cU▸ac.2⟩⟩)
      (λae n B B=>q (st rfl ae) λB B=>.inl λy a8 x ac=>cU▸(n y a8 x ac).1) λae B B B B fy B mA=>q (st rfl ae) λB B=>.inr ⟨fy,mA.imp_right λk=>k.imp_right λk=>cU▸k.2.1⟩
   ·exact q (λe=>c (gu (eB<|dk λk=>k _ X.d7 _<|bN (b:=3) bl)<|gu (eB (dk λk=>k _ _ h))<|gu (eB (dk λk=>k _ (gY ah) _ X.d7 _ (bN (b:=2) cU))) e)) λm=>absurd m cU
  have abc:ct a≠ct b:=λq=>jw<|nN G.aG bD<|q▸aR;refine Pd (d:=d) W1 gU bl bD aR jp jp jd iU jw gC c3 (λbo h d9 tr cl aS=>iy (bG:=bo) (c<|hp λk=>k _ X.d7 _ (bN (b:=3) bl) _ _ h _<|gY rfl) (O.trans d9) tr (λB f=>cl.elim id λn=>absurd f n) (λm=>absurd m bl) (λB x ac=>(aS x ac).imp λy q=>⟨q.1,.inr<|.inl q.2⟩) λn=>(ve _ n).imp λx ac=>⟨ac,(aS x ac).imp λy q=>⟨q.1,.inr<|.inl q.2⟩⟩) (λh cW bw alt=> ?_) λh e8 fy e1 iM ez ee mA=> ?_
  ·have iM:v≠0:=λq=>(ve _ bw).elim λx ac=>(cW x ac (cu "any")<|c3▸q▸kN G (G.at (i:=0) rfl) (by decide) (by decide) rfl▸bp).1<|.inl rfl;refine CB rfl iM h λst jE=> ?_;have w8:∀x∈aE w.T s,¬n6 w.r.aM x (aE w.T t):=λx ac aL=>aL.elim λy q=>absurd q.2 λjT=>by
    have n:=cW x ac y q.1;refine jT.elim n.2.1 λjT=>jT.elim n.1 λjT=> ?_;have ee:v≠2:=λp=>fO (p▸c3▸q.1:y∈aE cz 2);have e1:u≠2:=λp=>fO (p▸gC▸ac:x∈aE cz 2);refine(jE jT.1 ee).elim (λp=>p y q.1 x ac jT.2) λp=> ?_;refine alt.elim (λk=>p.2.elim k.2 λp=>p.elim k.1 λp=>p ?_) λk=>k.elim (λk=>mE (bu k jT.1) rfl) λk=>k.elim p.1 ee;rw[<-gC,kN G bD k.1 e1 jp]at ac;have a8:=q.1;rw[<-c3,kN G aR k.2 ee jp]at a8;exact bT ac▸bT a8▸jT.2
   refine n8 false {w with C:=aw,T:=cz} (st (r:=(.bool false,aw))<|hp λk=>k _<|lH rfl) ⟨bV,λB=>⟨rfl,rfl⟩,λB=>nofun,λm=>absurd m bl,λB=>⟨λx e aL=>absurd aL<|w8 x<|e▸bp,λB B B=>rfl,λB f=> ?_⟩,λB B=>rfl⟩ rfl λB=>.cW bw w8
   ·exact((ve _ bw).elim λx ac=>(f x ac).elim λy q=>absurd q.2.aS λo=>o.elim (cW x ac y q.1).2.1 λo=>(cW x ac y q.1).2.2 ⟨o.be,o.bF⟩)
  ·refine CB rfl iM h λst jE=>aq u v aw cz bV bD aR gC c3 jw (λm=>absurd m bl) (λB=>⟨e8,fy,e1,iM,ez,ee,?_⟩) λ{y} ao=>st<|hp λk=>k _ (lH rfl) _ _ ao;by_cases dh:(ct a).kind=6
   ·exact .inl dh
   by_cases da:(ct b).kind=6
   ·exact .inr<|.inl da
   have k:=(mA.resolve_left dh).resolve_left da;exact .inr<|.inr ⟨k.1,λjT=>jT.elim abc λjT=>jT.elim k.2.1 λjT=>(jE jT.1 λq=>dh<|ee q).elim (λp=>p _ (c3▸kN G aR da (λq=>dh<|ee q) jp▸bp) _ (gC▸kN G bD dh e1 jp▸bp) jT.2) λp=>p.2.elim da λp=>p.elim dh λp=>p jT.2,k.2.2⟩
end
end
section
noncomputable def CC(q:Nat):Nat->Option I:=ar (λB=>none) 45<|.L<|q+1
noncomputable def l0(q:Nat)(h m:I):Nat->Option I:=ar (ar (ar (ar (ar (ar (ar (ar (ar (ar (ar (ar (ar (λB=>none) 22 h) 30 m) 46<|.L<|q+1) 6<|.L<|q+2) 25<|.L<|q+3) 54<|.L<|q+4) 44<|.L<|q+5) 15<|.int 0) 37<|.L<|q+6) 52<|.bool true) 55 .none) 29<|.str<|aa "") 7<|.int 0
noncomputable def l1(q:Nat)(F:Nat->Option I):St:=.cO 3 F::[.dict [],.dict [],.dict [],.list [],.list [],.cO 0<|CC<|q+6,.list []]
noncomputable def ti(m:Nat)(n3:Bool):eL:=⟨m,[],[],[],0,[],n3,aa ""⟩
noncomputable def n9:List Nat:=[0,2,3,4,5,6,7]
section
variable{a b:af}{l:St}{x:b5}{F:Nat->Option I}{Q:fp}{n3:Bool}
def Pj(W:cb Z ex z w)(aT:w.T[s]? =some a)(aj:w.T[t]? =some b)(h:s=13\/t=13)(aq:∀aw cz,a0 a2 (d+5) 40 [.L w.Q.q,J s,J t] w.C=some (.bool true,aw)->cB Z ex z w {w with C:=aw,T:=cz}->R):R:=by
 by_cases st:s=t
 ·exact aq w.C w.T (st▸Ph)<|.refl W
 ·refine Pi (d:=d+1) W aT aj st λu v aw cz O bD aR B B abd qP aC ag=> ?_;by_cases jw:u=v
  ·exact aq aw cz (aC jw) O
  have X:=O.ok.k.bz;have a1:=O.ok.au;have ao:u=13\/v=13:=h.imp (λh=>(abd<|(jv W.cX (i:=13) rfl aT).mpr h▸rfl).trans h) λh=>(qP<|(jv W.cX (i:=13) rfl aj).mpr h▸rfl).trans h;by_cases bl:w.r.aM=3
  ·by_cases Hn:u=13
   ·exact aq aw cz (ag jw<|hp λk=>k _ X.d7 _ (cY (b:=3) bl) _ X.c5 _ a1.cy _ a1.cJ _<|cY (b:=13) Hn) O
   ·exact aq aw cz (ag jw<|hp λk=>k _ X.d7 _ (cY (b:=3) bl) _ X.c5 _ a1.cy _ a1.cJ _ (bN (b:=13) Hn) _<|cY (b:=13)<|ao.resolve_left Hn) O
  ·exact aq aw cz (ag jw<|hp λk=>k _ X.d7 _ (bN (b:=3) bl) _ _ (go λr=>r _ _ (Pa (d:=d+2)<|.inr<|ao.elim (λq=>.inr<|.inr q) .inl) _<|kc rfl) _<|gY rfl) O
def abe(ab:0<C.length):sr (d+2) 0 [] C=some (.L C.length,C++[.cO 0<|CC C.length,.list []]):=yX rfl<|yY (np:=1) rfl rfl<|ff (l:=[]) rfl ab rfl (lk rfl) rfl
def Pk{h m:I}(ab:0<C.length):sr (d+4) 3 [h,m] C=some (.L C.length,C++l1 C.length (l0 C.length h m)):=by have fL:∀{H:bS} {l:St} {x:b5},bq (bk<|d+2) (.l3 0 []) H (C++x::l)=some (.L<|C.length+1+l.length,C++x::(l++[.cO 0<|CC<|C.length+1+l.length,.list []])):=λ{H l x}=>(abe (d:=d) (C:=C++x::l)<|V Gv<|Nat.lt_add_right _<|pI _).trans (by rw[Gv,iG];rfl);exact yX rfl<|yY (np:=3) rfl rfl<|ff (l:=[]) rfl ab rfl (fJ rfl)<|ff rfl ab rfl (fJ rfl)<|ff rfl ab rfl (lk rfl)<|ff rfl ab rfl (lk rfl)<|ff rfl ab rfl (lk rfl)<|ff rfl ab rfl (lk rfl)<|ff rfl ab rfl (lk rfl)<|ff rfl ab rfl lK<|ff rfl ab rfl fL<|ff rfl ab rfl lK<|ff rfl ab rfl lK<|ff rfl ab rfl lK<|ff rfl ab rfl lK rfl
def CD{q a:Nat}(h:a∈n9.map (q+·)):q<=a:=(e3 h).elim λi h=>h.2▸cT _ _
def Pl{q gI rule:Nat}{G:Nat->Option I}(ir:u2 A ⟨q,q+4,gI,rule⟩ (ti m n3) .none F)(aC:A.cn<q)(Y:A.cn<gI)(ae:A.cn<rule)(aG:(n9.map (q+·)++[gI,rule]).Nodup)(aj:∀i∈n9,C[q+i]? =(l1 q F)[i]?)(aH:C[gI]? =some (.dict [(.int 5,.L rule)]))(an:C[rule]? =some (.cO 5 G))(qp:G 21=none):bE A C ⟨q,q+4,gI,rule⟩ (ti m n3) [] .none:=
 have b {i:Nat} (h:List.elem i n9):C[q+i]? =(l1 q F)[i]? :=aj i<|List.elem_iff.mp h
 ⟨λa aT=>(qz (s:=n9.map (q+·)) (t:=[gI,rule]).mp aT).elim (λh=>c7 aC<|CD h)<|uB Y ae a,aG,F,CC<|q+6,G,ir,⟨rfl,rfl,rfl⟩,qp,b (i:=0) rfl,b (i:=2) rfl,b (i:=3) rfl,b (i:=4) rfl,b (i:=5) rfl,b (i:=6) rfl,b (i:=7) rfl,aH,an,trivial⟩
def abf{q:Nat}:(n9.map (q+·)).Nodup:=sU (by decide) λB B B B h=>Nat.add_left_cancel h
def cb.abg(W:cb Z ex z w)(bl:w.r.aM≠3)(aq:∀aw p,a0 a2 (d+6) 37 [.L w.Q.q] w.C=some (.L p.1.q,aw)->cB Z ex z w {w with C:=aw,eV:=some p}->R):R:=by
 have X:=W.k.bz;cases h:w.eV with
 |some p=>have a:=X.GP;rw[h]at a;exact aq w.C p (go λk=>k _ X.d7 _ (bN (b:=3) bl) _ a _ rfl _ a) (by rw[<-h];exact .refl W)
 |none=>
  have a:=X.GP;rw[h]at a;have ab:=lN<|X.lt bp;have dB:=X.push<|l1 w.C.length<|l0 w.C.length (.L Z.A.cn)<|.int 3;have be:jZ dD (w.C++l1 w.C.length (l0 w.C.length (.L Z.A.cn)<|.int 3)) 46 (.L w.Q.gI) (.L w.C.length)=some (w.C++l1 w.C.length (ar (l0 w.C.length (.L Z.A.cn)<|.int 3) 46<|.L w.Q.gI)):=(wd ea (dd ab) rfl).trans<|ai some Gu;have bF:jZ dD (w.C++l1 w.C.length (ar (l0 w.C.length (.L Z.A.cn)<|.int 3) 46<|.L w.Q.gI)) 52 (.bool false) (.L w.C.length)=some (w.C++l1 w.C.length (ar (ar (l0 w.C.length (.L Z.A.cn)<|.int 3) 46<|.L w.Q.gI) 52<|.bool false)):=(wd ea (dd ab) rfl).trans<|ai some Gu;refine(X.push<|l1 w.C.length<|ar (ar (l0 w.C.length (.L Z.A.cn)<|.int 3) 46<|.L w.Q.gI) 52<|.bool false).aag (.L w.C.length) λaw aJ f fo=> ?_;have f0:=bx.push w.C (l1 w.C.length<|ar (ar (l0 w.C.length (.L Z.A.cn)<|.int 3) 46<|.L w.Q.gI) 52<|.bool false) [w.Q.q];have lt:∀a∈w.Q.all,a<w.C.length:=λa=>X.lt;have ge:∀a∈fp.iz ⟨w.C.length,w.C.length+4,w.Q.gI,w.Q.rule⟩,w.C.length<=a:=λa h=>CD (q:=w.C.length) (va (l₂:=n9.map (w.C.length+·)) (.cons_cons _<|.cons_cons _<|.cons_cons _<|.cons_cons _<|.cons_cons _<|.cons _<|.cons_cons _ .slnil) h);have abh:bE Z.A aw ⟨w.C.length,w.C.length+4,w.Q.gI,w.Q.rule⟩ (ti 3 false) [] .none:=fo.eb λB B G B B qp c=>Pl (F:=ar (ar (l0 w.C.length (.L Z.A.cn)<|.int 3) 46<|.L w.Q.gI) 52<|.bool false) (G:=G) ⟨rfl,rfl,rfl,rfl,rfl,rfl,rfl,rfl,rfl,rfl,rfl,rfl,rfl,rfl,rfl,rfl,rfl,rfl⟩ (ec (X.gt 0 rfl)<|lt _ bp) (X.gt 7 rfl) (X.gt 8 rfl) (kU.mpr ⟨abf,X.aG.sublist<|List.drop_sublist 7 w.Q.all,λa aT b aj e=>lv (CD aT)<|e▸lt b (List.mem_of_mem_drop (i:=7) aj)⟩)
   (λi ah=>(f.same _ (V er<|Nat.add_lt_add_left ((by decide:∀i∈n9,i<8) i ah) _)<|fv<|dd<|c7 (lt _ bp)<|cT _ _).trans<|V (wn<|cT _ _)<|ai (λi=>_)<|Nat.add_sub_cancel_left (n:=w.C.length) (m:=i)) c.2.2.2.2.2.2.2.1 c.2.2.2.2.2.2.2.2.1 qp
  have nm:∀a∈[w.Q.gI,w.Q.rule],a∉w.Q.iz:=λa h q=>(kU.mp (X.aG:(w.Q.all.take 7++[w.Q.gI,w.Q.rule]).Nodup)).2.2 a (va (l₂:=w.Q.all.take 7) (.cons_cons _<|.cons_cons _<|.cons_cons _<|.cons_cons _<|.cons_cons _<|.cons _<|.cons_cons _ .slnil) q) a h rfl;have kn:cb Z ex z {w with C:=aw,eV:=some (⟨w.C.length,w.C.length+4,w.Q.gI,w.Q.rule⟩,ti 3 false)}:=⟨W.au.keep (f0.trans f) λa B l q=>lv l<|bT q▸X.gt 0 rfl,W.dy,{W.k with bz:=fo},λp e=>by
   obtain rfl:=br e;exact⟨⟨abh,.inr (.inr (.inl rfl)),.nil,λB=>fO,λB=>fO,.nil,λB=>fO,λB=>fO,λB=>fO,rfl,jB _⟩,rfl,⟨rfl,rfl,rfl,rfl⟩,λa h q=>lv (ge a q) (lt a h),λa h q=>(qz (s:=n9.map (w.C.length+·)) (t:=[w.Q.gI,w.Q.rule]).mp h).elim (λh=>lv (CD h) (lt a (u9 a q))) λh=>nm a h q⟩⟩
  exact aq aw (⟨w.C.length,w.C.length+4,w.Q.gI,w.Q.rule⟩,ti 3 false) (go λk=>k _ X.d7 _ (bN (b:=3) bl) _ a _ rfl _ _ (go λk=>k _ X.c5 _ _ (Pk (d:=d) ab) _ dB.GN _ be _ bF) _ aJ _ fo.GP) ⟨kn,.refl _,⟨(f0.trans f).len,λa an n=>(f0.trans f).same a an λq=>n<|rG a<|bT q▸bp,λx ac=>(cR ac).elim (λe=>.inl<|e▸bp) λac=>(cR ac).elim (λe=>.inl<|e▸bQ _ bp) λac=>(gc ac).elim (λh=>.inl<|rG x h) λh=>.inr<|ge x h⟩,rfl,rfl,⟨[],(ew _).symm,λB=>nofun⟩,⟨[],(ew _).symm⟩,⟨[],(ew _).symm,λB=>rfl⟩,λm=>absurd m bl⟩
end
end
section
open PySem.Builtin (bitAnd bitOr)
def qs(D:Nat)(Z:hG):Prop:=∀w u v,w.r.aM=3->cb Z [] 0 w->Top w.r->iC w.T (u,v)->hb (aE w.T u)->hb (aE w.T v)->∃b az,a0 a2 D 40 [.L w.Q.q,J u,J v] w.C=some (.bool b,az.C)/\w1 Z w (aE w.T u) (aE w.T v) b az
def Pm{f g:Nat}(h:bitAnd (f:Int) (m:Int)=bitAnd (g:Int) (m:Int))(ao:m&&&k=k):bitAnd (f:Int) (k:Int)=bitAnd (g:Int) (k:Int):=by have h:f&&&m=g&&&m:=k0 h;have e:∀x:Nat,x&&&k=(x&&&m)&&&k:=λx=>(ai (x&&&·) ao).symm.trans (Nat.and_assoc _ _ _).symm;exact ai Int.ofNat ((e f).trans ((ai (·&&&k) h).trans (e g).symm))
noncomputable def Pn(i:Nat):dA:=Id.body.getD i .fA
section
variable{n:Nat}{a b:af}{x y:Bool}
def ix.dm(h:ix (gz Z.T0 p) (gz Z.T0 q)):Cn p q:=⟨Pm (m:=25) (k:=24) h.uF rfl,h.dG,h.rh,ai (λi:Int=>decide<|i≠0)<|Pm (m:=25) (k:=1) h.uF rfl⟩
def cb.same(il:qs (d+5) Z)(W:cb Z ex z w)(bl:w.r.aM≠3)(aR:iC w.T (s,t))(cs:hb (aE w.T s))(eJ:hb (aE w.T t))(aq:∀b az,a0 a2 (d+7) 32 [.L w.Q.q,J s,J t] w.C=some (.bool b,az.C)->cB Z ex z w az->az.r=w.r->(cK Z.P (aE w.T s) (aE w.T t)->b)->R):R:=by
 by_cases st:s=t
 ·exact aq true w (go λk=>k _<|cY st) (.refl W) rfl λB=>rfl
 ·refine W.abg (d:=d) bl λaw p Y cv=> ?_;have W1:=cv.ok;have t:=W1.eV p rfl;refine(il ⟨aw,w.T,p.1,p.2,none⟩ s _ t.2.1 ⟨W1.au,W1.dy,t.1,λB=>bj⟩ t.2.2.1 aR cs eJ).elim λb h=>h.elim λbo h=> ?_;have df:=h.2;have e:bo.eV=none:=df.pk t.2.1;have eq:bo.Q.q=p.1.q:=(ai fp.q df.sE).trans rfl;have cW:∀a∈w.Q.all,a∉hZ Z ⟨aw,w.T,p.1,p.2,none⟩:=λa aT q=>(cR q).elim (λe=>W1.k.uW W1.au a aT<|e▸bp) λq=>(cR q).elim (λe=>W1.k.uW W1.au a aT<|e▸bQ _ bp) λq=>(gc q).elim (t.2.2.2.1 a aT) b4;have u4:∀a∈hZ Z ⟨aw,w.T,p.1,p.2,none⟩,a∈hZ Z {w with C:=aw,eV:=some p}:=λa q=>(cR q).elim (λe=>e▸bp) λq=>(cR q).elim (λe=>e▸bQ _ bp) λq=>bQ _<|bQ _<|(gc q).elim (i1 _) fO;have mt:∀a∈bo.Q.iz,a∈hZ Z ⟨aw,w.T,p.1,p.2,none⟩\/aw.length<=a:=λa q=>df.bU.own a<|rG a q;have ih:bE Z.A bo.C w.Q w.r w.r.tr (.L bo.Q.q):=eq▸W1.k.bz.keep (ms:=hZ Z ⟨aw,w.T,p.1,p.2,none⟩) ⟨df.bU.len,df.bU.same⟩ cW;have be:∀a∈w.Q.all,a∉bo.Q.iz:=λa aT q=>(mt a q).elim (cW a aT)<|Nat.not_le.mpr<|W1.k.bz.lt aT;have kn:cb Z ex z ⟨bo.C,bo.T,w.Q,w.r,some (bo.Q,bo.r)⟩:=⟨df.ok.au,df.ok.dy,{W1.k.h8 (W1.k.bz.keep (ms:=hZ Z ⟨aw,w.T,p.1,p.2,none⟩) ⟨df.bU.len,df.bU.same⟩ cW) W1.dy df.pre with bz:=ih},λqC e'=>by
   obtain rfl:=br e';exact⟨(ai kM e▸df.ok.k:gn Z [] 0 bo.C bo.T bo.Q bo.r (kM none)),df.aM.trans t.2.1,df.top (.inl t.2.1),be,λa aT q=>(O3 (n:=bo.Q.dZ) (df.sE▸aT:a∈({p.1 with dZ:=bo.Q.dZ}:fp).all)).elim (λe=>be a (u9 a q) (e▸dL (i:=3) rfl)) λh=>t.2.2.2.2 a h q⟩⟩
  refine aq b ⟨bo.C,bo.T,w.Q,w.r,some (bo.Q,bo.r)⟩ (go λk=>k _ (bN st) _ _ Y _ t.1.bz.pj _ _<|go λk=>k _ _ h.1) (cv.trans ⟨kn,df.pre,⟨df.bU.len,λa an n=>df.bU.same a an λq=>n<|u4 a q,λx ac=>(cR ac).elim (λe=>.inl<|e▸bp) λac=>(cR ac).elim (λe=>.inl<|e▸bQ _ bp) λac=>(gc ac).elim (λh=>.inl<|rG x h) λh=>(mt x h).imp_left<|u4 x⟩,rfl,rfl,⟨[],(ew _).symm,λB=>nofun⟩,⟨[],(ew _).symm⟩,⟨[],(ew _).symm,λB=>rfl⟩,λm=>absurd m bl⟩) rfl (df.w2.1 t.2.1).mpr
def Po(il:qs (d+5) Z)(W:cb Z ex (z+1) w)(bl:w.r.aM≠3)(aR:iC w.T (s,t))(cs:hb (aE w.T s))(eJ:hb (aE w.T t))(aq:∀az,a0 a2 (d+8) 44 [.L w.Q.q,J s,J t] w.C=some (.none,az.C)->cB Z ex z w az->(cK Z.P (aE w.T s) (aE w.T t)->az.r.ns=w.r.ns)->R):R:=by
 have aP:=OG (d:=d+6) W.k.bz;cases an:w.r.n3&&decide (w.r.aM=1)with
 |false=>rw[an]at aP;exact aq w (go λk=>k _ _ aP) ((cB.refl W).gg<|j1 _) λB=>rfl
 |true=>
  rw[an]at aP;refine W.same (d:=d) il bl aR cs eJ λb bG Y cv aD aj=> ?_;cases b with
  |true=>exact aq bG (go λk=>k _ _ aP _ (kd (b:=13) (cs.cW W.cX).1) _ (kd (b:=13) (eJ.cW W.cX).1) _ W.k.bz.Ox _ _ Y) (cv.gg<|j1 _) λB=>ai eL.ns aD
  |false=>exact cv.ok.Cr (d:=d+5) (V aD bl) (c:=3) λbo ae d9=>aq bo (go λk=>k _ _ aP _ (kd (b:=13) (cs.cW W.cX).1) _ (kd (b:=13) (eJ.cW W.cX).1) _ W.k.bz.Ox _ _ Y _ (eF (ai fp.q cv.q) cv.ok.k.bz.ze) _ _<|eF (ai fp.q cv.q) ae) (cv.trans d9.1) λq=>Bool.noConfusion<|aj q
def abi(il:qs (d+5) Z)(W:cb Z ex (z+2) w)(bl:w.r.aM≠3)(aR:iC w.T (s,t))(cs:hb (aE w.T s))(eJ:hb (aE w.T t))(aq:∀az,a0 a2 (d+9) 45 [.L w.Q.q,J s,J t,.bool x,.bool y] w.C=some (.none,az.C)->cB Z ex z w az->(x=y->cK Z.P (aE w.T s) (aE w.T t)->az.r.ns=w.r.ns)->R):R:=by
 cases y with
 |true=>exact aq w rfl ((cB.refl W).gg<|cT _ _) λB B=>rfl
 |false=>cases x with
  |false=>exact Po (d:=d) il (W.gg (eM:=z+1)<|j1 _) bl aR cs eJ λaz h O e=>aq az (go λk=>k _ _ h) O λB=>e
  |true=>exact W.Cr (d:=d+6) bl (c:=4) λbG Y cv=>Po (d:=d) il cv.1.ok (V cv.1.same bl) ⟨cv.1.pre.some aR.1,cv.1.pre.some aR.2⟩ ((gp W.dy cv.1.pre aR.1).symm▸cs) ((gp W.dy cv.1.pre aR.2).symm▸eJ) λaz h O e=>aq az (go λk=>k _ W.k.bz.ze _ _ Y _ _<|eF (ai fp.q cv.1.q) h) (cv.1.trans O) nofun
def Pp(W:cb Z ex (z+1) w)(bl:w.r.aM≠3)(a9:mm w.T Z.a1 s a eS)(hn:e9 q.name)(h:lV eS q.name=none)(aq:∀c az,a0 a2 (d+4) 92 [.L w.Q.q,J s,cm q] w.C=some (.bool c,az.C)->cB Z ex z w az->(gk q.b0=false->c=false)->R):R:=aaz (d:=d) W.k.bz W.au a9.row W.k.te hn (W.k.G2 W.lX) λc S m n Y X f hm qL h0 B=>aq c {w with C:=S,r:={w.r with miss:=m,ns:=n}} (go λk=>k _ W.k.bz.c5 _ W.au.cy _ W.k.bz.c5 _ nZ _ _ (dH (a9.GY (d:=d) W.au hn)<|ai (λo=>(yp o,w.C)) h) _ rfl _ _ Y) (W.OS bl X f hm qL) h0
end
end
section
section
variable{n:Nat}{a b:af}{x y:Bool}
def abj(il:th false (d+8) n Z)(zo:qs (d+5) Z)(W:cb Z [] (z+3) w)(X:rH n w.r)(bl:w.r.aM≠3)(a9:mm w.T Z.a1 s a eS)(ab:Bv Z.T0 p/\∃o∈Z.T0,p∈o.gP)(aC:Bv Z.T0 q/\∃o∈Z.T0,q∈o.gP)(h:lV eS q.name=some p)(aq:∀c az,a0 a2 (d+10) 92 [.L w.Q.q,J s,cm q] w.C=some (.bool c,az.C)->cB Z [] z w az->(w.r.aM≠2->ix (gz Z.T0 p) (gz Z.T0 q)/\cK Z.P (fK Z.T0 p) (fK Z.T0 q)->c/\az.r.ns=w.r.ns)->R):R:=
 ab.2.elim λo aA=>aC.2.elim λo' kY=>by
  have Ho:a0 a2 (d+9) 70 [.L Z.A.cn,J s,.str q.name] w.C=some (cm p,w.C):=dH (a9.GY (d:=d+6) W.au aC.1.name)<|ai (λo=>(yp o,w.C)) h;refine aay (d:=d+6) (p:=p) (q:=q) W.k.bz W.au a9.row ab.1.dG (W.cX.iA a9.row).2 λe4 aw a6 f1 hm=> ?_;have cv:=W.tf f1;cases e4 with
  |false=>exact aq false {w with C:=aw} (go λk=>k _ W.k.bz.c5 _ W.au.cy _ W.k.bz.c5 _ nZ _ _ Ho false rfl _ _ a6) (cv.gg<|cT _ _) λB h=>b8<|hm h.1.dm
  |true=>
   refine cv.ok.wy (d:=d+4) aA.1 aA.2 λu bo bR d9 bf aF bF=> ?_;refine d9.ok.wy (d:=d+4) kY.1 kY.2 λv fx d4 oa eA cS s3=> ?_;have aF:aE fx.T u=fK Z.T0 p:=(gp d9.ok.dy oa.pre bF).trans aF;have bF:=oa.pre.some bF;have Hp:=(cv.trans d9).trans oa;have Pq:=Ct Z.G aA.1 aA.2;have Pr:=Ct Z.G kY.1 kY.2;have eA:fx.r=w.r:=eA.trans bf;have Hq:fx.r.aM≠3:=eA▸bl;refine(il fx (z+2) u v (co Hq) oa.ok (Hp.lim X) ⟨bF,s3⟩ (aF.symm▸Pq)<|cS.symm▸Pr).elim λc h=>h.elim λbH h=> ?_;have A:=h.2;rw[aF,cS]at A;have Ps:fx.Q.q=w.Q.q:=ai fp.q Hp.q;have ask:a0 a2 (d+9) 30 [.L w.Q.q,J u,J v] fx.C=some (.bool c,bH.C):=go λk=>k _ _<|eF Ps h.1;have bL:kB dD fx.C 5 (.L w.Q.q)=some (some 30):=eF Ps oa.ok.k.bz.pj;have pp:=Hp.trans A.out;have f6:bE Z.A bH.C w.Q bH.r bH.r.tr (kM bH.eV):=pp.q▸A.out.ok.k.bz;have cU:w.r.aM≠2->fx.r.aM≠2:=λm=>eA▸m;cases c with
   |false=>exact aq false bH (go λk=>k _ W.k.bz.c5 _ W.au.cy _ W.k.bz.c5 _ nZ _ _ Ho false rfl _ _ a6 _ _ bR _ _ d4 _ bL _ _ ask) (pp.gg<|cT _ _) λm h=>Bool.noConfusion<|(A.iT Hq).kK (cU m)<|.i9 h.2
   |true=>
    have Pt:bH.T[s]? =some a:=pp.pre.get a9.row;have G5:cr (bk<|d+9) (Pn 7) (ar (ar (ar (ar (ck [.L w.Q.q,J s,cm q]) 3<|.L Z.A.t) 4<|cm p) 5<|J u) 6<|J v) bH.C=some (.next,ar (ar (ar (ar (ck [.L w.Q.q,J s,cm q]) 3<|.L Z.A.t) 4<|cm p) 5<|J u) 6<|J v,bH.C):=by
     have aP:=OG (d:=d+8) f6;cases an:bH.r.n3&&decide (bH.r.aM=1)with
     |false=>exact dk λk=>k _ _<|gX aP an
     |true=>exact dk λk=>k _ _ (gX aP an) _ _ (go λk=>k _ f6.c5 _ A.out.ok.au.cy _ A.out.ok.au.cJ _ (A.out.ok.au.row Pt) _ cM _<|bN (b:=12)<|(by decide:∀k:Nat,k∈[1,2,3,4,6,8,9]->¬k=12) _<|kinds a)
    have fin:∀pq:gB,cr (bk<|d+9) (Pn 8) (ar (ar (ar (ar (ck [.L w.Q.q,J s,cm q]) 3<|.L Z.A.t) 4<|cm p) 5<|J u) 6<|J v) bH.C=some (.next,ar (ar (ar (ar (ck [.L w.Q.q,J s,cm q]) 3<|.L Z.A.t) 4<|cm p) 5<|J u) 6<|J v,pq.C)->cB Z [] z bH pq->(ii p.b0=ii q.b0->cK Z.P (fK Z.T0 p) (fK Z.T0 q)->pq.r.ns=bH.r.ns)->R:=λpq G6 zp j2=>aq true pq (gj [false,false,false,false,false,false,false,true,true] λk=>k _ W.k.bz.c5 _ W.au.cy _ W.k.bz.c5 _ nZ _ _ Ho false rfl _ _ a6 _ _ bR _ _ d4 _ bL _ _ ask _ _ _ G5 _ _ _ G6) (pp.trans zp) λm h=>⟨rfl,(j2 h.1.rh h.2).trans<|(A.clean (cU m)<|.i9 h.2).trans<|ai eL.ns eA⟩
    have hf:=Bj (d:=d+8) A.out.ok.au.fZ Pt;have bh:=sG (d:=d+8) (C:=bH.C) (p:=p);have bf:=sG (d:=d+8) (C:=bH.C) (p:=q);have qr:bH.r.aM≠3:=V A.out.same Hq;cases r0:a.d8 with
    |false=>have gC:=(gp oa.ok.dy A.out.pre bF).trans aF;have c3:=(gp oa.ok.dy A.out.pre s3).trans cS;exact abi (d:=d) zo A.out.ok qr ⟨A.out.pre.some bF,A.out.pre.some s3⟩ (gC.symm▸Pq.mN) (c3.symm▸Pr.mN) λpq dF zp j2=>fin pq (dk λk=>k _ _ (gX hf r0) _ _ bh _ _ bf _ _<|eF (ai fp.q pp.q) dF) zp<|gC▸c3▸j2
    |true=>
     cases Y:ii p.b0 with
     |false=>exact fin bH (dk λk=>k _ _ (gX hf r0) _ _<|gX bh Y) ((cB.refl A.out.ok).gg<|cT _ _) λB B=>rfl
     |true=>cases ae:ii q.b0 with
      |true=>exact fin bH (dk λk=>k _ _ (gX hf r0) _ _ (gX bh Y) _ _<|gX bf ae) ((cB.refl A.out.ok).gg<|cT _ _) λB B=>rfl
      |false=>exact(A.out.ok.gg (eM:=z+1)<|j1 _).Cr (d:=d+7) qr (c:=4) λpq dF zp=>fin pq (dk λk=>k _ _ (gX hf r0) _ _ (gX bh Y) _ _ (gX bf ae) _ f6.ze _ _<|eF (ai fp.q pp.q) dF) zp.1 λq=>b8<|bu ae<|bu q Y
end
end
section
def abk{α β:Type}(h:α->Bool)(g:α->β)(l:List α):l.filterMap (λp=>if h p=true then some (g p)else none)=(l.filter h).map g:=by
 induction l with
 |nil=>rfl
 |cons p l ay=>
  rw[vf,List.filterMap_cons];cases h p with
  |true=>exact ai (g p::·) ay
  |false=>exact ay
def abl{l:List ef}(h:∀p∈l,e9 p.name):I.iW (l.map λp=>I.str p.name)=true:=by
 induction l with
 |nil=>rfl
 |cons p l ay=>exact dJ (h p bp)<|ay λq aC=>h q<|bQ _ aC
def abm(h:C[a]? =some (.list l))(ac:I.key x)(an:I.iW l):l4 C x (.L a)=some (decide<|x∈l):=by
 show(match C[a]?with
  |some (b5.list l)=>if I.key x&&I.iW l then some (decide<|x∈l)else none
  |some (b5.dict l)=>if e2 l x then some (cD l x).isSome else none
  |_=>none)=_
 exact V h<|bg<|dJ ac an
noncomputable def vg(m s:Nat)(a:af):Bool:=decide (m≠2)||(decide (s=4)||decide (s=5)||a.bc)
noncomputable def abn(i:Nat):dA:=Ia.body.getD i .fA
section
variable{n f:Nat}{a b:af}
def abo:a0 a2 (d+1) 87 [v,x,y,(af.obj dO f).b3] C=some (.bool true,C):=go λk=>k _ (bZ (i:=4) rfl) false rfl _ (bZ (i:=5) rfl) false rfl _ (bZ (i:=2) rfl) true rfl _ (bZ (i:=3) rfl) true rfl
def abp(W:cb Z ex z w)(aT:w.T[s]? =some a):a0 a2 (d+3) 84 [.L w.Q.q,J s] w.C=some (.bool<|vg w.r.aM s a,w.C):=by
 delta vg;by_cases ae:w.r.aM=2
 ·rw[co λq=>q ae,Bool.false_or];exact go λk=>k _ W.k.bz.d7 _ (ke (b:=2) ae) _ W.k.bz.c5 _ W.au.cy _ _<|XX (d:=d) W.au aT
 ·rw[cj ae,Bool.true_or];exact go λk=>k _ W.k.bz.d7 _<|kd (b:=2) ae
def abq{c:Nat}{cE:List I}(ag:c∉[Z.A.t+1,Z.A.t+2])(ps:List ef):∀{w:gB} {H:bS},cb Z ex z w->(∀p∈ps,∃o∈Z.T0,p∈o.gP)->w.C[c]? =some (.list cE)->H 0=some (.L Z.A.cn)->
  (∀(bs:List Bool) S a7,iq (λs=>hg s (some c) cE) (λx s=>(gq (.aS 8) x H).bind λcg=>(gr (bk<|d+5) [] cg s).bind λq=>if q.1 then(bq (bk<|d+5) (.aK .eq (.b1 (.E 0) 20 [(.a5 71 [(.aZ (.E 0) 51),(.E 8)])])<|U 4) cg q.2).bind λu=>some (some u.1,u.2)else some (none,q.2)) (ps.map cm) w.C=some (bs.map .bool,S)->cB Z ex z w {w with C:=S,T:=a7}->bs.length=ps.length->R)->R:=by
 induction ps with
 |nil=>exactλW B an B aq=>aq [] _ _ (bg<|iw an) (.refl W) rfl
 |cons p ps ay=>intro w H W ab an h0 aq;refine(ab p bp).elim λo aA=>W.OR (d:=d) aA.1 aA.2 λu aw cz a6 cv f1 B B=>ay cv.ok (λq aC=>ab q<|bQ _ aC) (f1.get an ag) h0 λbs S a7 bR d9 hn=> ?_;exact aq (decide ((u:Int)=4)::bs) S a7 (sD (iw an) (cF (x:=gq (.aS 8) (cm p) H) rfl<|cF (x:=gr (bk<|d+5) [] _ w.C) rfl<|cF (i8 (H:=ar H 8<|cm p) λk=>k _ h0 _ W.au.aap _ h0 _ W.au.cy _ rfl _ _ a6 _ _ (wt cv.ok.au) _<|A4 _ _ _) rfl) bR) (cv.trans d9)<|ai Nat.succ hn
def abr(W:cb Z ex z w)(a9:mm w.T Z.a1 s a eS)(ab:∀p∈eS,∃o∈Z.T0,p∈o.gP)(aj:∀p∈dO,e9 p.name)(aq:∀x S a7,a0 a2 (d+6) 86 [.L Z.A.cn,J s,(af.obj dO f).b3] w.C=some (.bool x,S)->cB Z ex z w {w with C:=S,T:=a7}->(a.val=false->(∀p∈eS,∃q∈dO,q.name=p.name)->x)->R):R:=by
 have X:=W.au;cases aR:a.val with
 |true=>exact aq false w.C w.T (go λk=>k _ X.cy _ X.cJ _ (X.row a9.row) _ cM _<|ek<|fz [1,2,3,4,5] aR) (.refl W) λh=>b8<|bu h aR
 |false=>
  refine a9.d6.elim λu h=>h.elim λg h=> ?_;have jc:cr (bk<|d+5) (abn 2) (ar (ck [.L Z.A.cn,J s,(af.obj dO f).b3]) 3 (af.obj eS g).b3) w.C=some (.next,ar (ck [.L Z.A.cn,J s,(af.obj dO f).b3]) 3 (af.obj eS g).b3,w.C):=by
   have heq:=FG (C:=w.C) (FI aj) (b:=[]) rfl;by_cases he:dO.map cm=[]
   ·exact dk λk=>k _ (bZ (i:=1) rfl) _ (dH heq<|cj he) _ _ rfl false rfl
   ·exact dk λk=>k _ (bZ (i:=1) rfl) _<|dH heq<|co he
  have eR:=yr (b3:=cm) (C:=w.C) (O:=bk<|d+5) (H:=ar (ck [.L Z.A.cn,J s,(af.obj dO f).b3]) 3 (af.obj eS g).b3) (i:=8) (elt:=.av (.E 8)<|U 0) (cf:=.av (.E 2)<|U 1) (xs:=dO) (g:=λp=>.str p.name) (jk λk=>k _<|bZ (i:=1) rfl) λq B=>i8 λk=>k _ rfl _<|bZ (i:=0) rfl;have hn:(w.C++[b5.list<|dO.map λp=>I.str p.name])[w.C.length]? =some (.list<|dO.map λp=>I.str p.name):=ea;have gV:bq (bk<|d+5) (.comp (.E 8) (.aS 8) (.av (.E 3)<|U 1) [(.aK .je (.av (.E 8)<|U 0)<|.E 4)]) (ar (ar (ck [.L Z.A.cn,J s,(af.obj dO f).b3]) 3 (af.obj eS g).b3) 4<|.L w.C.length) (w.C++[.list<|dO.map λp=>.str p.name])=some (.L (w.C++[b5.list<|dO.map λp=>I.str p.name]).length,w.C++[.list<|dO.map λp=>.str p.name]++[.list<|(eS.filter λp=> !decide (I.str p.name∈dO.map λp=>I.str p.name)).map cm]):=
   rc (iv:=none) (l:=eS.map cm) (jk λk=>k _<|bZ (i:=1) rfl) rfl (eF (abk _ cm eS) (ML (h:=λp=>if(!decide (I.str p.name∈dO.map λp=>I.str p.name))=true then some (cm p)else none) rfl eS λp qX=>by
    have CE:=o2<|abm (x:=.str p.name) hn (a9.names p qX)<|abl aj;cases e: !decide (I.str p.name∈dO.map λp=>I.str p.name)with
    |true=>rw[e]at CE;exact cF (x:=gq (.aS 8) (cm p) _) rfl<|cF (x:=gr (bk<|d+5) _ _ _) (cF (i8 λk=>k _ rfl _ nZ _ rfl _ CE)<|cF (Fb _ _) rfl) rfl
    |false=>rw[e]at CE;exact cF (x:=gq (.aS 8) (cm p) _) rfl (cF (x:=gr (bk (d+5)) _ _ _) (cF (i8 λk=>k _ rfl _ nZ _ rfl _ CE) (cF (Fb _ _) rfl)) rfl)))
  have f2:=(bx.push w.C [b5.list<|dO.map λp=>I.str p.name] []).trans<|bx.push _ [.list<|(eS.filter λp=> !decide (I.str p.name∈dO.map λp=>I.str p.name)).map cm] [];have d9:=W.tf f2;have lt:∀c∈[Z.A.t+1,Z.A.t+2],c<(w.C++[b5.list<|dO.map λp=>I.str p.name]).length:=λc h=>c7 (uB (P:=λc=>c<w.C.length) (fc X.lG) (fc X.av) c h)<|V er<|cT _ _;refine abq (d:=d) (c:=(w.C++[b5.list<|dO.map λp=>I.str p.name]).length) (λq=>Nat.lt_irrefl _<|lt _ q) (eS.filter λp=> !decide (I.str p.name∈dO.map λp=>I.str p.name)) (H:=ar (ar (ar (ck [.L Z.A.cn,J s,(af.obj dO f).b3]) 3 (af.obj eS g).b3) 4<|.L w.C.length) 5<|.L (w.C++[b5.list<|dO.map λp=>I.str p.name]).length) d9.ok (λp qX=>ab p (pP qX).1) ea rfl λbs fD zb gM Pu an=> ?_;have abt:=Pu.ok.tf<|bx.push fD [.list<|bs.map .bool] [];refine aq (bs.all id) _ zb (gj [false,false,true] λk=>k _ X.cy _ X.cJ _ (X.row a9.row) _ cM _ (ek<|fz [1,2,3,4,5] aR) _ X.cy _ X.cJ _ X.n4 _ _ (re (d:=d+3) X h.1) _ (X.row h.2) _ _ _ jc _ _ eR _ _ gV _ _ (rc (fJ rfl) (lO ea) gM) _ _<|FJ ea) ((d9.trans Pu).trans abt) λB yg=> ?_;have e:(eS.filter λp=> !decide (I.str p.name∈dO.map λp=>I.str p.name))=[]:=List.filter_eq_nil_iff.mpr λp qX q=>(yg p qX).elim λr aH=>b8 ((ai (!·)<|cj<|i2 ⟨r,aH.1,ai I.str aH.2⟩).symm.trans q);exact yL.mp (an.trans<|ai List.length e)▸rfl
end
end
section
noncomputable def CF(i:Nat):dA:=H9.body.getD i .fA
section
variable{n:Nat}{a b:af}{P:af->List g9}
def abu(c8:List ef):∀{w:gB} {H:bS},(∀q∈c8,∀z bG,cB Z ex (z+3) fW bG->∃c bo,a0 a2 d 92 [.L fW.Q.q,J s,cm q] bG.C=some (.bool c,bo.C)/\cB Z ex z bG bo/\K q c/\(pr->bo.r.ns=bG.r.ns))->cB Z ex (z+3*c8.length) fW w->H 0=some (.L fW.Q.q)->H 1=some (J s)->
  (∀c aU az,fX (λB=>true) (λx H s=>cG (bk d) (jO<|CF 4) (ar H 6 x) s) (c8.map cm) H w.C=some (c,aU,az.C)->cB Z ex z w az->(∀i,i≠6->aU i=H i)->(pr->az.r.ns=w.r.ns)->(c=.next/\∀q∈c8,K q true)\/(c=.ret (.bool false)/\∃q∈c8,K q false)->R)->R:=by
 induction c8 with
 |nil=>exactλB O B B aq=>aq .next _ _ rfl (.refl O.ok) (λB B=>rfl) (λB=>rfl) (.inl ⟨rfl,λB=>fO⟩)
 |cons q c8 ay=>
  intro w H CG O h0 Y aq;refine(CG q bp (z+3*c8.length) w O).elim λc h=>h.elim λbG h=> ?_;cases c with
  |false=>exact aq _ _ bG (mS rfl<|eK λk=>k _ h0 _ Y _ rfl _ _ h.1) (h.2.1.gg<|cT _ _) (λi ah=>p4 _ _ ah) h.2.2.2<|.inr ⟨rfl,q,bp,h.2.2.1⟩
  |true=>exact ay (H:=ar H 6<|cm q) (λp ab=>CG p<|bQ _ ab) (O.trans h.2.1) h0 Y λc aU az f1 f2 hl f4 ky=>aq c aU az (eT rfl (eK λk=>k _ h0 _ Y _ rfl _ _ h.1) f1) (h.2.1.trans f2) (λi ah=>(hl i ah).trans<|p4 _ _ ah) (λg=>(f4 g).trans<|h.2.2.2 g)<|ky.imp (λg=>⟨g.1,λp ab=>(cR ab).elim (λe=>e▸h.2.2.1)<|g.2 p⟩) λg=>⟨g.1,g.2.imp λp ab=>⟨bQ _ ab.1,ab.2⟩⟩
def Pv(W:cb Z ex (z+9) w)(ll:mm w.T Z.a1 s a eS)(h1:mm w.T Z.a1 t b dO)(fh:b.shaped)(ab:∀p∈eS,∃o∈Z.T0,p∈o.gP)(gb:dO.length<=3)(CG:∀q∈dO,∀z bG,cB Z ex (z+3) w bG->∃c bo,a0 a2 (d+6) 92 [.L w.Q.q,J s,cm q] bG.C=some (.bool c,bo.C)/\cB Z ex z bG bo/\K q c/\(pr->bo.r.ns=bG.r.ns))(abv:pr->ta w.T s eS dO=false)(dm:pr->a.val=false/\∀p∈eS,∃q∈dO,q.name=p.name)(aq:∀c az,a0 a2 (d+7) 85 [.L w.Q.q,J s,J t,.bool true] w.C=some (.bool c,az.C)->cB Z ex z w az->(pr->az.r.ns=w.r.ns)->(c=true->(vg w.r.aM s a&&ta w.T s eS dO)=false/\∀q∈dO,K q true)->(c=false->pr->∃q∈dO,K q false)->R):R:=
 h1.d6.elim λv h=>h.elim λg aR=>by
  have aJ:a0 a2 (d+6) 68 [.L Z.A.cn,J t] w.C=some (J v,w.C):=re (d:=d+4) W.au aR.1;have Hr:a0 a2 (d+6) 84 [.L w.Q.q,J s] w.C=some (.bool<|vg w.r.aM s a,w.C):=abp (d:=d+3) W ll.row;have rest:∀aw,cr (bk<|d+6) (CF 2) (ar (ar (ck [.L w.Q.q,J s,J t,.bool true]) 4<|.L Z.A.cn) 5 (af.obj dO g).b3) w.C=some (.next,ar (ar (ck [.L w.Q.q,J s,J t,.bool true]) 4<|.L Z.A.cn) 5 (af.obj dO g).b3,aw)->bx w.C aw []->(vg w.r.aM s a&&ta w.T s eS dO)=false->R:=λaw jc f1 hw=>by
   have cv:=W.tf f1;have hf:=Bj (d:=d+5) cv.ok.au.fZ h1.row;have rest:∀bn mv,cr (bk<|d+6) (CF 3) (ar (ar (ck [.L w.Q.q,J s,J t,.bool true]) 4<|.L Z.A.cn) 5 (af.obj dO g).b3) aw=some (.next,ar (ar (ck [.L w.Q.q,J s,J t,.bool true]) 4<|.L Z.A.cn) 5 (af.obj dO g).b3,bn)->cB Z ex (z+9) {w with C:=aw} {w with C:=bn,T:=mv}->R:=λbn mv qj d9=>by
    have O:=cv.trans d9;refine abu (z:=z) (K:=K) (pr:=pr) dO CG (O.gg<|hB (m4 3 gb) z) (H:=ar (ar (ck [.L w.Q.q,J s,J t,.bool true]) 4<|.L Z.A.cn) 5 (af.obj dO g).b3) rfl rfl λc aU az f1 f2 hl f4 ky=> ?_;have pi:cr (bk<|d+6) (CF 4) (ar (ar (ck [.L w.Q.q,J s,J t,.bool true]) 4<|.L Z.A.cn) 5 (af.obj dO g).b3) bn=some (c,aU,az.C):=lM (jk λk=>k _<|bZ (i:=1) rfl) f1;refine ky.elim (λq=> ?_) λq=> ?_
    ·obtain⟨rfl,q⟩:=q;exact aq true az (q9 [false,false,true,true,true] λk=>k _ rfl _ W.k.bz.c5 _ rfl _ W.au.cy _ W.au.cJ _ rfl _ W.au.n4 _ rfl _ _ aJ _ (W.au.row aR.2) _ _ _ jc _ _ _ qj _ _ _ pi _ (hl 0<|by decide) _ (hl 1<|by decide) _ (hl 2<|by decide) _ (hl 5<|by decide) _ _ abo) (O.trans f2) f4 (λB=>⟨hw,q⟩) nofun
    ·obtain⟨rfl,q⟩:=q;exact aq false az (q9 [false,false,true,true,true] λk=>k _ rfl _ W.k.bz.c5 _ rfl _ W.au.cy _ W.au.cJ _ rfl _ W.au.n4 _ rfl _ _ aJ _ (W.au.row aR.2) _ _ _ jc _ _ _ qj _ _ _ pi) (O.trans f2) f4 nofun λB B=>q
   by_cases cp:w.r.aM=4
   ·cases aj:b.d8 with
    |false=>exact rest aw w.T (dk λk=>k _ cv.ok.k.bz.d7 _ (cY (b:=4) cp) _ cv.ok.au.cy _ _<|gX hf aj)<|.refl cv.ok
    |true=>
     refine abr (d:=d) (f:=g) cv.ok ll ab h1.names λx bn mv ae d9 ac=> ?_;cases x with
     |true=>exact rest bn mv (dk λk=>k _ cv.ok.k.bz.d7 _ (cY (b:=4) cp) _ cv.ok.au.cy _ _ (gX hf aj) _ _ ae) d9
     |false=>exact aq false {w with C:=bn,T:=mv} (gj [false,false,true] λk=>k _ W.k.bz.c5 _ W.au.cy _ W.au.cJ _ W.au.n4 _ _ aJ _ (W.au.row aR.2) _ _ _ jc _ cv.ok.k.bz.d7 _ (cY (b:=4) cp) _ cv.ok.au.cy _ _ (gX hf aj) _ _ ae) ((cv.trans d9).gg<|cT _ _) (λB=>rfl) nofun λB f=>b8<|ac (dm f).1 (dm f).2
   ·exact rest aw w.T (dk λk=>k _ cv.ok.k.bz.d7 _<|bN (b:=4) cp)<|.refl cv.ok
  cases aC:vg w.r.aM s a with
  |false=>exact rest w.C (dk λk=>k _ _<|gX Hr aC) (.refl _ _) (ai (·&&_) aC)
  |true=>
   refine aaq (d:=d+2) W.au ll h1 (zi fh) λaw Y f1=> ?_;cases hw:ta w.T s eS dO with
   |false=>exact rest aw (dk λk=>k _ _ (gX Hr aC) _ _<|gX Y hw) f1 (by rw[hw,Bool.and_false])
   |true=>exact aq false {w with C:=aw} (go λk=>k _ W.k.bz.c5 _ W.au.cy _ W.au.cJ _ W.au.n4 _ _ aJ _ (W.au.row aR.2) _ _ (gX Hr aC) _ _<|gX Y hw) ((W.tf f1).gg<|cT _ _) (λB=>rfl) nofun λB f=>b8<|(abv f).symm.trans hw
end
end
section
section
variable{n:Nat}{a b:af}{P:af->List g9}{T:List af}
def mm.pre(a9:mm T a1 s a eS)(x:el T a7):mm a7 a1 s a eS:=⟨x.get a9.row,a9.M5,a9.d6.imp λB h=>h.imp λB h=>⟨BA x h.1,x.get h.2⟩,a9.names,a9.cE⟩
def abw(aG:(eS.map ef.name).Nodup)(ab:p∈eS)(e:p.name=q.name):lV eS q.name=some p:=by
 induction eS with
 |nil=>exact fO ab
 |cons x eS ay=>have aG:=hI aG;exact(cR ab).elim (λh=>h▸vK (cj e)) λh=>(List.find?_cons_of_neg λk=>aG.1<|i2 ⟨p,h,e.trans (dw k).symm⟩).trans<|ay aG.2 h
def Hs(mB:¬jQ m a b)(ae:¬G0 m a b->c=false)(ba:m≠2->iR P [a] [b]->c):hY P m [a] [b] c:=⟨λx e v=>v.elim λy q=>absurd ((h2 e λe B=>e:a=x)▸bT q.1▸q.2) mB,λx e v=>ae<|(h2 e λe B=>e:a=x).symm▸(v b bp).2,ba⟩
def abx(aj:dO≠[])(h:∀q∈dO,∃p,lV eS q.name=some p):ta T s eS dO=false:=by have e:(dO.all λp=>(lV eS p.name).isNone)=false:=(ve _ aj).elim λq aC=>(h q aC).elim λp ab=>List.all_eq_false.mpr ⟨q,aC,λk=>bj<|(Option.isNone_iff_eq_none.mp k).symm.trans ab⟩;exact(ai (wX dO&& !rf T s&&·) e).trans<|Bool.and_false _
def aby(il:th false (d+8) n Z)(zo:qs (d+5) Z)(W:cb Z [] (z+9) w)(X:rH n w.r)(bl:w.r.aM≠3)(aT:w.T[s]? =some a)(aj:w.T[t]? =some b)(g3:a.shaped)(fh:b.shaped)(na:s≠11)(nb:t≠11)(mB:¬jQ w.r.aM a b)(aq:∀c az,a0 a2 (d+11) 85 [.L w.Q.q,J s,J t,.bool true] w.C=some (.bool c,az.C)->lY Z [] z w [a] [b] c az->R):R:=by
 have ll:=yG Z.G Z.D W.dy aT g3 na;have h1:=yG Z.G Z.D W.dy aj fh nb;have key:cC (λp q=>ix (gz Z.T0 p) (gz Z.T0 q)/\cK Z.P (fK Z.T0 p) (fK Z.T0 q)) (fP Z.T0 Z.a1 a) (fP Z.T0 Z.a1 b)->∀q∈fP Z.T0 Z.a1 b,∃p∈fP Z.T0 Z.a1 a,lV (fP Z.T0 Z.a1 a) q.name=some p/\ix (gz Z.T0 p) (gz Z.T0 q)/\cK Z.P (fK Z.T0 p) (fK Z.T0 q):=λf q aC=>(f.i9 q aC).imp λp ab=>⟨ab.1,abw ll.2.names ab.1 ab.2.1.name,ab.2⟩;have kK:w.r.aM≠2->iR Z.P [a] [b]->w.r.aM≠2/\cC (λp q=>ix (gz Z.T0 p) (gz Z.T0 q)/\cK Z.P (fK Z.T0 p) (fK Z.T0 q)) (fP Z.T0 Z.a1 a) (fP Z.T0 Z.a1 b):=λm f=>⟨m,f.j6.aS.elim (λe=>absurd (.inl e) mB) λo=>(cC.Hb (c4:=λp q=>ix p q/\cK Z.P p.lb q.lb)).mpr<|(o.gP:m1 (cK Z.P) (Z.P a) (Z.P b)).imp λB B h=>⟨h.1,.uG h.2⟩⟩;refine Pv (d:=d+4) (z:=z) (pr:=w.r.aM≠2/\cC (λp q=>ix (gz Z.T0 p) (gz Z.T0 q)/\cK Z.P (fK Z.T0 p) (fK Z.T0 q)) (fP Z.T0 Z.a1 a) (fP Z.T0 Z.a1 b)) (K:=λq c=>w.r.aM≠2/\cC (λp q=>ix (gz Z.T0 p) (gz Z.T0 q)/\cK Z.P (fK Z.T0 p) (fK Z.T0 q)) (fP Z.T0 Z.a1 a) (fP Z.T0 Z.a1 b)->c) W ll.1 h1.1 fh (λp ab=>(ll.2.mem p ab).2) h1.2.gb
  (λq aC eM bG O=> ?_) (λf=>abx h1.2.bw λq aC=>(key f.2 q aC).imp λp ab=>ab.2.1) (λf=>⟨by
   cases a with
   |obj=>rfl
   |ref=>rfl
   |_=>exact Bool.noConfusion g3,λp ab=>(f.2.swap.i9 p ab).imp λq aC=>⟨aC.1,aC.2.1.name.symm⟩⟩) λc az h O aD aF cS=> ?_
 ·have es:bG.r.aM=w.r.aM:=V O.same rfl;have tj:=ll.1.pre O.pre;cases dp:lV (fP Z.T0 Z.a1 a) q.name with
  |none=>exact Pp (d:=d+6) (z:=eM) (O.ok.gg (eM:=eM+1)<|hB (by decide) eM) (V es bl) tj (h1.2.mem q aC).1.name dp λc bo ae d9 B=>⟨c,bo,eF (ai fp.q O.q) ae,d9,λf=>(key f.2 q aC).elim λp ab=>bj<|bu dp ab.2.1,λf=>(key f.2 q aC).elim λp ab=>bj<|bu dp ab.2.1⟩
  |some p=>exact abj (d:=d) (z:=eM) il zo O.ok (O.lim X) (V es bl) tj (ll.2.mem p<|List.mem_of_find?_eq_some dp) (h1.2.mem q aC) dp λc bo ae d9 f2=>
    have g:w.r.aM≠2/\cC (λp q=>ix (gz Z.T0 p) (gz Z.T0 q)/\cK Z.P (fK Z.T0 p) (fK Z.T0 q)) (fP Z.T0 Z.a1 a) (fP Z.T0 Z.a1 b)->c/\bo.r.ns=bG.r.ns:=λf=>(key f.2 q aC).elim λqC ab=>f2 (es.symm▸f.1)<|br (bu dp ab.2.1)▸ab.2.2
    ⟨c,bo,eF (ai fp.q O.q) ae,d9,λf=>(g f).1,λf=>(g f).2⟩
 ·exact aq c az h ⟨O,λm=>absurd m bl,λm=>absurd m bl,λB=>Hs mB (λn=>absurd (.inl ⟨g3,fh⟩) n) λm f=>by
   cases c with
   |true=>rfl
   |false=>exact(cS rfl (kK m f)).elim λq aC=>aC.2 (kK m f),λm f=>aD (kK m f)⟩
def abz(W:cb Z ex (z+9) w)(bl:w.r.aM≠3)(aT:w.T[s]? =some a)(aj:w.T[t]? =some b)(hL:a.val)(fh:b.shaped)(nb:t≠11)(hn:rf w.T s=false)(mB:¬jQ w.r.aM a b)(aq:∀c az,a0 a2 (d+11) 85 [.L w.Q.q,J s,J t,.bool true] w.C=some (.bool c,az.C)->lY Z ex z w [a] [b] c az->R):R:=by
 have ll:=Yo (a1:=Z.a1) W.cX aT hL;have h1:=yG Z.G Z.D W.dy aj fh nb;have Pw:iR Z.P [a] [b]->False:=λf=>f.j6.aS.elim (λe=>mB<|.inl e) λo=>b8<|(Cw hL).symm.trans o.be;refine Pv (d:=d+4) (z:=z) (pr:=False) (K:=λq c=>gk q.b0=false->c=false) W ll h1.1 fh (λp=>fO) h1.2.gb (λq aC eM bG O=> ?_) False.elim False.elim λc az h O aD aF cS=> ?_
 ·exact Pp (d:=d+6) (z:=eM) (O.ok.gg (eM:=eM+1)<|hB (by decide) eM) (V (V O.same rfl:bG.r.aM=w.r.aM) bl) (ll.pre O.pre) (h1.2.mem q aC).1.name rfl λc bo ae d9 f2=>⟨c,bo,eF (ai fp.q O.q) ae,d9,f2,False.elim⟩
 ·refine aq c az h ⟨O,λm=>absurd m bl,λm=>absurd m bl,λB=>Hs mB (λn=> ?_) λB f=>(Pw f).elim,λB f=>(Pw f).elim⟩;cases c with
  |false=>rfl
  |true=>
   have cU:w.r.aM≠2:=λq=>n<|.inr ⟨q,.inr fh⟩;have k:=aF rfl;have hw:wX (fP Z.T0 Z.a1 b)=false:=by have Y:(wX (fP Z.T0 Z.a1 b)&& !rf w.T s&&(fP Z.T0 Z.a1 b).all λp=>(lV [] p.name).isNone)=false:=(ai (·&&ta w.T s [] (fP Z.T0 Z.a1 b)) (ai (·||_) (cj cU):vg w.r.aM s a)).symm.trans k.1;rw[hn,show((fP Z.T0 Z.a1 b).all λp=>(lV [] p.name).isNone)=true from nv.mpr λB B=>rfl,Bool.and_true]at Y;exact(Bool.and_true _).symm.trans Y
   have ae:((fP Z.T0 Z.a1 b).all λp=>gk p.b0)=false:=(ai (·&&_) (ai (!·)<|mJ.mpr λq=>h1.2.bw<|uc.mp q)).symm.trans hw;exact(List.all_eq_false.mp ae).elim λq aC=>k.2 q aC.1<|mJ.mpr aC.2
end
end
section
structure ki(n j:Nat)(r:eL):Prop where
 mz:qq r.tr<=n
 dl:r.dl+(3*n+j)<=60
 ha:r.dn.length+n+2<=24
structure mC(i:Bool)(d n:Nat)(Z:hG):Prop where
 il:∀m,n=m+1->∀j,th i (d+j) m Z
 T:i=false->∀j,qs (d+j) Z
def Px{tr:List (Nat×Nat)}:qq tr<=9:=List.length_filter_le _ _
def abA{tr:List (Nat×Nat)}{k:Nat×Nat}(hm:k∈w3)(ao:k∉tr):qq (tr++[k])+1<=qq tr:=by
 have key:∀l:List (Nat×Nat),k∈l->(l.filter λx=>decide<|x∉tr++[k]).length+1<=(l.filter λx=>decide<|x∉tr).length:=λl=>by
  have le:∀l:List (Nat×Nat),(l.filter λx=>decide<|x∉tr++[k]).length<=(l.filter λx=>decide<|x∉tr).length:=λl=>(w4 (l:=l))▸(w4 (l:=l))▸List.countP_mono_left λx B h=>cj λq=>dw h<|jh _ q;induction l with
  |nil=>exact fO
  |cons x l ay=>
   intro h;by_cases e:x=k
   ·rw[vf,vf,bI<|show¬decide (x∉tr++[k])=true fromλq=>dw q<|i1 _<|e▸bp,bg<|show decide (x∉tr)=true from cj<|e▸ao];exact kX<|le l
   ·have h:=ay<|(cR h).resolve_left<|Ne.symm e;by_cases q:x∈tr
    ·rw[vf,vf,bI<|show¬decide (x∉tr++[k])=true fromλp=>dw p<|jh _ q,bI<|show¬decide (x∉tr)=true fromλp=>dw p q];exact h
    ·rw[vf,vf,bg<|show decide (x∉tr++[k])=true from cj λp=>(gc p).elim q λp=>e<|bT p,bg<|show decide (x∉tr)=true from cj q];exact kX h
 exact key w3 hm
section
variable{n v e:Nat}{a b:af}{T:List af}{r:eL}
def ki.push(X:ki n (j+1) r)(k:Nat×Nat):ki n j (r.push k):=⟨a3 Ha X.mz,a3 (cP<|Nat.succ_add _ _) X.dl,X.ha⟩
def cB.Py(O:cB Z ex z w az)(X:ki n j w.r):ki n j az.r:=O.ext.elim λaB e=>⟨e.1▸a3 Ha X.mz,V (ai eL.dl O.same) X.dl,V (ai eL.dn O.same) X.ha⟩
def hb.d6(G:bO T)(h:T[t]? =some a)(aH:ct a=a)(ao:a.kind≠6)(aR:a.val=false)(ag:hb (aE T t)):a.shaped/\t≠11/\aE T t=[a]:=
 have e:=kN G h ao (λq=>b8<|bu aR<|(jv G (i:=2) rfl h).mpr q▸rfl) aH
 (ag a<|e▸bp).elim (λq=>b8<|bu aR q.1) λq=>⟨q.1,λk=>q.2<|(jv G (i:=11) rfl h).mpr k,e⟩
def gJ.lim{tr:List (Nat×Nat)}(G:bO T)(aJ:T[s]? =some a)(aP:T[t]? =some b)(zk:aE T s=[a])(sT:aE T t=[b])(hL:a.val=false)(lm:b.val=false)(cs:gJ n (aE T s))(eJ:gJ n (aE T t))(ao:(s,t)∉tr)(hn:qq tr<=n)(aq:∀m,n=m+1->qq (tr++[(s,t)])<=m->R):R:=by
 have ref:∀{t:Nat} {b:af},T[t]? =some b->aE T t=[b]->b.val=false->n7 (aE T t)->t∈[16,17,18]:=λ{t b} h e v c=>(c b<|e▸bp).elim (λq=>b8<|bu v q.1) λq=>q.elim λi e=>by
  subst e;have k:=G.row t _ h;exact(k.1▸(by decide:∀i:Nat,i<=3->1<=i->15+i∈[16,17,18]) i k.2.2 k.2.1)
 by_cases h:n<10
 ·have hm:(s,t)∈w3:=(by decide:∀s∈[16,17,18],∀t∈[16,17,18],(s,t)∈w3) s (ref aJ zk hL<|cs.2 h) t<|ref aP sT lm<|eJ.2 h;have k:=a3 (abA hm ao) hn;cases n with
  |zero=>exact absurd k<|vz _
  |succ m=>exact aq m rfl<|Nat.le_of_succ_le_succ k
 ·cases n with
  |zero=>exact absurd (by decide) h
  |succ m=>exact aq m rfl<|a3 Px<|Nat.le_of_succ_le_succ<|Nat.le_of_not_lt h
def abB(il:th (decide<|w.r.aM=3) (d+8) n Z)(zo:w.r.aM≠3->qs (d+5) Z)(W:cb Z [] (z+9) w)(bw:w.r.tr≠[])(mz:qq w.r.tr<=n)(abC:w.r.dl+3*n+4<=60)(dn:w.r.dn.length+1+n+2<=24)(aT:w.T[s]? =some a)(aj:w.T[t]? =some b)(g3:a.shaped)(fh:b.shaped)(na:s≠11)(nb:t≠11)(st:s≠t)(mB:w.r.aM≠3->¬jQ w.r.aM a b)(aq:∀c az,a0 a2 (d+16) (if w.r.aM=3 then 59 else 53) [.L w.Q.q,J s,J t] w.C=some (.bool c,az.C)->lY Z [] z w [a] [b] c az->R):R:=by
 have aH:w.r.dn.length<24:=a3 (cT _<|n+2) dn;have dB:∀x,rH n {w.r with dn:=w.r.dn++[x]}:=λx=>⟨bw,mz,abC,V er dn⟩;by_cases bl:w.r.aM=3
 ·rw[cj bl]at il;rw[bg bl]at aq;exact Hd (d:=d+4) (k:=false) W aH aT aj (λaw x W1 K=>aaY (d:=d+4) il (W1.gg<|hB (by decide) z) (dB x) bl aT aj g3 fh na nb λc bo h a9=>K c bo (λB=>h) (λm=>absurd bl m) a9) λc az h a9=>aq c az (aa1 W bl aT aj g3 fh st h) a9
 ·rw[co bl]at il;rw[bI bl]at aq;exact Hd (d:=d+4) (k:=true) W aH aT aj (λaw x W1 K=>aby (d:=d) il (zo bl) W1 (dB x) bl aT aj g3 fh na nb (mB bl) λc bo h a9=>K c bo (λm=>absurd m bl) (λB=>h) a9) λc az h a9=>aq c az (O7 W bl aT aj (zj g3) fh st h) a9
end
end
section
structure tl(D:Nat)(Z:hG)(ex:List (Nat×Nat))(z:Nat)(w:gB)(aI gG:List af)(s t u v:Nat)(aw:St)(cz:List af)(eg:List (Nat×Nat))(pn:Bool->Prop):Prop where
 out:cB Z ex z w {w with C:=aw,T:=cz}
 Pz:iC cz (u,v)
 gC:aE cz u=aI
 c3:aE cz v=gG
 new:(u,v)∉ex
 Ht:∀k∈ex,k∈eg
 nE:∀k∈eg,k∈ex\/k=(u,v)
 iT:w.r.aM=3\/(u,v)∈eg\/hY Z.P w.r.aM aI gG true
 go:∀{y:I×St},a0 a2 (D+1) 41 [.L w.Q.q,J u,J v] aw=some y->a0 a2 (D+2) 40 [.L w.Q.q,J s,J t] w.C=some y
 str:∀cA eM,cb Z eg (eM+9) {w with C:=cA,T:=cz,r:=w.r.push (u,v)}->(u,v)∉w.r.tr->∃c bH,a0 a2 D (if w.r.aM=3 then 59 else 53) [.L w.Q.q,J u,J v] cA=some (.bool c,bH.C)/\lY Z eg eM {w with C:=cA,T:=cz,r:=w.r.push (u,v)} aI gG c bH/\pn c
section
variable{n v e:Nat}{a b:af}{i:Bool}{T cz:List af}{r:eL}
def tl.ask(K:tl (d+1) Z ex z w aI gG s t u v aw cz eg pn)(bw:w.r.tr≠[])(bC:w.r.dl<60):∃b az,a0 a2 (d+3) 40 [.L w.Q.q,J s,J t] w.C=some (.bool b,az.C)/\iS Z ex z w aI gG b az:=by obtain⟨O,aR,rfl,rfl,new,Ht,nE,iT,go,str⟩:=K;exact aaO (d:=d) (w:={w with C:=aw,T:=cz}) O.ok bw bC aR new Ht nE iT (λcA hX ao B k=>(str cA z hX ao).elim λc h=>h.elim λbH h=>k c bH h.1 h.2.1) λb az h A=>⟨b,az,go h,O.trans A.out,A.zg,A.pos,A.neg,A.iT,A.clean⟩
def tl.top(K:tl (d+1) Z [] z w aI gG s t u v aw cz eg pn)(gh:Top w.r)(aq:∀b az,a0 a2 (d+3) 40 [.L w.Q.q,J s,J t] w.C=some (.bool b,az.C)->w1 Z w aI gG b az->(w.r.bA=[]->pn b)->R):R:=by obtain⟨O,aR,rfl,rfl,new,Ht,nE,iT,go,str⟩:=K;exact aaS (d:=d) (w:={w with C:=aw,T:=cz}) (O.ok.cE gh) gh aR (λk h=>(nE k h).resolve_left b4) iT (λcA hX ao B k=>(str cA 4000000 hX ao).elim λc h=>h.elim λbH h=>k c bH h.1 h.2.1 h.2.2) λb az h A ab=>aq b az (go h) ⟨A.ok,O.pre.trans A.pre,O.bU.trans A.bU,A.aM,A.sE,A.pk,A.w2,A.top⟩ ab
def Hu{a:af}:(ct a).shaped=a.shaped:=by
 delta ct;cases a.bc&&a.d8 with
 |true=>cases a<;>rfl
 |false=>rfl
def zq{a:af}(h:a.shaped):a.val=false:=by
 cases a with
 |obj=>rfl
 |ref=>rfl
 |_=>exact Bool.noConfusion h
def mC.ho(c4:mC i d n Z)(k:Nat):mC i (d+k) n Z:=⟨λm h j=>(i0 d k j).symm▸c4.il m h (k+j),λh j=>(i0 d k j).symm▸c4.T h (k+j)⟩
def abD(W:cb Z ex (z+9) w)(bl:w.r.aM≠3)(aH:w.r.dn.length<24)(aT:w.T[s]? =some a)(aj:w.T[t]? =some b)(hL:a.val)(fh:b.shaped)(nb:t≠11)(st:s≠t)(hn:rf w.T s=false)(mB:¬jQ w.r.aM a b):∃c az,a0 a2 (d+16) 53 [.L w.Q.q,J s,J t] w.C=some (.bool c,az.C)/\lY Z ex z w [a] [b] c az:=Hd (d:=d+4) (k:=true) W aH aT aj (λaw x W1 K=>abz (d:=d) W1 bl aT aj hL fh nb hn mB λc bo h a9=>K c bo (λm=>absurd m bl) (λB=>h) a9) λc az h a9=>⟨c,az,O7 W bl aT aj (Pf hL) fh st h,a9⟩
def PA(c4:mC i d n Z)(ah:decide (w.r.aM=3)=i)(W:cb Z ex (z+e) w)(he:s=0->1<=e)(X:ki n 2 w.r)(aT:w.T[s]? =some a)(aj:w.T[t]? =some b)(dh:a.kind≠6)(da:b.kind≠6)(cs:gJ n (aE w.T s))(eJ:gJ n (aE w.T t))(hex:ex=[]\/((∀k∈ex,∃ps,w.T[k.2]? =some (.dI ps))/\¬(a.shaped=true/\b.shaped)))(n8:∀c bG,a0 a2 (d+18) 40 [.L w.Q.q,J s,J t] w.C=some (.bool c,bG.C)->iS Z ex z w (aE w.T s) (aE w.T t) c bG->bG.r.tr=w.r.tr->(w.r.aM≠3->lZ w.r.aM (aE w.T s) (aE w.T t) c)->R)(aq:∀u v aw cz eg,tl (d+16) Z ex z w (aE w.T s) (aE w.T t) s t u v aw cz eg (λB=>True)->(∃x,aE w.T s=[x])->R):R:=
 Hm (d:=d+13) W he aT aj cs.1 eJ.1 n8 λu v aw cz O bD aR gC c3 jw js zr go=>by
  have G:=O.ok.cX;have dh:(ct a).kind≠6:=wz.symm▸dh;have da:(ct b).kind≠6:=wz.symm▸da;have jd:gJ n (aE cz u):=gC.symm▸cs;have iU:gJ n (aE cz v):=c3.symm▸eJ;have PB:iC cz (u,v):=⟨ai Option.isSome bD,ai Option.isSome aR⟩;have new:(u,v)∉ex:=hex.elim (λe=>e▸b4) λh q=>(h.1 _ q).elim λps ab=>da<|ai af.kind<|br<|bu aR<|O.pre.get ab;have aH:w.r.dn.length<24:=a3 (kX<|a3 (cT _ n)<|j1 _) X.ha;have j6:(ct a).shaped=true->(ct b).shaped=true->(w.r.aM≠3->¬jQ w.r.aM (ct a) (ct b))->R:=λg3 fh mB=>by
   obtain rfl:=hex.resolve_right λh=>h.2 ⟨Hu▸g3,Hu▸fh⟩;have Hv:=hb.d6 G bD jp dh (zq g3) jd.1;have h1:=hb.d6 G aR jp da (zq fh) iU.1;have aD:aE w.T s=[ct a]:=bu gC Hv.2.2;have aF:aE w.T t=[ct b]:=bu c3 h1.2.2;refine aq u v aw cz [] ⟨O,PB,gC,c3,new,λB h=>h,λB=>fO,(Decidable.em<|w.r.aM=3).imp_right λm=>.inr ?_,go,λcA eM hX ao=> ?_⟩ ⟨_,aD⟩
   ·rw[aD,aF];exact Hs (mB m) (λn=>absurd (.inl ⟨g3,fh⟩) n) λB B=>rfl
   ·rw[aD,aF];refine gJ.lim G bD aR Hv.2.2 h1.2.2 (zq g3) (zq fh) jd iU ao X.mz λm e mz=> ?_;subst e;exact abB (d:=d) (w:={w with C:=cA,T:=cz,r:=w.r.push (u,v)}) (ah.symm▸c4.il m rfl 8) (λm=>c4.T (ah▸co m) 5) hX (λq=>List.cons_ne_nil _ _ (vb.mp q).2) mz (a3 (cP (ai (·+4)<|rT w.r.dl 1<|3*m)) X.dl) (a3 (cP (ai (·+2)<|rT w.r.dn.length 1 m)) X.ha) bD aR g3 fh Hv.2.1 h1.2.1 jw mB λc bH h a9=>⟨c,bH,h,a9,trivial⟩
  by_cases bl:w.r.aM=3
  ·exact j6 (zm _ dh (js bl).1) (zm _ da (js bl).2) λm=>absurd bl m
  ·have K:=zr bl;have mA:=(K.mA.resolve_left dh).resolve_left da;cases hL:(ct a).val with
   |false=>exact j6 (zm _ dh hL) mA.1 λB=>mA.2.1
   |true=>have aD:aE w.T s=[ct a]:=bu gC<|kN G bD dh K.e1 jp;have h1:=hb.d6 G aR jp da (zq mA.1) iU.1;have aF:aE w.T t=[ct b]:=bu c3 h1.2.2;refine aq u v aw cz ((u,v)::ex) ⟨O,PB,gC,c3,new,λk h=>bQ _ h,λk h=>(cR h).symm,.inr<|.inl bp,go,λcA eM hX ao=> ?_⟩ ⟨_,aD⟩;rw[aD,aF,bI bl];have Cx:=jd.1.cW G;exact(abD (d:=d) hX bl aH bD aR hL mA.1 h1.2.1 jw (co λq=>(cR q).elim K.e8 λq=>(cR q).elim K.fy λq=>(cR q).elim K.e1 λq=>(cR q).elim Cx.1 λq=>(cR q).elim mA.2.2.1 λq=>(cR q).elim mA.2.2.2.1 λq=>(cR q).elim mA.2.2.2.2 λq=>Cx.2.1<|bT q) mA.2.1).imp λc h=>h.imp λbH h=>⟨h.1,h.2,trivial⟩
end
end
section
noncomputable def abE(i:Nat):dA:=H7.body.getD i .fA
def abF{F:List (I×I)}(aG:aB.Nodup)(h:∀k∈aB,cD kO (cc k)=none):aB.length<=(aB.filter λk=>decide<|cD (kO++F) (cc k)=none).length+F.length:=by
 rw[List.length_eq_countP_add_countP (λk=>decide<|cD (kO++F) (cc k)=none) (l:=aB),w4,w4];have e:=o6 (m:=F.map Prod.fst) (sU (aG.sublist List.filter_sublist) λB B B B=>u3) λx ac=>(e3 ac).elim λk ao=>by
  have q:=pP ao.1;cases hf:cD F (cc k)with
  |none=>exact absurd (cj<|OV (h k q.1) hf)<|dw q.2
  |some v=>exact ao.2▸i2 ⟨_,OY hf,rfl⟩
 rw[c2,c2]at e;exact hB e _
section
variable{fD:St}{Q:fp}{r:eL}{c dW d3:Nat}{cE N:List I}{bo:gB}
def abG(ao:ju r.bA)(ag:c∉[Q.q+2,Q.dZ])(dP:List (Nat×Nat)):∀{C:St} {tr:List (Nat×Nat)} {H:bS},bE A C Q {r with tr:=tr} tr v->dP.Nodup->(∀k∈dP,k∉tr)->C[c]? =some (.list cE)->tr.length+dP.length<16000000->H 0=some (.L Q.q)->
  (∀aU S,fX (λs=>hg s (some c) cE) (λx H s=>(gq (.aS 2) x H).bind λcg=>cG (bk d) (jO<|abE 1) cg s) (dP.map cc) H C=some (.next,aU,S)->bE A S Q {r with tr:=tr++dP.filter λk=>decide<|cD r.bA (cc k)=none} (tr++dP.filter λk=>decide<|cD r.bA (cc k)=none) v->bx C S [Q.q+2,Q.dZ]->R)->R:=by
 induction dP with
 |nil=>exactλ{C tr H} X B B an B B aq=>aq _ _ (wc<|iw an) (by rw[List.filter_nil,ew];exact X)<|.refl _ _
 |cons k dP ay=>
  intro C tr H X aG hn an aj h0 aq;have aG:=hI aG;have Cj:=hn k bp;have yl:=o2<|wh X.wV<|wW (k:=k);rw[GU Cj]at yl;have xa:=o2<|wh X.zc<|ju.ok (k:=k) ao;cases bB:cD r.bA (cc k)with
  |some x=>have xa:d0 C .je (cc k) (.L<|Q.q+3)=some false:=xa.trans<|ai (λo:Option I=>some<|!o.isSome) bB;refine ay (H:=ar H 2<|cc k) X aG.2 (λx ac=>hn x<|bQ _ ac) an (c1 (hB (j1 _) _) aj) h0 λaU S g1 bd cQ=>aq aU S (eT (iw an) (eK λk=>k _ rfl _ h0 _ X.rB _ yl _ rfl _ h0 _ X.rC _ xa) g1) ?_ cQ;rw[vA (p:=λk=>decide<|cD r.bA (cc k)=none) λq=>bj<|(dw q).symm.trans bB];exact bd
  |none=>have xa:d0 C .je (cc k) (.L<|Q.q+3)=some true:=xa.trans<|ai (λo:Option I=>some<|!o.isSome) bB;have oG:tr.length<16000000:=c1 (cT _ _) aj;refine oX (k:=cc k) (v:=J 1) X.wV (X.pos 1 rfl) wW (V (c2 _) oG) λaw Y fy=> ?_;have dB:bE A aw Q {r with tr:=tr} (tr++[k]) v:=X.Ci<|eF (OA Cj) fy;refine ut (v:=cc k) dB.dZ (X.pos 3 rfl) (V (c2 _) oG) λbn ae e1=> ?_;have fo:bE A bn Q {r with tr:=tr++[k]} (tr++[k]) v:=dB.GQ<|eF (iI (f:=cc) (l₁:=tr) (l₂:=[k])).symm e1;have f2:=(fy.bU.ci (ns:=[Q.q+2,Q.dZ]) λB q=>bT q▸bp).trans<|e1.bU.ci λB q=>bQ _ q;refine ay (H:=ar H 2<|cc k) fo aG.2 (λx ac q=>(gc q).elim (hn x<|bQ _ ac) λq=>aG.1<|bT q▸ac) (f2.get an ag) (by rw[er,i0,m9 [k].length];exact aj) h0 λaU S g1 bd cQ=>aq aU S (eT (iw an) (eK λk=>k _ rfl _ h0 _ X.rB _ yl _ rfl _ h0 _ X.rC _ xa _ h0 _ X.rB _ rfl _ Y _ h0 _ dB.s8 _ (lI dB.dZ) _ rfl _ _<|lJ dB.dZ ae) g1) ?_<|f2.trans cQ;rw[xD (p:=λk=>decide<|cD r.bA (cc k)=none) (cj bB),List.append_cons];exact bd
def abH(X:bE A C Q r r.tr v)(ao:ju r.bA)(Y:C[dW]? =some (.list N))(ae:C[d3]? =some (.list<|aB.map cc))(du:dW∉Q.iz)(n2:d3∉Q.iz)(aG:aB.Nodup)(ed:∀k∈aB,k∉r.tr)(an:r.tr.length+aB.length<16000000)(hn:r.ns.length+N.length<16000000)(aq:∀S,a0 a2 (d+1) 57 [.L Q.q,.ak [.L dW,.L d3]] C=some (.none,S)->bE A S Q {r with tr:=r.tr++aB.filter λk=>decide<|cD r.bA (cc k)=none,ns:=r.ns++N} (r.tr++aB.filter λk=>decide<|cD r.bA (cc k)=none) v->bx C S [Q.q+7,Q.q+2,Q.dZ]->R):R:=by have PC:Q.q+7∈Q.iz:=dL (i:=5) rfl;have x:=Mf X.mx (X.pos 6 rfl) Y (λq=>du<|q▸PC) hn;have u:hM C (Q.q+7) (.list<|r.ns++N) (C.set (Q.q+7)<|.list<|r.ns++N):=rfl;have bd:=u.get ae λq=>n2<|q▸PC;refine abG (d:=d) (r:={r with ns:=r.ns++N}) ao (λq:d3∈[Q.q+2,Q.dZ]=>(cR q).elim (λe=>n2<|e▸dL (i:=1) rfl) λq=>n2<|bT q▸dL (i:=3) rfl) aB (H:=ck [.L Q.q,.ak [.L dW,.L d3]]) (X.GR u) aG ed bd an rfl λaU S c ih f=>aq S (p6 λk=>k _ rfl _ X.qn _ X.qo _ (lI X.mx) _ rfl _ (bZ (i:=0) rfl) _ _ (lJ X.mx x) _ _ _<|wj (jk λk=>k _<|bZ (i:=1) rfl) (lO bd) c) ih<|(u.bU.ci λB q=>bT q▸bp).trans<|f.ci λB q=>bQ _ q
def cB.nE(W:cb Z ex z w)(O:cB Z ex z w bo)(f:bx bo.C fD [w.Q.q+2,w.Q.dZ,w.Q.q+7])(f6:bE Z.A fD w.Q {bo.r with tr:=w.r.tr,ns:=w.r.ns} w.r.tr (kM bo.eV)):cB Z ex z w {bo with C:=fD,r:={bo.r with tr:=w.r.tr,ns:=w.r.ns}}:=by have m:bo.r.aM=w.r.aM:=V O.same rfl;have q:bo.Q=w.Q:=O.q;have kh:=O.ok.k;refine O.ext.elim λaB e=>O.rF.elim λF w0=> ?_;have t:=O.ok.de (eM:=z) (r':={bo.r with tr:=w.r.tr,ns:=w.r.ns}) f (λa h=>q▸(cR h).elim (λe=>e▸dL (i:=1) rfl) λh=>(cR h).elim (λe=>e▸dL (i:=3) rfl) λh=>bT h▸dL (i:=5) rfl) ⟨q▸f6,kh.aM,W.k.aG,λk ao=>(W.k.kL k ao).pre O.pre,λk ao=>V m<|V (gp W.dy O.pre (W.k.kL k ao).1)<|V (gp W.dy O.pre (W.k.kL k ao).2)<|W.k.my k ao,kh.knd,kh.bA,λk ao=>kh.td k<|e.1▸jh _ ao,kh.dn,kh.te,a3 W.k.jR<|fm (m4 9<|hB (w0▸V er (cT _ _)) _) _⟩;exact⟨t.1,O.pre,O.bU.trans t.2,q,V O.same rfl,⟨[],(ew _).symm,λB B=>fO⟩,O.rF,⟨[],(ew _).symm,λB=>rfl⟩,O.pk⟩
end
end
section
structure xb(Z:hG)(ex:List (Nat×Nat))(z:Nat)(w:gB)(dW d3:Nat)(N:List I)(aB:List (Nat×Nat))(kO F:List (I×I)):Prop where
 a6:w.C[dW]? =some (.list N)
 bR:w.C[d3]? =some (.list<|aB.map cc)
 gT:dW∉hZ Z w
 gD:d3∉hZ Z w
 aG:aB.Nodup
 mem:∀k∈aB,k∉w.r.tr/\iC w.T k/\(k∈ex\/hY Z.P w.r.aM (aE w.T k.1) (aE w.T k.2) true)/\cD kO (cc k)=none
 bA:w.r.bA=kO++F
 jR:w.r.ns.length+N.length+z<=9*(w.r.tr.length+(aB.length+kO.length))+4000000
def abI(Z:hG)(ex:List (Nat×Nat))(z:Nat)(w:gB)(lax:I):Prop:=∃dW d3 N aB kO F,lax=.ak [.L dW,.L d3]/\xb Z ex z w dW d3 N aB kO F
def CH(Z:hG)(m:Nat)(aI gG:List af):Prop:=(m=3->¬cK Z.P aI gG)/\(m≠3->hY Z.P m aI gG false)
def PD(Z:hG)(w:gB)(aI gG:List af):Prop:=(w.r.aM=3->lW Z w.T w.r.tr aI gG)/\(w.r.aM≠3->hY Z.P w.r.aM aI gG true)
def zt(Z:hG)(ex:List (Nat×Nat))(z:Nat)(aI:List af)(eN:Nat->List af)(pre:List Nat)(lax:I)(w:gB):Prop:=(lax=.none/\∀p∈pre,CH Z w.r.aM aI<|eN p)\/(abI Z ex z w lax/\w.r.aM≠3/\(∀p∈pre,¬(w.r.aM≠2/\iR Z.P aI (eN p)))/\∃p∈pre,hY Z.P w.r.aM aI (eN p) true)
structure abJ(Z:hG)(w:gB)(aI:List af)(eN:Nat->List af)(ps:List Nat)(b:Bool)(az:gB):Prop where
 cW:b=false->∀p∈ps,CH Z w.r.aM aI<|eN p
 iy:b->∃p∈ps,PD Z az aI<|eN p
 kK:w.r.aM≠3->w.r.aM≠2->(∃p∈ps,iR Z.P aI<|eN p)->b/\az.r.ns=w.r.ns
noncomputable def Hw(i:Nat):dA:=H6.body.getD i .fA
section
variable{dW d3:Nat}{N:List I}{F:List (I×I)}{all:List Nat}
def cb.abK(W:cb Z ex z w):∀a∈hZ Z w,a<w.C.length:=λa h=>(cR h).elim (λe=>e▸fc W.au.lG) λh=>(cR h).elim (λe=>e▸fc W.au.av) λh=>(gc h).elim (λh=>W.k.bz.lt<|u9 a h) λh=>by
 cases e:w.eV with
 |none=>exact fO (ai zf e▸h:a∈zf none)
 |some p=>exact(W.eV p e).1.bz.lt<|u9 a (ai zf e▸h:a∈zf (some p))
def xb.go(W:cb Z ex z w)(h:xb Z ex z w dW d3 N aB kO F)(O:cB Z ex z w az)(aD:az.r.tr=w.r.tr)(aF:az.r.ns=w.r.ns):∃lA,xb Z ex z az dW d3 N aB kO lA:=O.rF.elim λlA f=>
 have m:az.r.aM=w.r.aM:=V O.same rfl;have cW:∀{l:Nat} {o:b5},w.C[l]? =some o->l∉hZ Z w->l∉hZ Z az:=λh n q=>(O.bU.own _ q).elim n<|Nat.not_le.mpr<|fc h
 ⟨F++lA,O.bU.get h.a6 h.gT,O.bU.get h.bR h.gD,cW h.a6 h.gT,cW h.bR h.gD,h.aG,λk ao=>have q:=h.mem k ao;⟨aD.symm▸q.1,q.2.1.pre O.pre,V m<|V (gp W.dy O.pre q.2.1.1)<|V (gp W.dy O.pre q.2.1.2) q.2.2.1,q.2.2.2⟩,f.trans ((ai (·++lA) h.bA).trans<|iG _ _ _),V aD<|V aF h.jR⟩
def abL(aX:∀p∈all,∀bG,cB Z ex z fW bG->∃b bo,a0 a2 (d+1) 40 [.L bG.Q.q,J s,J p] bG.C=some (.bool b,bo.C)/\iS Z ex z bG aI (eN p) b bo)(ps:List Nat):∀{pre:List Nat} {w:gB} {H:bS} {lax:I},pre++ps=all->cB Z ex z fW w->w.r.tr=fW.r.tr->w.r.ns=fW.r.ns->zt Z ex z aI eN pre lax w->H 0=some (.L w.Q.q)->H 1=some (J s)->H 3=some lax->
  (∀c aU az,fX (λB=>true) (λx H s=>cG (bk<|d+2) (jO<|Hw 1) (ar H 4 x) s) (ps.map J) H w.C=some (c,aU,az.C)->cB Z ex z fW az->az.r.ns=fW.r.ns->aU 0=some (.L az.Q.q)->(c=.ret (.bool true)/\∃p∈all,PD Z az aI<|eN p)\/(c=.next/\∃PE,az.r.tr=fW.r.tr/\aU 3=some PE/\zt Z ex z aI eN all PE az)->R)->R:=by
 induction ps with
 |nil=>exactλe O aD aF a h0 B ba aq=>aq .next _ _ rfl O aF h0 (.inr ⟨rfl,_,aD,ba,(ew _).symm.trans e▸a⟩)
 |cons p ps ay=>
  intro pre w H lax e O aD aF a h0 Y ba aq;have W:=O.ok;have PF:p∈all:=e▸i1 _ bp;have e':(pre++[p])++ps=all:=(iG _ _ _).trans e;refine(aX p PF w O).elim λb h=>h.elim λbo h=> ?_;have A:=h.2;have q:bo.Q=w.Q:=A.out.q;have m:bo.r.aM=w.r.aM:=V A.out.same rfl;have vh:H 0=some (.L bo.Q.q):=h0.trans<|ai (λQ=>some<|I.L<|fp.q Q) q.symm;have ask:a0 a2 (d+2) 30 [.L w.Q.q,J s,J p] w.C=some (.bool b,bo.C):=go λk=>k _ _ h.1;have mk:=OF (d:=d+1) W.k.bz;have d9:=O.trans A.out;have next:∀{fx:gB} {kg:bS} {PG:I},cG (bk<|d+2) (jO<|Hw 1) (ar H 4<|J p) w.C=some (.next,kg,fx.C)->cB Z ex z w fx->fx.r.tr=w.r.tr->fx.r.ns=w.r.ns->kg 0=some (.L fx.Q.q)->kg 1=some (J s)->kg 3=some PG->zt Z ex z aI eN (pre++[p]) PG fx->R:=λst oa tm fC fV g1 cQ uo=>ay e' (O.trans oa) (tm.trans aD) (fC.trans aF) uo fV g1 cQ λc aU az f dK fk oj qy=>aq c aU az (eT rfl st f) dK fk oj qy
  have tf:∀{fx:gB},cB Z ex z w fx->fx.r.tr=w.r.tr->fx.r.ns=w.r.ns->(CH Z w.r.aM aI (eN p)\/(w.r.aM≠3/\¬(w.r.aM≠2/\iR Z.P aI (eN p))/\lax≠.none))->zt Z ex z aI eN (pre++[p]) lax fx:=λ{fx} oa tm fC ab=>by
   have bl:fx.r.aM=w.r.aM:=V oa.same rfl;delta zt;rw[bl];have l8:w.r.aM≠3->¬(w.r.aM≠2/\iR Z.P aI (eN p)):=λn f=>ab.elim (λq=>Bool.noConfusion<|(q.2 n).kK f.1 f.2) λq=>q.2.1 f;exact a.elim (λa=>.inl ⟨a.1,λx ac=>(gc ac).elim (a.2 x) λac=>bT ac▸ab.resolve_right λq=>q.2.2 a.1⟩) λa=>.inr ⟨a.1.elim λdW h=>h.elim λd3 h=>h.elim λN h=>h.elim λaB h=>h.elim λkO h=>h.elim λF h=>(h.2.go W oa tm fC).elim λlA g=>⟨dW,d3,N,aB,kO,lA,h.1,g⟩,a.2.1,λx ac=>(gc ac).elim (a.2.2.1 x) λac=>bT ac▸l8 a.2.1,a.2.2.2.imp λx ac=>⟨jh _ ac.1,ac.2⟩⟩
  cases b with
  |false=>exact next (kg:=ar (ar H 4<|J p) 5<|.ak [J w.r.ns.length,J w.r.tr.length]) (eK λk=>k _ h0 _ W.k.bz.zd _ _ mk _ h0 _ W.k.bz.pj _ Y _ rfl _ _ ask) A.out (A.zg rfl).1 (A.zg rfl).2 vh Y ba (tf A.out (A.zg rfl).1 (A.zg rfl).2<|.inl ⟨λm=>A.neg m rfl,A.iT⟩)
  |true=>
   have fo:bE Z.A bo.C w.Q bo.r bo.r.tr (kM bo.eV):=q▸A.out.ok.k.bz;refine A.out.ext.elim λaB zu=>A.out.u8.elim λN zv=> ?_;have CI:bo.r.ns.length=w.r.ns.length+N.length:=(ai List.length zv.1).trans er;have PH:bo.r.tr.length=w.r.tr.length+aB.length:=(ai List.length zu.1).trans er;by_cases fE:N.length=0
   ·have fC:bo.r.ns.length=w.r.ns.length:=CI.trans (ai (w.r.ns.length+·) fE);have nn:bo.r.ns=w.r.ns:=zv.1.trans<|yL.mp fE▸ew _;exact aq _ _ bo (mS rfl<|eK λk=>k _ h0 _ W.k.bz.zd _ _ mk _ h0 _ W.k.bz.pj _ Y _ rfl _ _ ask _ h0 _ fo.qn _ fo.qo _ _ (oW fo.mx) _ rfl _ (bZ (i:=0) rfl) _<|cY fC) d9 (nn.trans aF) vh<|.inl ⟨rfl,p,PF,λbl=>A.pos (bu m bl) rfl,λbl=>m.symm▸A.iT λq=>bl<|m.trans q⟩
   ·have bl:w.r.aM≠3:=λq=>fE<|ai List.length<|zv.2 q;have fC:¬bo.r.ns.length=w.r.ns.length:=λq=>fE<|Nat.add_left_cancel<|bu CI<|q.trans (Nat.add_zero _).symm;have l8:¬(w.r.aM≠2/\iR Z.P aI (eN p)):=λf=>fC<|ai List.length<|A.clean f.1 f.2;have tm:bo.r.tr.take w.r.tr.length=w.r.tr:=zu.1▸List.take_left;have ax:bo.r.ns.take w.r.ns.length=w.r.ns:=zv.1▸List.take_left;have kH:w.r.ns.length<=bo.r.ns.length:=CI▸cT _ _;have fF:w.r.tr.length<=bo.r.tr.length:=PH▸cT _ _;have kh:=A.out.ok.k;have aj:bo.r.tr.length<16000000:=c1 (kh.tg A.out.ok.lX) (by decide);have nE:∀{g:St} {P:Prop},(∀fD,a0 a2 (d+2) 34 [.L w.Q.q,.ak [J w.r.ns.length,J w.r.tr.length]] (bo.C++g)=some (.none,fD)->cB Z ex z w {bo with C:=fD,r:={bo.r with tr:=w.r.tr,ns:=w.r.ns}}->bx (bo.C++g) fD [w.Q.q+2,w.Q.dZ,w.Q.q+7]->P)->P:=λ{g P} k=>OH (d:=d) (fo.push g) kh.aG kH fF aj λfD eR f6 f4=>k fD (go λr=>r _ _ eR) (A.out.nE W ((bx.push bo.C g _).trans f4) (by rw[tm,ax]at f6;exact f6)) f4;by_cases ac:lax=.none
    ·subst ac;have be:nj (.L<|w.Q.q+7) (some<|J w.r.ns.length) none bo.C=some (.L bo.C.length,bo.C++[.list N]):=(F1 fo.mx (W.k.G2 W.lX) kH).trans (by rw[zv.1,List.drop_left]);have nd:=fo.push [.list N];have bF:nj (.L w.Q.dZ) (some<|J w.r.tr.length) none (bo.C++[.list N])=some (.L (bo.C++[b5.list N]).length,bo.C++[.list N]++[.list<|aB.map cc]):=(F1 nd.dZ (c1 (W.k.tg W.lX)<|by decide)<|V (c2 _) fF).trans (by rw[<-List.map_drop,zu.1,List.drop_left]);have f6:=nd.push [.list<|aB.map cc];refine nE (g:=[.list N]++[.list<|aB.map cc]) λfD eR pp f4=> ?_;rw[<-iG]at eR f4;have ol:=A.out.ok.abK;have ln:(bo.C++[b5.list N]).length=bo.C.length+1:=er;have d8:∀l,bo.C.length<=l->l∉hZ Z {bo with C:=fD,r:={bo.r with tr:=w.r.tr,ns:=w.r.ns}}:=λl an h=>lv an<|ol l h;have PI:∀l,bo.C.length<=l->l∉[w.Q.q+2,w.Q.dZ,w.Q.q+7]:=λl an h=>lv an<|fo.lt<|(cR h).elim (λe=>e▸dL (i:=1) rfl) λh=>(cR h).elim (λe=>e▸dL (i:=3) rfl) λh=>bT h▸dL (i:=6) rfl;have aG:=kU.mp (zu.1▸kh.aG:(w.r.tr++aB).Nodup);have vi:∀k∈aB,k∈bo.r.tr:=λk ao=>zu.1▸i1 _ ao;refine next (fx:={bo with C:=fD,r:={bo.r with tr:=w.r.tr,ns:=w.r.ns}}) (kg:=ar (ar (ar H 4<|J p) 5<|.ak [J w.r.ns.length,J w.r.tr.length]) 3<|.ak [.L bo.C.length,.L (bo.C++[b5.list N]).length]) (eK λk=>k _ h0 _ W.k.bz.zd _ _ mk _ h0 _ W.k.bz.pj _ Y _ rfl _ _ ask _ h0 _ fo.qn _ fo.qo _ _ (oW fo.mx) _ rfl _ (bZ (i:=0) rfl) _ (bN fC) _ ba _ rfl _ h0 _ fo.qn _ fo.qo _ rfl _ (bZ (i:=0) rfl) _ _ be _ h0 _ nd.s8 _ rfl _ (bZ (i:=1) rfl) _ _ bF _ h0 _ f6.Ow _ rfl _ _ eR) pp rfl rfl vh Y rfl ?_
     refine .inr ⟨⟨_,_,N,aB,bo.r.bA,[],rfl,f4.get ((bx.push (bo.C++[b5.list N]) _ []).get ea b4)<|PI _<|gF _,f4.get ea<|PI _<|ln▸j1 _,d8 _<|gF _,d8 _<|ln▸j1 _,aG.2.1,λk ao=>⟨λq=>aG.2.2 k q k ao rfl,kh.kL k<|vi k ao,(kh.my k<|vi k ao).resolve_left λq=>bl<|bu m q,kh.td k<|vi k ao⟩,(ew _).symm,?_⟩,λq=>bl<|bu m q,?_⟩
     ·have:=kh.jR;rw[CI,PH,i0 w.r.tr.length]at this;exact this
     ·show(∀x∈pre++[p],¬(bo.r.aM≠2/\iR Z.P aI (eN x)))/\∃x∈pre++[p],hY Z.P bo.r.aM aI (eN x) true;rw[m];have cW:=a.resolve_right λa=>a.1.elim λB h=>h.elim λB h=>h.elim λB h=>h.elim λB h=>h.elim λB h=>h.elim λB h=>nomatch h.1;exact⟨λx ac=>(gc ac).elim (λac f=>Bool.noConfusion<|((cW.2 x ac).2 bl).kK f.1 f.2) λac=>bT ac▸l8,p,i1 _ bp,A.iT bl⟩
    ·have vO:d0 bo.C .is lax .none=some false:=ai some<|co ac;refine nE (g:=[]) λfD eR pp f4=> ?_;rw[ew]at eR;exact next (fx:={bo with C:=fD,r:={bo.r with tr:=w.r.tr,ns:=w.r.ns}}) (kg:=ar (ar H 4<|J p) 5<|.ak [J w.r.ns.length,J w.r.tr.length]) (eK λk=>k _ h0 _ W.k.bz.zd _ _ mk _ h0 _ W.k.bz.pj _ Y _ rfl _ _ ask _ h0 _ fo.qn _ fo.qo _ _ (oW fo.mx) _ rfl _ (bZ (i:=0) rfl) _ (bN fC) _ ba _ vO _ h0 _ fo.Ow _ rfl _ _ eR) pp rfl rfl vh Y ba (tf pp rfl rfl<|.inr ⟨bl,l8,ac⟩)
end
end
section
section
variable{dW d3:Nat}{ac7:Nat->List af}{N:List I}{F:List (I×I)}{all ps:List Nat}{a b:af}
def xb.abM(W:cb Z ex z w)(bl:w.r.aM≠3)(h:xb Z ex z w dW d3 N aB kO F)(aq:∀az,a0 a2 (d+1) 57 [.L w.Q.q,.ak [.L dW,.L d3]] w.C=some (.none,az.C)->cB Z ex z w az->R):R:=by
 have K:=W.k;have ed:aB.length<=160000:=c2 (as:=aB) cc▸G1 (sU h.aG λB B B B=>u3) (λx ac=>(e3 ac).imp λk ao=>⟨ao.2.symm,(h.mem k ao.1).2.1⟩) W.lX;have x7:w.r.bA.length=kO.length+F.length:=(ai List.length h.bA).trans er;have fE:w.r.ns.length+N.length<16000000:=c1 (a3 (cT _ z)<|a3 h.jR<|fm (m4 9<|lg (K.tg W.lX)<|lg ed<|a3 (a3 (cT _ _)<|cP x7.symm)<|K.Cq W.lX) _) (by decide);refine abH (d:=d) K.bz K.wZ h.a6 h.bR (λq=>h.gT<|rG _ q) (λq=>h.gD<|rG _ q) h.aG (λk ao=>(h.mem k ao).1) (c1 (lg (K.tg W.lX) ed)<|by decide) fE λS c X f=> ?_;have vi:∀k∈w.r.tr++aB.filter (λk=>decide<|cD w.r.bA (cc k)=none),k∈w.r.tr\/(k∈aB/\cD w.r.bA (cc k)=none):=λk ao=>(gc ao).imp_right λao=>(pP ao).imp_right dw;have t:=W.de (eM:=z) (r':={w.r with tr:=w.r.tr++aB.filter λk=>decide<|cD w.r.bA (cc k)=none,ns:=w.r.ns++N}) f (λa h=>(cR h).elim (λe=>e▸dL (i:=5) rfl) λh=>(cR h).elim (λe=>e▸dL (i:=1) rfl) λh=>bT h▸dL (i:=3) rfl)
  ⟨X,K.aM,kU.mpr ⟨K.aG,h.aG.sublist List.filter_sublist,λx ac y a8 e=>(h.mem y (pP a8).1).1<|e▸ac⟩,λk ao=>(vi k ao).elim (K.kL k) λq=>(h.mem k q.1).2.1,λk ao=>(vi k ao).elim (K.my k) λq=>.inr (h.mem k q.1).2.2.1,K.knd,K.bA,λk ao=>(vi k ao).elim (K.td k) And.right,K.dn,K.te,?_⟩
 ·exact aq _ c ⟨t.1,.refl _,t.2,rfl,rfl,⟨_,rfl,λm=>absurd m bl⟩,⟨[],(ew _).symm⟩,⟨N,rfl,λm=>absurd m bl⟩,λB=>rfl⟩
 ·have n:=abF (F:=F) h.aG λk ao=>(h.mem k ao).2.2.2;rw[<-h.bA]at n;show(w.r.ns++N).length+z<=9*((w.r.tr++aB.filter λk=>decide<|cD w.r.bA (cc k)=none).length+w.r.bA.length)+4000000;rw[er,er,x7];refine a3 h.jR<|fm (m4 9 ?_) _;rw[i0,m9 kO.length,<-i0 (List.length _) F.length];exact hB (fm n _) _
def PJ(W:cb Z ex z fW)(aX:∀p∈all,∀bG,cB Z ex z fW bG->∃b bo,a0 a2 (d+1) 40 [.L bG.Q.q,J s,J p] bG.C=some (.bool b,bo.C)/\iS Z ex z bG aI (eN p) b bo)(aq:∀b az,a0 a2 (d+3) 56 [.L fW.Q.q,J s,.ak<|all.map J] fW.C=some (.bool b,az.C)->cB Z ex z fW az->abJ Z fW aI eN all b az->R):R:=by
 refine abL (d:=d) aX all (pre:=[]) (H:=ar (ck [.L fW.Q.q,J s,.ak<|all.map J]) 3 .none) rfl (.refl W) rfl rfl (.inl ⟨rfl,λB=>fO⟩) rfl rfl rfl λc aU az f O fC h0 h=> ?_;have g0:cr (bk<|d+2) (Hw 1) (ar (ck [.L fW.Q.q,J s,.ak<|all.map J]) 3 .none) fW.C=some (c,aU,az.C):=lM (fJ rfl) f;have m:az.r.aM=fW.r.aM:=V O.same rfl;refine h.elim (λq=> ?_) λq=> ?_
 ·obtain⟨rfl,q⟩:=q;exact aq true az (gj [false,true] λk=>k _ _ _ g0) O ⟨nofun,λB=>q,λB B B=>⟨rfl,fC⟩⟩
 ·obtain⟨rfl,lax,tm,ba,a⟩:=q;refine a.elim (λg=> ?_) λg=> ?_
  ·obtain⟨rfl,g⟩:=g;exact aq false az (q9 [false,true] λk=>k _ _ _ g0 _ ba _ rfl) O ⟨λB=>m▸g,nofun,λn2 js q=>q.elim λp ab=>Bool.noConfusion<|((m▸g p ab.1:CH Z fW.r.aM aI (eN p)).2 n2).kK js ab.2⟩
  ·obtain⟨⟨dW,d3,N,aB,kO,F,rfl,h⟩,bl,g⟩:=g;exact h.abM (d:=d+1) O.ok bl λbo bR d9=>have cU:bo.r.aM=az.r.aM:=V d9.same rfl
    aq true bo (q9 [false,true] λk=>k _ _ _ g0 _ ba false rfl _ h0 _ ba _ _ bR) (O.trans d9) ⟨nofun,λB=>g.2.imp λp ab=>⟨ab.1,λm=>absurd (bu cU m) bl,λB=>cU.symm▸ab.2⟩,λB js q=>q.elim λp ab=>absurd ⟨λq=>js<|bu m q,ab.2⟩<|g.1 p ab.1⟩
end
end
section
def Hx(n:Nat)(T:List af)(p:Nat):Prop:=∃a,T[p]? =some a/\a.kind≠6/\gJ n (aE T p)/\p≠0
section
variable{T:List af}{n p:Nat}{ps:List Nat}{x:af}{c:List af}
def gJ.sub(h:gJ n c)(k:∀x∈bK,x∈c):gJ n bK:=⟨λx ac=>h.1 x<|k x ac,λhn x ac=>h.2 hn x<|k x ac⟩
def pv(G:bO T)(h:T[s]? =some (.dI ps))(ab:p∈ps):∃q,T[p]? =some q/\q.kind≠6/\p≠0/\p≠1/\aE T p=[ct q]/\ct q∈aE T s:=have u:=(show m3 T ps from G.row s _ h).o3 p ab
 u.2.2.2.2.2.2.imp λq aC=>⟨aC.1,aC.2,u.1,u.2.1,uK G aC.1 aC.2 u.2.2.1,(Bw G h).symm▸i2 ⟨p,ab,ai lP aC.1⟩⟩
def rI(G:bO T)(h:T[s]? =some (.dI ps))(ac:x∈aE T s):∃p∈ps,aE T p=[x]:=(e3 (Bw G h▸ac:x∈lc T ps)).imp λp ab=>⟨ab.1,(pv G h ab.1).elim λq aC=>aC.2.2.2.2.1.trans<|ai (λx=>[x])<|(ai lP aC.1).symm.trans ab.2⟩
def xc(G:bO T)(h:T[s]? =some (.dI ps))(ag:gJ n (aE T s))(ab:p∈ps):Hx n T p:=(pv G h ab).elim λq aC=>⟨q,aC.1,aC.2.1,ag.sub λx ac=>(bT (aC.2.2.2.2.1▸ac):x=ct q)▸aC.2.2.2.2.2,aC.2.2.1⟩
def CJ(G:bO T)(h:T[s]? =some (.dI ps)):(aE T s).length≠1:=λe=>absurd (a3 (show m3 T ps from G.row s _ h).j6<|cP<|(c2 _).symm.trans<|(ai List.length<|Bw G h).symm.trans e) (by decide)
end
section
variable{n p q e:Nat}{ps:List Nat}{a b:af}{i:Bool}
def abN(c4:mC i d n Z)(ah:decide (w.r.aM=3)=i)(W:cb Z ex (z+e) w)(he:s=0->1<=e)(X:ki n 2 w.r)(bw:w.r.tr≠[])(aT:w.T[s]? =some a)(aj:w.T[t]? =some b)(dh:a.kind≠6)(da:b.kind≠6)(cs:gJ n (aE w.T s))(eJ:gJ n (aE w.T t))(hex:ex=[]\/((∀k∈ex,∃ps,w.T[k.2]? =some (.dI ps))/\¬(a.shaped=true/\b.shaped))):
  ∃b az,a0 a2 (d+18) 40 [.L w.Q.q,J s,J t] w.C=some (.bool b,az.C)/\iS Z ex z w (aE w.T s) (aE w.T t) b az:=
 PA c4 ah W he X aT aj dh da cs eJ hex (λc bG h A B B=>⟨c,bG,h,A⟩) λu v aw cz eg K B=>K.ask (d:=d+15) bw<|c7 (nz<|pI _) X.dl
def Hy(c4:mC i d n Z)(ah:decide (w.r.aM=3)=i)(W:cb Z ex eM w)(X:ki n 2 w.r)(bw:w.r.tr≠[])(ab:Hx n w.T p)(aC:Hx n w.T q)(hex:ex=[]\/((∀k∈ex,∃ps,w.T[k.2]? =some (.dI ps))/\∀a b,w.T[p]? =some a->w.T[q]? =some b->¬(a.shaped=true/\b.shaped)))(bG:gB)(O:cB Z ex z w bG):
  ∃b bo,a0 a2 (d+18) 40 [.L bG.Q.q,J p,J q] bG.C=some (.bool b,bo.C)/\iS Z ex z bG (aE w.T p) (aE w.T q) b bo:=
 ab.elim λa aT=>aC.elim λb aj=>by
  have aD:=gp W.dy O.pre<|ai Option.isSome aT.1;have aF:=gp W.dy O.pre<|ai Option.isSome aj.1;have k:=abN (e:=0) c4 (V (ai eL.aM O.same) ah) O.ok (λh=>absurd h aT.2.2.2) (O.Py X) (O.ext.elim λaB e q=>bw (vb.mp<|bu e.1 q).1) (O.pre.get aT.1) (O.pre.get aj.1) aT.2.1 aj.2.1 (aD▸aT.2.2.1) (aF▸aj.2.2.1)<|hex.imp_right λh=>⟨λk ao=>(h.1 k ao).imp λB q=>O.pre.get q,h.2 a b aT.1 aj.1⟩;rw[aD,aF]at k;exact k
def abO(bl:fW.r.aM=3)(aX:∀p∈ps,∀q∈c8,∀bG,cB Z ex z fW bG->∃b bo,a0 a2 (d+1) 40 [.L bG.Q.q,J p,J q] bG.C=some (.bool b,bo.C)/\iS Z ex z bG (eN p) (eN q) b bo):∀{w:gB} {H:bS},cB Z ex z fW w->H 0=some (.L w.Q.q)->H 2=some (.ak<|c8.map J)->
  (∀c aU az,fX (λB=>true) (λx H s=>cG (bk<|d+3) (jO<|H8.body.getD 0 .fA) (ar H 3 x) s) (ps.map J) H w.C=some (c,aU,az.C)->cB Z ex z w az->(c=.next/\∀p∈ps,∃q∈c8,lW Z az.T az.r.tr (eN p)<|eN q)\/(c=.ret (.bool false)/\∃p∈ps,∀q∈c8,¬cK Z.P (eN p) (eN q))->R)->R:=by
 induction ps with
 |nil=>exactλO h0 B aq=>aq .next _ _ rfl (.refl O.ok) (.inl ⟨rfl,λB=>fO⟩)
 |cons p ps ay=>
  intro w H O h0 ae aq;have m:w.r.aM=3:=V (ai eL.aM O.same) bl;refine PJ (d:=d) (s:=p) (aI:=eN p) (eN:=eN) (all:=c8) O.ok (λq aC bG cv=>aX p bp q aC bG<|O.trans cv) λb bG a6 cv a9=> ?_;cases b with
  |false=>exact aq _ _ bG (mS rfl<|eK λk=>k _ h0 _ rfl _ ae _ _ a6) cv<|.inr ⟨rfl,p,bp,λq aC=>(a9.cW rfl q aC).1 m⟩
  |true=>exact ay (H:=ar H 3<|J p) (λp ab=>aX p<|bQ _ ab) (O.trans cv) (h0.trans<|ai (λQ=>some<|I.L<|fp.q Q) cv.q.symm) ae λc aU az f1 d9 f2=>aq c aU az (eT rfl (eK λk=>k _ h0 _ rfl _ ae _ _ a6) f1) (cv.trans d9)<|f2.imp (λg=>⟨g.1,λx ac=>(cR ac).elim (λe=>e▸(a9.iy rfl).imp λq aC=>⟨aC.1,d9.up cv.ok _ _<|aC.2.1<|V (ai eL.aM cv.same) m⟩)<|g.2 x⟩) λg=>⟨g.1,g.2.imp λp ab=>⟨bQ _ ab.1,ab.2⟩⟩
def PK(bl:w.r.aM=3)(W:cb Z ex z w)(aX:∀p∈ps,∀q∈c8,∀bG,cB Z ex z w bG->∃b bo,a0 a2 (d+1) 40 [.L bG.Q.q,J p,J q] bG.C=some (.bool b,bo.C)/\iS Z ex z bG (eN p) (eN q) b bo)(aq:∀b az,a0 a2 (d+4) 60 [.L w.Q.q,.ak<|ps.map J,.ak<|c8.map J] w.C=some (.bool b,az.C)->cB Z ex z w az->(b=true->∀p∈ps,∃q∈c8,lW Z az.T az.r.tr (eN p)<|eN q)->(b=false->∃p∈ps,∀q∈c8,¬cK Z.P (eN p) (eN q))->R):R:=by
 refine abO (d:=d) bl aX (H:=ck [.L w.Q.q,.ak<|ps.map J,.ak<|c8.map J]) (.refl W) rfl rfl λc aU az f O h=> ?_;have gZ:=lM (O:=bk<|d+3) (i:=3) (cf:=.E 1) (fJ rfl) f;refine h.elim (λq=> ?_) λq=> ?_
 ·obtain⟨rfl,q⟩:=q;exact aq true az (gj [true] λk=>k _ _ _ gZ) O (λB=>q) nofun
 ·obtain⟨rfl,q⟩:=q;exact aq false az (gj [true] λk=>k _ _ _ gZ) O nofun λB=>q
def abP(c4:mC true d n Z)(bl:w.r.aM=3)(W:cb Z [] z w)(X:ki n 2 w.r)(bw:w.r.tr≠[])(aJ:w.T[s]? =some (.dI ps))(aP:w.T[t]? =some (.dI c8))(cs:gJ n (aE w.T s))(eJ:gJ n (aE w.T t)):∃c az,a0 a2 (d+22) 59 [.L w.Q.q,J s,J t] w.C=some (.bool c,az.C)/\lY Z [] z w (aE w.T s) (aE w.T t) c az:=by
 have G:=W.cX;have ah:=cj bl;refine PK (d:=d+17) bl W (λp ab q aC=>Hy c4 ah W X bw (xc G aJ cs ab) (xc G aP eJ aC)<|.inl rfl) λb bG a6 cv pos neg=> ?_;have es:bG.r.aM=3:=V (ai eL.aM cv.same) bl;have W1:=cv.ok;cases b with
 |false=>exact⟨false,bG,go λk=>k _ W.k.bz.c5 _ W.au.cy _ W.au.cJ _ (W.au.row aJ) _ (W.au.row aP) _ rfl _ rfl _ rfl _ rfl _ rfl _ (bZ (i:=1) rfl) _ (bZ (i:=1) rfl) _ _ a6,cv,λB=>nofun,λB B h=>(neg rfl).elim λp ab=>(pv G aJ ab.1).elim λx ac=>(h.eb.ml _ ac.2.2.2.2.2).elim λy a8=>(rI G aP a8.1).elim λq aC=>ab.2 q aC.1<|V ac.2.2.2.2.1<|V aC.2 a8.2,λm=>absurd bl m,λB B=>cv.wY bl⟩
 |true=>
  have up:∀{t:Nat},(w.T[t]?).isSome=true->aE bG.T t=aE w.T t:=gp W.dy cv.pre;refine PK (d:=d+17) (w:=bG) (ps:=c8) (c8:=ps) (eN:=aE w.T) es W1 (λq aC p ab bo d9=>Hy c4 ah W X bw (xc G aP eJ aC) (xc G aJ cs ab) (.inl rfl) bo<|cv.trans d9) λb bo bR d9 abQ abR=> ?_;have bR:a0 a2 (d+21) 60 [.L w.Q.q,.ak<|c8.map J,.ak<|ps.map J] bG.C=some (.bool b,bo.C):=eF (ai fp.q cv.q) bR;refine⟨b,bo,go λk=>k _ W.k.bz.c5 _ W.au.cy _ W.au.cJ _ (W.au.row aJ) _ (W.au.row aP) _ rfl _ rfl _ rfl _ rfl _ rfl _ (bZ (i:=1) rfl) _ (bZ (i:=1) rfl) _ _ a6 _ (bZ (i:=1) rfl) _ (bZ (i:=1) rfl) _ _ bR,cv.trans d9,λB e=>.inr ⟨CJ G aJ,CJ G aP,λx ac=> ?_,λy a8=> ?_⟩,λB e h=> ?_,λm=>absurd bl m,λB B=>(cv.trans d9).wY bl⟩
  ·exact(rI G aJ ac).elim λp ab=>(pos rfl p ab.1).elim λq aC=>(pv G aP aC.1).elim λy a8=>⟨_,a8.2.2.2.2.2,.inr<|eF ab.2<|eF a8.2.2.2.2.1<|d9.up W1 _ _ aC.2⟩
  ·exact(rI G aP a8).elim λq aC=>(abQ e q aC.1).elim λp ab=>(pv G aJ ab.1).elim λx ac=>⟨_,ac.2.2.2.2.2,.inr<|eF aC.2<|eF ac.2.2.2.2.1 ab.2⟩
  ·exact(abR e).elim λq aC=>(pv G aP aC.1).elim λy a8=>(h.eb.nO _ a8.2.2.2.2.2).elim λx ac=>(rI G aJ ac.1).elim λp ab=>aC.2 p ab.1<|V a8.2.2.2.2.1<|V ab.2 ac.2
end
end
section
section
variable{n p q e:Nat}{ps:List Nat}{a b x:af}{i:Bool}
def abS(W:cb Z ex z w)(ao:k≠5):a0 a2 (d+1) 35 [.L w.Q.q,J k,v,y] w.C=some (.bool false,w.C):=by have bB:=Mt W.k.bz.gI (rfl:e2 [(.int 5,.L w.Q.rule)] (J k)=true);rw[OW (b:=.int 5) (a:=J k) λe=>ao (k0 (I.int.inj e:Int.ofNat 5=Int.ofNat k)).symm]at bB;exact go λr=>r _ W.k.bz.GN _ (Fg W.k.bz.gI) _ _ (Fh W.k.bz.gI bB) _ rfl
def PL(W:cb Z ex z w)(aT:w.T[s]? =some a)(aj:w.T[t]? =some b)(h:a.kind=6/\b.kind≠6\/a.kind≠6/\b.kind=6):a0 a2 (d+1) 59 [.L w.Q.q,J s,J t] w.C=some (.bool false,w.C):=
 have PM:∀{r:af},r.kind=6->decide (r.kind∈[6,7])=true:=λh=>V h rfl
 h.elim (λh=>go λk=>k _ W.k.bz.c5 _ W.au.cy _ W.au.cJ _ (W.au.row aT) _ (W.au.row aj) _ cM _ cM _ (bN λq=>h.2<|bu q h.1) _ cM _<|ek<|fz [6,7]<|PM h.1)
  λh=>go λk=>k _ W.k.bz.c5 _ W.au.cy _ W.au.cJ _ (W.au.row aT) _ (W.au.row aj) _ cM _ cM _ (bN λq=>h.1<|q.trans h.2) _ cM _ (ek<|fz [6,7]<|Hf h.1) _ cM _<|ek<|fz [6,7]<|PM h.2
def abT(W:cb Z ex z w)(bl:w.r.aM≠3)(aT:w.T[s]? =some a)(aj:w.T[t]? =some (.dI c8))(dh:a.kind≠6)(aD:aE w.T s=[x])(aX:∀q∈c8,∀bG,cB Z ex z w bG->∃b bo,a0 a2 (d+1) 40 [.L bG.Q.q,J s,J q] bG.C=some (.bool b,bo.C)/\iS Z ex z bG (aE w.T s) (aE w.T q) b bo):
  ∃c az,a0 a2 (d+5) 53 [.L w.Q.q,J s,J t] w.C=some (.bool c,az.C)/\lY Z ex z w (aE w.T s) (aE w.T t) c az:=by
 have G:=W.cX;have ab:a0 a2 (d+3) 15 [.L Z.A.t,J t] w.C=some (.ak<|c8.map J,w.C):=dH (yk W.au.fZ aj)<|ai (λl:List Nat=>(I.ak<|l.map J,w.C)) ((bI<|G.o5 aj).trans (V aj rfl):dT w.T t=c8);have st:∀{r:I×St},a0 a2 (d+4) 58 [.L w.Q.q,J s,J t] w.C=some r->a0 a2 (d+5) 53 [.L w.Q.q,J s,J t] w.C=some r:=λh=>go λk=>k _ W.k.bz.c5 _ W.au.cy _ W.au.cJ _ (W.au.row aT) _ cM _ (W.au.row aj) _ rfl _ (bN (b:=6) dh) _ rfl _ _ h;by_cases aJ:s∈c8
 ·exact⟨true,w,st<|go λk=>k _ W.k.bz.c5 _ W.au.cy _ _ ab _<|ek<|(mT w.C s c8).trans<|ai some<|cj aJ,.refl W,λm=>absurd m bl,λB=>nofun,λB=>⟨λB B B=>rfl,λy e v=>(pv G aj aJ).elim λr aH=>absurd (.inl<|h2 (bu e aH.2.2.2.2.1) λe B=>e) (v _ aH.2.2.2.2.2).1,λB B=>rfl⟩,λB B=>rfl⟩
 ·refine PJ (d:=d) W aX λc bG a6 O a9=> ?_;refine⟨c,bG,st ?_,O,λm=>absurd m bl,λm=>absurd m bl,λm=>⟨λy e v=>v.elim λzw a8=>(rI G aj a8.1).elim λq aC=> ?_,λy e v=> ?_,λcU f=> ?_⟩,λcU f=> ?_⟩
  ·have jc:=ek<|(mT w.C s c8).trans<|ai some<|co aJ;cases c with
   |true=>exact go λk=>k _ W.k.bz.c5 _ W.au.cy _ _ ab _ jc _ _ a6
   |false=>
    have W1:=O.ok;have CK:¬a.kind=7:=(by decide:∀k:Nat,k∈[1,2,3,4,6,8,9]->¬k=7) _<|kinds a;have wU:¬a.kind=12:=(by decide:∀k:Nat,k∈[1,2,3,4,6,8,9]->¬k=12) _<|kinds a;have jF:a0 a2 (d+3) 35 [.L w.Q.q,.int 6,J s,J t] bG.C=some (.bool false,bG.C):=eF (ai fp.q O.q) (abS (d:=d+2) (k:=6) W1<|by decide);cases PN:decide (a.kind∈[8,9])with
    |true=>exact go λk=>k _ W.k.bz.c5 _ W.au.cy _ _ ab _ jc _ _ a6 _ W1.au.cJ _ (W1.au.row<|O.pre.get aT) _ cM _ (ek<|fz [10,14,15,16,17,18,19] Cv) _ (bN (b:=7) CK) _ (bN (b:=7) CK) _ (ek<|fz [8,9] PN) _ _ jF
    |false=>exact go λk=>k _ W.k.bz.c5 _ W.au.cy _ _ ab _ jc _ _ a6 _ W1.au.cJ _ (W1.au.row<|O.pre.get aT) _ cM _ (ek<|fz [10,14,15,16,17,18,19] Cv) _ (bN (b:=7) CK) _ (bN (b:=7) CK) _ (ek<|fz [8,9] PN) _<|bN (b:=12) wU
  ·cases c with
   |true=>rfl
   |false=>exact((a9.cW rfl q aC.1).2 m).iy y e ⟨zw,aC.2▸bp,a8.2⟩
  ·cases c with
   |false=>rfl
   |true=>exact(a9.iy rfl).elim λq aC=>(pv G aj aC.1).elim λr aH=>have wS:bG.r.aM=w.r.aM:=V O.same rfl
     ((wS▸aC.2.2 (wS▸m):hY Z.P w.r.aM (aE w.T s) (aE w.T q) true).cW y e λzw a8=>v zw<|bT (aH.2.2.2.2.1▸a8)▸aH.2.2.2.2.2).symm▸rfl
  ·exact(a9.kK m cU<|(f x<|aD▸bp).elim λy a8=>(rI G aj a8.1).elim λq aC=>⟨q,aC.1,λqF ac=>⟨y,aC.2▸bp,bT (aD▸ac)▸a8.2⟩⟩).1
  ·exact(a9.kK bl cU<|(f x<|aD▸bp).elim λy a8=>(rI G aj a8.1).elim λq aC=>⟨q,aC.1,λqF ac=>⟨y,aC.2▸bp,bT (aD▸ac)▸a8.2⟩⟩).2
end
end
section
section
variable{n p q e:Nat}{ps:List Nat}{a b x:af}{i:Bool}
def abU(c4:mC i d n Z)(ah:decide (w.r.aM=3)=i)(W:cb Z [] (z+e) w)(he:s=0->1<=e)(X:ki n 3 w.r)(aT:w.T[s]? =some a)(aj:w.T[t]? =some (.dI c8))(dh:a.kind≠6)(cs:gJ n (aE w.T s))(eJ:gJ n (aE w.T t))(n8:∀c bG,a0 a2 (d+24) 40 [.L w.Q.q,J s,J t] w.C=some (.bool c,bG.C)->iS Z [] z w (aE w.T s) (aE w.T t) c bG->bG.r.tr=w.r.tr->(w.r.aM≠3->lZ w.r.aM (aE w.T s) (aE w.T t) c)->R)(aq:∀u v aw cz eg,tl (d+22) Z [] z w (aE w.T s) (aE w.T t) s t u v aw cz eg (λB=>True)->(∃x,aE w.T s=[x])->R):R:=
 Hm (d:=d+19) W he aT aj cs.1 eJ.1 n8 λu v aw cz O bD aR gC c3 jw js zr go=>by
  have G:=O.ok.cX;have aR:cz[v]? =some (.dI c8):=aR;have dh:(ct a).kind≠6:=wz.symm▸dh;have jd:gJ n (aE cz u):=gC.symm▸cs;have iU:gJ n (aE cz v):=c3.symm▸eJ;have Pz:iC cz (u,v):=⟨ai Option.isSome bD,ai Option.isSome aR⟩;have e1:u≠2:=(Decidable.em<|w.r.aM=3).elim (λm q=>b8<|(js m).1.symm.trans<|(jv G (i:=2) rfl bD).mpr q▸rfl) λm=>(zr m).e1;have aD:aE cz u=[ct a]:=kN G bD dh e1 jp;have w5:aE w.T s=[ct a]:=bu gC aD;have keep:∀{eg:List (Nat×Nat)},(∀k∈eg,k=(u,v))->(w.r.aM=3\/(u,v)∈eg\/hY Z.P w.r.aM (aE w.T s) (aE w.T t) true)->(w.r.aM≠3->eg=[]\/u6 w.r.aM (ct a) (aE cz v))->R:=λ{eg} aj iT ac=>
   aq u v aw cz eg ⟨O,Pz,gC,c3,b4,λB=>fO,λk h=>.inr<|aj k h,iT,go,λcA eM hX ao=>by
    rw[<-gC,<-c3];by_cases bl:w.r.aM=3
    ·rw[bg bl];refine⟨false,{w with C:=cA,T:=cz,r:=w.r.push (u,v)},PL (d:=d+21) hX bD aR<|.inr ⟨dh,rfl⟩,⟨(cB.refl hX).gg<|cT _ _,λB=>nofun,λB B h=>CJ G aR<|h.eb.len.mp<|ai List.length aD,λm=>absurd bl m,λB B=>rfl⟩,trivial⟩
    ·rw[bI bl];have K:=zr bl;exact(abT (d:=d+17) (hX.gg (cT _ _)) bl bD aR dh aD λq aC=>Hy c4 ah hX (X.push _) (λq=>List.cons_ne_nil _ _ (vb.mp (q:w.r.tr++[(u,v)]=[])).2) ⟨ct a,bD,dh,jd,K.e8⟩ (xc G aR iU aC) ((ac bl).imp_right λxd=>⟨λk ao=>⟨c8,V (ai Prod.snd (aj k ao)) aR⟩,λEX b' abV ov ho=>(pv G aR aC).elim λr aH=>(xd _ aH.2.2.2.2.2).2 (.inl ⟨br (bu abV bD)▸ho.1,Hu.trans (br (bu ov aH.1)▸ho.2)⟩)⟩)).elim λc h=>h.elim λbH h=>⟨c,bH,h.1,h.2,trivial⟩⟩ ⟨_,w5⟩
  by_cases xd:u6 w.r.aM (ct a) (aE cz v)
  ·exact keep (eg:=[(u,v)]) (λk h=>bT h) (.inr<|.inl bp) λB=>.inr xd
  ·exact keep (eg:=[]) (λB=>fO) (.inr<|.inr ⟨λB B B=>rfl,λy e h=>absurd (c3.symm▸(h2 (bu e w5) λe B=>e:y=ct a)▸h) xd,λB B=>rfl⟩) λB=>.inl rfl
def PO(c4:mC i d n Z)(ah:decide (w.r.aM=3)=i)(W:cb Z [] (z+e) w)(he:s=0->1<=e)(X:ki n 3 w.r)(aT:w.T[s]? =some a)(aj:w.T[t]? =some b)(dh:a.kind≠6)(cs:gJ n (aE w.T s))(eJ:gJ n (aE w.T t))(n8:∀c bG,a0 a2 (d+24) 40 [.L w.Q.q,J s,J t] w.C=some (.bool c,bG.C)->iS Z [] z w (aE w.T s) (aE w.T t) c bG->bG.r.tr=w.r.tr->(w.r.aM≠3->lZ w.r.aM (aE w.T s) (aE w.T t) c)->R)(aq:∀u v aw cz eg,tl (d+22) Z [] z w (aE w.T s) (aE w.T t) s t u v aw cz eg (λB=>True)->(∃x,aE w.T s=[x])->R):R:=by
 by_cases da:b.kind=6
 ·exact o5 da λc8 e=>abU c4 ah W he X aT (e▸aj) dh cs eJ n8 aq
 ·exact PA (c4.ho 6) ah W he ⟨X.mz,Nat.le_of_succ_le X.dl,X.ha⟩ aT aj dh da cs eJ (.inl rfl) n8 aq
def PP(c4:mC i d n Z)(ah:decide (w.r.aM=3)=i)(W:cb Z [] (z+e) w)(he:s=0->1<=e)(X:ki n 3 w.r)(bw:w.r.tr≠[])(aT:w.T[s]? =some a)(aj:w.T[t]? =some b)(dh:a.kind≠6)(cs:gJ n (aE w.T s))(eJ:gJ n (aE w.T t)):
  ∃b az,a0 a2 (d+24) 40 [.L w.Q.q,J s,J t] w.C=some (.bool b,az.C)/\iS Z [] z w (aE w.T s) (aE w.T t) b az:=
 PO c4 ah W he X aT aj dh cs eJ (λc bG h A B B=>⟨c,bG,h,A⟩) λu v aw cz eg K B=>K.ask (d:=d+21) bw<|c7 (nz<|pI _) X.dl
structure Hz(Z:hG)(m:Nat)(eN:Nat->List af)(gG:List af)(ps:List Nat)(b:Bool)(same:Prop):Prop where
 all:m≠2->b->∀p∈ps,hY Z.P m (eN p) gG true
 aS:m≠2->b=false->∃p∈ps,hY Z.P m (eN p) gG false
 some:m=2->b->∃p∈ps,hY Z.P m (eN p) gG true
 none:m=2->b=false->∀p∈ps,hY Z.P m (eN p) gG false
 kK:m≠2->(∀p∈ps,iR Z.P (eN p) gG)->b/\same
def abW(bl:fW.r.aM≠3)(aX:∀p∈ps,∀bG,cB Z ex z fW bG->∃b bo,a0 a2 d 40 [.L bG.Q.q,J p,J t] bG.C=some (.bool b,bo.C)/\iS Z ex z bG (eN p) gG b bo):∀{w:gB} {H:bS},cB Z ex z fW w->H 0=some (.L w.Q.q)->H 2=some (J t)->
  (∀c aU az x,fX (λB=>true) (λx H s=>cG (bk<|d+1) (jO<|xv.body.getD 0 .fA) (ar H 3 x) s) (ps.map J) H w.C=some (c,aU,az.C)->cB Z ex z w az->aU 0=some (.L az.Q.q)->Hz Z fW.r.aM eN gG ps x (az.r.ns=w.r.ns)->(c=.next/\x=decide (fW.r.aM≠2))\/c=.ret (.bool x)->R)->R:=by
 induction ps with
 |nil=>exactλO h0 B aq=>aq .next _ _ (decide<|fW.r.aM≠2) rfl (.refl O.ok) h0 ⟨λB B B=>fO,λm e=>absurd m<|of_decide_eq_false e,λm e=>absurd m<|dw e,λB B B=>fO,λm B=>⟨cj m,rfl⟩⟩ (.inl ⟨rfl,rfl⟩)
 |cons p ps ay=>
  intro w H O h0 ae aq;have m:w.r.aM=fW.r.aM:=V O.same rfl;refine(aX p bp w O).elim λb h=>h.elim λbG h=> ?_;have A:=h.2;have ad:hY Z.P fW.r.aM (eN p) gG b:=m▸A.iT (m.symm▸bl);have es:bG.r.aM=fW.r.aM:=(V A.out.same rfl:bG.r.aM=w.r.aM).trans m;have vh:H 0=some (.L bG.Q.q):=h0.trans<|ai (λQ=>some<|I.L<|fp.q Q) A.out.q.symm;have ask:a0 a2 (d+1) 30 [.L w.Q.q,J p,J t] w.C=some (.bool b,bG.C):=go λk=>k _ _ h.1;have stop:(b=true↔fW.r.aM=2)->cG (bk<|d+1) (jO<|xv.body.getD 0 .fA) (ar H 3<|J p) w.C=some (.ret<|.bool b,ar H 3<|J p,bG.C)->R:=λaj st=>aq _ _ bG b (mS rfl st) A.out vh ⟨λn e=>absurd (aj.mp e) n,λB e=>⟨p,bp,e▸ad⟩,λB e=>⟨p,bp,e▸ad⟩,λq e=>Bool.noConfusion<|bu e<|aj.mpr q,λn f=>absurd (aj.mp<|ad.kK n<|f p bp) n⟩<|.inr rfl;have next:(b=true↔fW.r.aM≠2)->cG (bk<|d+1) (jO<|xv.body.getD 0 .fA) (ar H 3<|J p) w.C=some (.next,ar H 3<|J p,bG.C)->R:=λaj st=>ay (H:=ar H 3<|J p) (λq aC=>aX q<|bQ _ aC) (O.trans A.out) vh ae λc aU az x g1 bd cQ F i5=>aq c aU az x (eT rfl st g1) (A.out.trans bd) cQ
   ⟨λn e q aC=>(cR aC).elim (λk=>k▸aj.mpr n▸ad)<|F.all n e q,λn e=>(F.aS n e).imp λq aC=>⟨bQ _ aC.1,aC.2⟩,λn e=>(F.some n e).imp λq aC=>⟨bQ _ aC.1,aC.2⟩,λn e q aC=>(cR aC).elim (λk=>k▸(mJ.mpr λq=>aj.mp q n:b=false)▸ad)<|F.none n e q,λn f=>have g:=F.kK n λq aC=>f q<|bQ _ aC;⟨g.1,g.2.trans<|A.clean (m.symm▸n)<|f p bp⟩⟩ i5
  have dB:bE Z.A bG.C w.Q bG.r bG.r.tr (kM bG.eV):=(A.out.q:bG.Q=w.Q)▸A.out.ok.k.bz;by_cases cU:fW.r.aM=2
  ·cases b with
   |true=>exact stop ⟨λB=>cU,λB=>rfl⟩<|eK λk=>k _ h0 _ O.ok.k.bz.pj _ rfl _ ae _ _ ask _ h0 _ dB.d7 _<|cY (b:=2)<|es.trans cU
   |false=>exact next ⟨nofun,λn=>absurd cU n⟩ (eK λk=>k _ h0 _ O.ok.k.bz.pj _ rfl _ ae _ _ ask _ h0 _ dB.d7 _<|ke (b:=2)<|es.trans cU)
  ·cases b with
   |true=>exact next ⟨λB=>cU,λB=>rfl⟩ (eK λk=>k _ h0 _ O.ok.k.bz.pj _ rfl _ ae _ _ ask _ h0 _ dB.d7 _<|bN (b:=2) λq=>cU<|bu es q)
   |false=>exact stop ⟨nofun,λn=>absurd n cU⟩<|eK λk=>k _ h0 _ O.ok.k.bz.pj _ rfl _ ae _ _ ask _ h0 _ dB.d7 _<|kd (b:=2) λq=>cU<|bu es q
end
end
section
noncomputable def abX(i:Nat):dA:=xv.body.getD i .fA
section
variable{n p q e:Nat}{ps:List Nat}{a b x:af}{i:Bool}{T:List af}{r:eL}
def abY(W:cb Z ex z w)(bl:w.r.aM≠3)(aT:w.T[s]? =some (.dI ps))(aj:w.T[t]? =some b)(aX:∀p∈ps,∀bG,cB Z ex z w bG->∃b bo,a0 a2 d 40 [.L bG.Q.q,J p,J t] bG.C=some (.bool b,bo.C)/\iS Z ex z bG (aE w.T p) (aE w.T t) b bo):
  ∃c az,a0 a2 (d+3) 53 [.L w.Q.q,J s,J t] w.C=some (.bool c,az.C)/\cB Z ex z w az/\Hz Z w.r.aM (aE w.T) (aE w.T t) ps c (az.r.ns=w.r.ns):=by
 have ab:a0 a2 (d+1) 15 [.L Z.A.t,J s] w.C=some (.ak<|ps.map J,w.C):=dH (yk W.au.fZ aT)<|ai (λl:List Nat=>(I.ak<|l.map J,w.C)) ((bI<|W.cX.o5 aT).trans (V aT rfl):dT w.T s=ps);have st:∀{r:I×St},a0 a2 (d+2) 55 [.L w.Q.q,J s,J t] w.C=some r->a0 a2 (d+3) 53 [.L w.Q.q,J s,J t] w.C=some r:=λh=>go λk=>k _ W.k.bz.c5 _ W.au.cy _ W.au.cJ _ (W.au.row aT) _ rfl _ (W.au.row aj) _ cM _ rfl _ _ h;refine abW (d:=d) bl aX (H:=ck [.L w.Q.q,J s,J t]) (.refl W) rfl rfl λc aU az x f O h0 F h=> ?_;have gZ:cr (bk<|d+1) (abX 0) (ck [.L w.Q.q,J s,J t]) w.C=some (c,aU,az.C):=lM (jk λk=>k _ W.k.bz.c5 _ W.au.cy _ _ ab) f;refine⟨x,az,st ?_,O,F⟩;refine h.elim (λq=> ?_) λq=> ?_
 ·obtain⟨rfl,rfl⟩:=q;have m:az.r.aM=w.r.aM:=V O.same rfl;by_cases cU:w.r.aM=2
  ·exact gX (q9 [true] λk=>k _ _ _ gZ _ h0 _ O.ok.k.bz.d7 _<|ke (b:=2)<|m.trans cU) (co λq=>q cU).symm
  ·exact gX (q9 [true] λk=>k _ _ _ gZ _ h0 _ O.ok.k.bz.d7 _<|kd (b:=2) λq=>cU<|bu m q) (cj cU).symm
 ·subst q;exact gj [true] λk=>k _ _ _ gZ
def ki.gg(X:ki n (k+1) r):ki n k r:=⟨X.mz,Nat.le_of_succ_le X.dl,X.ha⟩
def PQ{P:af->List g9}(G:bO T)(h:T[s]? =some (.dI ps))(f:iR P (aE T s) aI):∀p∈ps,iR P (aE T p) aI:=λp ab x ac=>(pv G h ab).elim λq aC=>f x<|bT (aC.2.2.2.2.1▸ac)▸aC.2.2.2.2.2
def abZ{P:Prop}(G:bO T)(h:T[s]? =some (.dI ps))(F:Hz Z m (aE T) gG ps c P):lZ m (aE T s) gG c:=by
 have dU:∀{p:Nat},p∈ps->∃x∈aE T s,aE T p=[x]:=λab=>(pv G h ab).elim λq aC=>⟨_,aC.2.2.2.2.2,aC.2.2.2.2.1⟩;cases c with
 |true=>exact⟨λn aO=>aO.elim λx q=>(rI G h q.1).elim λp ab=>(F.all n rfl p ab.1).cW x ab.2 q.2,λB B=>rfl,λB B=>rfl,λn B xd=>(F.some n rfl).elim λp ab=>(dU ab.1).elim λx ac=>ab.2.cW x ac.2<|xd x ac.1,λB=>rfl⟩
 |false=>exact⟨λB B=>rfl,λn aL=>(F.aS n rfl).elim λp ab=>(dU ab.1).elim λx ac=>ab.2.iy x ac.2<|aL x ac.1,λn aO=>aO.elim λx q=>(rI G h q.1).elim λp ab=>(F.none n rfl p ab.1).iy x ab.2 q.2,λB B B=>rfl,λe=>(w7 G h<|G.o5 h).elim λx ac=>fO<|e▸ac⟩
def PR(c4:mC i d n Z)(ah:decide (w.r.aM=3)=i)(W:cb Z [] (z+e) w)(he:s=0->1<=e)(X:ki n 4 w.r)(aT:w.T[s]? =some (.dI ps))(aj:w.T[t]? =some b)(cs:gJ n (aE w.T s))(eJ:gJ n (aE w.T t))(n8:∀c bG,a0 a2 (d+29) 40 [.L w.Q.q,J s,J t] w.C=some (.bool c,bG.C)->iS Z [] z w (aE w.T s) (aE w.T t) c bG->bG.r.tr=w.r.tr->(w.r.aM≠3->lZ w.r.aM (aE w.T s) (aE w.T t) c)->R)(aq:∀u v aw cz eg,tl (d+27) Z [] z w (aE w.T s) (aE w.T t) s t u v aw cz eg (λc=>w.r.aM≠3->lZ w.r.aM (aE w.T s) (aE w.T t) c)->R):R:=
 Hm (d:=d+24) W he aT aj cs.1 eJ.1 n8 λu v aw cz O bD aR gC c3 jw js zr go=>by
  have G:=O.ok.cX;have bD:cz[u]? =some (.dI ps):=bD;have jd:gJ n (aE cz u):=gC.symm▸cs;have iU:gJ n (aE cz v):=c3.symm▸eJ;have len:=CJ G bD;refine aq u v aw cz [] ⟨O,⟨ai Option.isSome bD,ai Option.isSome aR⟩,gC,c3,b4,λB=>fO,λB=>fO,.inr<|.inr ⟨λB B B=>rfl,λx e=>absurd (ai List.length<|gC.trans e) len,λB B=>rfl⟩,go,λcA eM hX ao=> ?_⟩;rw[<-gC,<-c3];have bw:w.r.tr++[(u,v)]≠[]:=λq=>List.cons_ne_nil _ _ (vb.mp q).2;by_cases bl:w.r.aM=3
  ·rw[bg bl];by_cases da:(ct b).kind=6
   ·refine o5 da λc8 e=> ?_;exact(abP (d:=d+5) (w:={w with C:=cA,T:=cz,r:=w.r.push (u,v)}) ((bu ah (cj bl):i)▸c4.ho 5) bl (hX.gg<|cT eM 9) (X.push (u,v)).gg bw bD (e▸aR) jd iU).elim λc h=>h.elim λbH h=>⟨c,bH,h.1,h.2,λm=>absurd bl m⟩
   ·exact⟨false,{w with C:=cA,T:=cz,r:=w.r.push (u,v)},PL (d:=d+26) hX bD aR<|.inl ⟨rfl,da⟩,⟨(cB.refl hX).gg<|cT _ _,λB=>nofun,λB B h=>len<|h.eb.len.mpr<|ai List.length (hb.d6 G aR jp da (js bl).2 iU.1).2.2,λm=>absurd bl m,λB B=>rfl⟩,λm=>absurd bl m⟩
  ·rw[bI bl];have HA:=hX.gg<|cT eM 9;refine(abY (d:=d+24) HA bl bD aR λp ab bG cv=> ?_).elim λc h=>h.elim λpq h=>⟨c,pq,h.1,⟨h.2.1,λm=>absurd m bl,λm=>absurd m bl,λB=>⟨λx e=>absurd (ai List.length e) len,λx e=>absurd (ai List.length e) len,λm f=>(h.2.2.kK m<|PQ G bD f).1⟩,λm f=>(h.2.2.kK m<|PQ G bD f).2⟩,λB=>abZ G bD h.2.2⟩;refine(xc G bD jd ab).elim λa aT=> ?_;have aD:=gp HA.dy cv.pre<|ai Option.isSome aT.1;have aF:=gp HA.dy cv.pre<|ai Option.isSome aR;have k:=PP (e:=0) c4 (V (ai eL.aM cv.same) ah) cv.ok (λh=>absurd h aT.2.2.2) (cv.Py<|X.push (u,v)) (cv.ext.elim λaB e q=>bw (vb.mp<|bu e.1 q).1) (cv.pre.get aT.1) (cv.pre.get aR) aT.2.1 (aD▸aT.2.2.1)<|aF▸iU;rw[aD,aF]at k;exact k
end
end
section
section
variable{n:Nat}{i:Bool}
def ab0(c4:mC i d n Z):th i (d+29) n Z:=λw z u v ah W X aR jd iU=>(hT aR.1).elim λa aT=>(hT aR.2).elim λb aj=>by
 have f6:ki n 4 w.r:=⟨X.mz,X.dl,X.ha⟩;by_cases dh:a.kind=6
 ·exact o5 dh λps e=>PR c4 ah W (λB=>gF _) f6 (e▸aT) aj jd.wL iU.wL (λc bG h A B B=>⟨c,bG,h,A⟩) λu v aw cz eg K=>K.ask (d:=d+26) X.bw<|c7 (nz<|pI _) f6.dl
 ·exact PP (c4.ho 5) ah W (λB=>gF _) f6.gg X.bw aT aj dh jd.wL iU.wL
def PS(T:i=false->∀j,qs (d+j) Z):∀n j,mC i (d+29*n+j) n Z:=λn=>by
 have eV:i=false->∀n j k,qs (d+29*n+j+k) Z:=λh n j k=>by
  rw[i0,i0];exact T h _
 induction n with
 |zero=>exactλj=>⟨nofun,λh k=>eV h 0 j k⟩
 |succ n ay=>
  refineλj=>⟨λm e k=> ?_,λh k=>eV h (n+1) j k⟩
  obtain rfl:=nq e;have:=ab0<|ay<|j+k;rw[rT,<-i0]at this;exact this
def PT(c4:mC i d 10 Z)(ah:decide (w.r.aM=3)=i)(W:cb Z [] z w)(gh:Top w.r)(aR:iC w.T (s,t))(cs:hb (aE w.T s))(eJ:hb (aE w.T t))(aq:∀b az,a0 a2 (d+29) 40 [.L w.Q.q,J s,J t] w.C=some (.bool b,az.C)->w1 Z w (aE w.T s) (aE w.T t) b az->(w.r.bA=[]->w.r.aM≠3->lZ w.r.aM (aE w.T s) (aE w.T t) b)->R):R:=
 (hT aR.1).elim λa aT=>(hT aR.2).elim λb aj=>by
  have kn:cb Z [] (3999999+1) w:=W.cE gh;have f6:ki 10 4 w.r:=⟨a3 Px<|by decide,V gh.dl<|by decide,V gh.ha<|by decide⟩;have cs:gJ 10 (aE w.T s):=⟨cs,λh=>absurd h<|by decide⟩;have eJ:gJ 10 (aE w.T t):=⟨eJ,λh=>absurd h<|by decide⟩;by_cases dh:a.kind=6
  ·exact o5 dh λps e=>PR c4 ah kn (λB=>gF _) f6 (e▸aT) aj cs eJ (λc bG h A q T=>aq c bG h (A.top gh q) λB=>T) λu v aw cz eg K=>K.top (d:=d+26) gh aq
  ·exact PO (c4.ho 5) ah kn (λB=>gF _) f6.gg aT aj dh cs eJ (λc bG h A q T=>aq c bG h (A.top gh q) λB=>T) λu v aw cz eg K ac=>K.top (d:=d+26) gh λb az h A B=>aq b az h A λB bl=>ac.elim λx e=>by
    have k:=A.w2.2 bl;rw[e]at k⊢;exact k.Hk
def ab1:∀j,qs (319+j) Z:=λj w u v bl W gh aR jd iU=>PT (PS (i:=true) (d:=0) nofun 10 j) (cj bl) W gh aR jd iU λb az h A B=>⟨b,az,by
 have e:0+29*10+j+29=319+j:=rT 290 j 29;exact e▸h,A⟩
def CL(W:cb Z [] z w)(gh:Top w.r)(aR:iC w.T (s,t))(cs:hb (aE w.T s))(eJ:hb (aE w.T t))(aq:∀b az,a0 a2 638 40 [.L w.Q.q,J s,J t] w.C=some (.bool b,az.C)->w1 Z w (aE w.T s) (aE w.T t) b az->(w.r.bA=[]->w.r.aM≠3->lZ w.r.aM (aE w.T s) (aE w.T t) b)->R):R:=PT (PS (d:=319) (λB=>ab1) 10 0) rfl W gh aR cs eJ aq
end
end
section
noncomputable def PU(i j:Nat):Bool:=(decide (i<2)&&decide (j=2))||(decide (i=3\/i=4)&&decide (j=5))
noncomputable def PV(m i j:Nat):Bool:=decide (j=12)||(!(decide (i=12)&&decide (m=4))&&(decide (j=11)||decide (i=12)||(decide (i≠11)&&((decide (i=9)&&decide (j=10))||PU i j||(decide (m=2)&&PU j i)))))
noncomputable def qt(m i j:Nat):Bool:=(decide (i=j)&&decide (i<13))||PV m i j||(decide (m=2)&&PV 2 j i)
noncomputable def HB(m i j:Nat):Bool:=(decide (i=13)&&decide (j=13))||(decide (m=2)&&decide (i=13\/j=13))
noncomputable def xe(m i j:Nat):Bool:= !qt m i j&& !HB m i j
noncomputable def vj(z i:Nat):af:=if i<13 then hW i else .ref z
noncomputable def HC(m:Nat)(x y:af):Decidable (jQ m x y):=by
 delta jQ n5 rE
 infer_instance
def ab2:∀m∈[4,1,2],∀i<14,∀j<14,@decide _ (HC m (vj 0 i)<|vj 1 j)=qt m i j:=by decide+kernel
noncomputable def mD(k:e0):List Nat:=hq k.m++(if k.aV=[]then[]else[13])
noncomputable def ab3(m:Nat)(gd zx:List Nat):Bool:=gd.isEmpty||(bif decide (m=2)then gd.any λi=>zx.any (qt m i)else gd.all λi=>zx.any (qt m i))
noncomputable def ab4(m:Nat)(gd zx:List Nat):Bool:=bif decide (m=2)then !gd.isEmpty&&gd.all λi=>zx.all (xe m i)else gd.any λi=>zx.all<|xe m i
noncomputable def CM(m:Nat)(a b:e0):Bool:=(decide (qi m a b=1)&&ab3 m (mD a) (mD b))||(decide (qi m a b=0)&&ab4 m (mD a) (mD b))||decide (qi m a b= -1)
noncomputable def CN(k:e0):e0:=⟨k.m,if k.aV=[]then[]else[0]⟩
noncomputable def HD:List e0:=jq.map (⟨·,[]⟩)++(jq.filter λm=>decide<|¬(m=2048\/m=4096)).map (⟨·,[0]⟩)
def ab5:∀m∈[4,1,2],(HD.all λa=>HD.all λb=>CM m a b)=true:=by decide+kernel
section
variable{x y e:af}{a b k:e0}{c:List af}{g eP:Nat->af}{v:Bool}
def CO(h:x.shaped):n5 m x y↔y=cu "any"\/y=cu "unknown":=
 have n:∀{s:String},x≠cu s:=λe=>b8<|(ai af.shaped e).symm.trans h
 ⟨λq=>q.imp_right λq=>q.2.elim id λq=>q.elim (λq=>absurd q n) λq=>b8<|bu q.2.ho.1 h,λq=>q.imp_right λq=>⟨λp=>n p.1,.inl q⟩⟩
def CP(h:y.shaped):n5 m x y↔¬(x=cu "any"/\m=4)/\x=cu "any":=
 have n:∀{s:String},y≠cu s:=λe=>b8<|(ai af.shaped e).symm.trans h
 ⟨λq=>q.elim (λq=>absurd q n) λq=>⟨q.1,q.2.elim (λq=>absurd q n) λq=>q.elim id λq=>b8<|bu q.2.ho.2 h⟩,λq=>.inr ⟨q.1,.inr<|.inl q.2⟩⟩
def PW(h:jQ m e y)(he:e.shaped)(ac:x.shaped)(n:e≠y):jQ m x y:=.inr<|(h.resolve_left n).imp (λq=>(CO ac).mpr<|(CO he).mp q) λq=>⟨q.1,(CP ac).mpr<|(CP he).mp q.2⟩
def PX(h:jQ m x e)(he:e.shaped)(a8:y.shaped)(n:x≠e):jQ m x y:=.inr<|(h.resolve_left n).imp (λq=>(CP a8).mpr<|(CP he).mp q) λq=>⟨q.1,(CO a8).mpr<|(CO he).mp q.2⟩
def iD(i:Nat)(x:af):Prop:=(i<13/\x=hW i)\/(i=13/\x.shaped)
def iD.ho(h:iD i x):x.shaped=true↔i=13:=h.elim (λq=>⟨λk=>b8<|(q.2▸Gq i q.1:x.shaped=false).symm.trans k,λk=>absurd (k▸q.1)<|by decide⟩) λq=>⟨λB=>q.1,λB=>q.2⟩
def iD.lt(h:iD i x):i<14:=h.elim (λq=>oy q.1) λq=>q.1.symm▸oY 13
def ab6(hm:m∈[4,1,2])(ah:i<14)(aQ:j<14):jQ m (vj 0 i) (vj 1 j)↔qt m i j=true:=ab2 m hm i ah j aQ▸⟨λh=>@decide_eq_true _ (HC ..) h,λh=>@of_decide_eq_true _ (HC ..) h⟩
def CQ(ah:i<13)(h:y.shaped):hW i≠y:=λe=>b8<|(Gq i ah).symm.trans<|(ai af.shaped e).trans h
def iD.jT(hm:m∈[4,1,2])(ac:iD i x)(a8:iD j y)(n:¬(i=13/\j=13)):jQ m x y↔qt m i j=true:=by
 refine Iff.trans ?_<|ab6 hm ac.lt a8.lt;obtain⟨p,rfl⟩|⟨rfl,p⟩:=ac
 ·rw[show vj 0 i=hW i from bg p];obtain⟨q,rfl⟩|⟨rfl,q⟩:=a8
  ·rw[show vj 1 j=hW j from bg q]
  ·exact⟨λh=>PX h q rfl<|CQ p q,λh=>PX h rfl q<|CQ p rfl⟩
 ·obtain⟨q,rfl⟩|⟨rfl,q⟩:=a8
  ·rw[show vj 1 j=hW j from bg q];exact⟨λh=>PW h p rfl (CQ q p).symm,λh=>PW h rfl p (CQ q rfl).symm⟩
  ·exact absurd ⟨rfl,rfl⟩ n
def ab7:∀m∈[4,1,2],qt m 13 13=false:=by decide
def iD.iy(hm:m∈[4,1,2])(ac:iD i x)(a8:iD j y)(h:qt m i j):jQ m x y:=(ac.jT hm a8 λq=>by
 obtain⟨rfl,rfl⟩:=q;exact b8 ((ab7 m hm).symm.trans h)).mpr h
def iD.cW(hm:m∈[4,1,2])(ac:iD i x)(a8:iD j y)(h:xe m i j):¬jQ m x y/\¬G0 m x y:=by have Y:¬qt m i j=true:=λq=>b8 ((ai (!·) q).symm.trans<|bP h);have ae:¬(i=13/\j=13)/\¬(m=2/\(i=13\/j=13)):=⟨λq=>b8 ((ai (!·) (Bool.or_eq_true_iff.mpr (.inl<|dJ (cj q.1)<|cj q.2):HB m i j)).symm.trans<|cN h),λq=>b8 ((ai (!·) (Bool.or_eq_true_iff.mpr (.inr<|dJ (cj q.1)<|cj q.2):HB m i j)).symm.trans<|cN h)⟩;exact⟨λq=>Y<|(ac.jT hm a8 ae.1).mp q,λq=>q.elim (λq=>ae.1 ⟨ac.ho.mp q.1,a8.ho.mp q.2⟩) λq=>ae.2 ⟨q.1,q.2.imp ac.ho.mp a8.ho.mp⟩⟩
def jb.PY(h:jb c k g)(bB:iQ k.aV g):(∀x∈c,∃i∈mD k,iD i x)/\∀i∈mD k,∃x∈c,iD i x:=by
 delta mD;refine⟨λx ac=>rn ((h.mem x).mp ac) (λi ah e=>⟨i,jh _ ah,.inl ⟨nT ah,e⟩⟩) λj aQ e=>⟨13,i1 _<|V (bI<|List.ne_nil_of_mem aQ) bp,.inr ⟨rfl,e▸bB.d6 j aQ⟩⟩,λi ah=>(gc ah).elim (λah=>⟨_,(h.mem _).mpr<|uQ ah,.inl ⟨nT ah,rfl⟩⟩) λah=> ?_⟩;by_cases e:k.aV=[]
 ·rw[bg e]at ah;exact fO ah
 ·rw[bI e]at ah;exact(ve _ e).elim λj aQ=>⟨_,(h.mem _).mpr<|wE aQ,.inr ⟨bT ah,bB.d6 j aQ⟩⟩
def PZ(h:jL k):CN k∈HD:=by
 delta CN;by_cases e:k.aV=[]
 ·exact jh _<|i2 ⟨k.m,h.m,V (bg e) rfl⟩
 ·exact i1 _<|i2 ⟨k.m,r8.mpr ⟨h.m,cj λq=>e<|h.top q⟩,V (bI e) rfl⟩
def ab8:CM m (CN a) (CN b)=CM m a b:=by
 cases a with
 |mk am md=>cases b with
  |mk bm P0=>cases md with
   |nil=>cases P0 with
    |_=>rfl
   |cons=>cases P0 with
    |_=>rfl
def ab9(hm:m∈[4,1,2])(aT:jL a)(aj:jL b)(b9:jb c a g)(dE:jb bK b eP)(ga:iQ a.aV g)(aca:iQ b.aV eP)(h:lZ m c bK v):(qi m a b=1/\v)\/(qi m a b=0/\v=false)\/qi m a b= -1:=by
 have k:CM m a b:=ab8▸hh (hh (ab5 m hm) _<|PZ aT) _ (PZ aj);have g3:=b9.PY ga;have fh:=dE.PY aca;have iy:∀{i:Nat} {x:af},iD i x->(mD b).any (qt m i)=true->n6 m x bK:=λac q=>(p2.mp q).elim λj aQ=>(fh.2 j aQ.1).imp λy a8=>⟨a8.1,ac.iy hm a8.2 aQ.2⟩;have cW:∀{i:Nat} {x:af},iD i x->(mD b).all (xe m i)=true->u6 m x bK:=λac q y a8=>(fh.1 y a8).elim λj aQ=>ac.cW hm aQ.2<|hh q j aQ.1;refine(Bool.or_eq_true_iff.mp k).elim (λk=>(Bool.or_eq_true_iff.mp k).elim (λk=>.inl ⟨dw<|bP k,(Bool.or_eq_true_iff.mp<|cN k).elim (λe=>h.n1<|List.eq_nil_iff_forall_not_mem.mpr λx ac=>(g3.1 x ac).elim λi ah=>fO<|uc.mp e▸ah.1) λq=> ?_⟩) λk=>.inr<|.inl ⟨dw<|bP k,?_⟩) λk=>.inr<|.inr<|dw k
 ·by_cases cU:m=2
  ·rw[cj cU]at q;exact(p2.mp q).elim λi ah=>(g3.2 i ah.1).elim λx ac=>h.hK cU ⟨x,ac.1,iy ac.2 ah.2⟩
  ·rw[co cU]at q;exact h.gv cU λx ac=>(g3.1 x ac).elim λi ah=>iy ah.2<|hh q i ah.1
 ·have q:(bif decide (m=2)then !(mD a).isEmpty&&(mD a).all λi=>(mD b).all (xe m i)else(mD a).any λi=>(mD b).all<|xe m i)=true:=cN k;by_cases cU:m=2
  ·rw[cj cU]at q;exact h.ra cU (λe=>b8<|((oC _).mp<|bP q).symm.trans<|uc.mpr<|List.eq_nil_iff_forall_not_mem.mpr λi ah=>(g3.2 i ah).elim λx ac=>fO<|e▸ac.1) λx ac=>(g3.1 x ac).elim λi ah=>cW ah.2<|hh (cN q) i ah.1
  ·rw[co cU]at q;exact(p2.mp q).elim λi ah=>(g3.2 i ah.1).elim λx ac=>h.g6 cU ⟨x,ac.1,cW ac.2 ah.2⟩
end
end
section
section
variable{T:List af}{k:e0}{x:af}
def acb(G:bO T)(h:r∈T):r.gP.length<=3:=(rb.mp h).elim λi ah=>by
 have k:=G.row i r ah;cases r with
 |obj ps f=>exact(show i=11\/sI T ps f from k).elim (λe=>(af.obj.inj<|br<|(e▸ah).symm.trans<|G.at (i:=11) rfl).1▸jB _) λo=>o.gb
 |_=>exact jB _
def acd{l:List af}(h:∀r∈l,r.gP.length<=3):(l.flatMap af.gP).length<=3*l.length:=by
 induction l with
 |nil=>exact gF 0
 |cons a l ay=>exact V List.flatMap_cons<|V er<|a3 (lg (h a bp)<|ay λr aH=>h r<|bQ _ aH)<|cP<|m9 _ _
def ace(G:bO T)(h:T.length<=88):T.length+(yz T).length<=400:=G.au.elim λaB e=>by
 have l:aB.length<=69:=Nat.le_of_add_le_add_left (a:=19)<|a3 (cP<|bu er<|ai List.length e) h;have q:(T.flatMap af.gP).length<=207:=e▸V List.flatMap_append (V er<|a3 (cP<|ow _)<|a3 (acd λr aH=>acb G<|e▸i1 _ aH)<|m4 3 l);exact a3 (lg h (a3 (cP (er.trans (congr (ai (·+·)<|c2 _)<|c2 _)))<|lg h q)) (by decide)
def nV.pre(X:nV T a1 N)(G:bO a7)(x:el T a7):nV a7 a1 N:=⟨G,λj aQ=>(X.uR j aQ).imp λu h=>h.imp λps h=>h.imp λf h=>⟨BA x h.1,x.get h.2.1,h.2.2.1,h.2.2.2.imp λp q m=>m.pre X.G x⟩⟩
def nV.acf(X:nV T a1 N)(up:∀a9,sS N a9->∀i j,i<3->j<3->a9 i j->f i j)(eV:∀i j,i<3->j<3->i≠j->f i j->m6 f (N i) (N j)=true):yW (yF T a1) N f:=Zx X.ref (up _<|Zw X.ref) eV
def lU.xG(h:lU T N x j)(X:nV T a1 N):qh (yF T a1) N x j:=h.elim (λh=>h.elim λi h=>⟨h.2.1▸rfl,by
 have k:=(X.ref i h.1).ps;rw[h.2.1,h.2.2];exact k⟩) λh=>h.elim λps h=>h.elim λf h=>⟨h.1▸rfl,h.1▸NY X.G h.2⟩
def acg:∀i<13,hW i≠cu "error"/\hW i≠cu "object":=by decide+kernel
def n0.mN(h:n0 T N k u)(ok:∀j,j<3->lh (N j)):hb (aE T u):=h.ex.elim λg q x ac=>rn ((q.1.mem x).mp ac) (λi ah e=>.inl<|e▸⟨NK i<|nT ah,acg i<|nT ah⟩) λj aQ e=>.inr<|e▸⟨q.2.1.d6 j aQ,(q.2.2 j aQ).bw<|ok j<|uM _ h.ks.aV j aQ⟩
def n0.row(h:n0 T N k u):(T[u]?).isSome=true:=h.ex.elim λg q=>q.1.some
end
structure kP(Z:hG)(N:Nat->List cZ)(ax:List (e0×Nat))(f:Nat->Nat->Bool)(dg bL:Nat):Prop where
 X:nV Z.T0 Z.a1 N
 fC:∀e∈ax,n0 Z.T0 N e.1 e.2
 F:yW Z.P N f
 ok:∀j,j<3->lh (N j)
 s:Z.A.t+2<bL
 e:Z.A.t+2<dg
structure jU(Z:hG)(ax:List (e0×Nat))(f:Nat->Nat->Bool)(dg bL:Nat)(C:St)(T:List af):Prop where
 au:dY C Z.A T Z.a1
 dy:hD Z.T0 T
 same:C[bL]? =some (.dict<|jN f)
 vk:C[dg]? =some (.list<|ax.map qm)
structure nf(Z:hG)(ax:List (e0×Nat))(f:Nat->Nat->Bool)(dg bL:Nat)(w:gB):Prop where
 ok:cb Z [] 0 w
 same:w.C[bL]? =some (.dict<|jN f)/\bL∉hZ Z w
 vk:w.C[dg]? =some (.list<|ax.map qm)/\dg∉hZ Z w
section
variable{T:List af}{e:e0×Nat}
def nf.gd(a9:nf Z ax f dg bL w):jU Z ax f dg bL w.C w.T:=⟨a9.ok.au,a9.ok.dy,a9.same.1,a9.vk.1⟩
def jS.P1(F:jS Z w az)(h:w.C[a]? =some o/\a∉hZ Z w):az.C[a]? =some o/\a∉hZ Z az:=⟨F.get h.1 h.2,λq=>(F.own a q).elim h.2<|Nat.not_le_of_lt<|fc h.1⟩
def nf.go(a9:nf Z ax f dg bL w)(F:jS Z w az)(ok:cb Z [] 0 az):nf Z ax f dg bL az:=⟨ok,F.P1 a9.same,F.P1 a9.vk⟩
def jU.push(X:jU Z ax f dg bL C T)(h:bx C S []):jU Z ax f dg bL S T:=⟨X.au.keep h λB B B=>b4,X.dy,h.get X.same b4,h.get X.vk b4⟩
def jU.av(X:jU Z ax f dg bL C T)(h:ax[i]? =some e):fj C (.L dg) (J i)=some (qm e):=kb X.vk<|nP h
def CR:fj C (qm e) (.int 0)=some (dz e.1):=bZ (i:=0) rfl
def ob:fj C (qm e) (.int 1)=some (J e.2):=bZ (i:=1) rfl
def kP.aE(aI:kP Z N ax f dg bL)(bi:hD Z.T0 T)(h:e∈ax):aE T e.2=aE Z.T0 e.2:=gp (.refl Z.G.aG) bi.pre (aI.fC e h).row
def kP.Gr(aI:kP Z N ax f dg bL)(h:e∈ax)(aO:e'∈ax):jM f e.1 e'.1=true↔cK Z.P (Mine.aE Z.T0 e.2) (Mine.aE Z.T0 e'.2):=(aI.fC e h).ex.elim λg q=>(aI.fC e' aO).ex.elim λeP nu=>aI.F.Gr q.1.wF nu.1.wF (aI.fC e h).ks.n (aI.fC e' aO).ks.n q.2.1 nu.2.1 (λj aQ=>(q.2.2 j aQ).xG aI.X) λj aQ=>(nu.2.2 j aQ).xG aI.X
def ach(X:dY C A T a1)(aq:∀S,a0 a2 (d+6) 114 [.L A.cn,J m] C=some (.L C.length,S)->bE A S ⟨C.length,C.length+4,C.length+1,C.length+8⟩ (ti m true) [] .none->bx C S []->R):R:=X.cn.elim λF h=>by
 have dp:=fc h.1;have ab:=lN dp;have f1:=bx.push C (l1 C.length<|l0 C.length (.L A.cn)<|J m) [];have f2:=bx.push (C++l1 C.length (l0 C.length (.L A.cn)<|J m)) [.cO 5 λB=>none] [];have eb:(C++l1 C.length (l0 C.length (.L A.cn)<|J m)).length=C.length+8:=er;have mk:sr (d+4) 5 [] (C++l1 C.length (l0 C.length (.L A.cn)<|J m))=some (.L<|C.length+8,(C++l1 C.length (l0 C.length (.L A.cn)<|J m))++[.cO 5 λB=>none]):=eb▸rfl;refine oX (k:=.int 5) (v:=.L<|C.length+8) (f2.get (wJ (i:=1) rfl) b4) (qB _) rfl (by decide) λS aJ u=> ?_;have gt:∀{i:Nat},A.cn<C.length+i:=λ{i}=>c7 dp<|cT _ i;have bd:=f1.trans f2;have bw:∀{i:Nat},i≠1->C.length+i≠C.length+1:=λh q=>h<|Nat.add_left_cancel q;refine aq S (go λk=>k _ _ (Pk (d:=d+1) ab) _ _<|go λk=>k _ _ mk _ (kz (f2.get ea b4) rfl rfl) _ aJ) (Pl (F:=l0 C.length (.L A.cn)<|J m) (G:=λB=>none) ⟨rfl,rfl,rfl,rfl,rfl,rfl,rfl,rfl,rfl,rfl,rfl,rfl,rfl,rfl,rfl,rfl,rfl,rfl⟩ dp gt gt (show([0,2,3,4,5,6,7,1,8].map (C.length+·)).Nodup from sU (by decide) λB B B B h=>Nat.add_left_cancel h) (λi ah=>(u.bU.same _ (c7 (Nat.add_lt_add_left ((by decide:∀i∈n9,i<8) i ah) _)<|a3 (cP eb.symm) f2.len)<|fv<|bw<|(by decide:∀i∈n9,i≠1) i ah).trans<|(f2.same _ (c7 (Nat.add_lt_add_left ((by decide:∀i∈n9,i<8) i ah) _)<|cP eb.symm) b4).trans<|V (wn<|cT _ _)<|ai (λi=>_)<|Nat.add_sub_cancel_left (n:=C.length) (m:=i)) (u.i7<|f2.get (wJ (i:=1) rfl) b4) (u.get (eb▸ea)<|bw<|by decide) rfl) ⟨a3 bd.len u.bU.len,λa h B=>(u.bU.same a (c7 h bd.len)<|fv<|dV<|oy h).trans<|bd.same a h b4⟩
end
end
section
noncomputable def P2:List dA:=jO<|(jO<|ik 14).getD 0 .fA
noncomputable def CS(i:Nat):dA:=P2.getD i .fA
section
variable{T:List af}{e:e0×Nat}{t:Int}
def jU.bz(aI:kP Z N ax f dg bL)(X:jU Z ax f dg bL C T)(hm:m=1\/m=2\/m=3\/m=4)(aq:∀S Q,a0 a2 (d+6) 114 [.L Z.A.cn,J m] C=some (.L Q.q,S)->nf Z ax f dg bL ⟨S,T,Q,ti m true,none⟩->R):R:=
 ach (d:=d) (m:=m) X.au λS c aci bU=>
  have cW:∀{a:Nat} {o:b5},Z.A.t+2<a->C[a]? =some o->a∉hZ Z ⟨S,T,⟨C.length,C.length+4,C.length+1,C.length+8⟩,ti m true,none⟩:=λ{a o} h q=>qk (dd<|Nat.lt_of_succ_lt h) (qk (dd h) λk=>(qz (s:=[0,2,3,4,5,7].map (C.length+·)) (t:=[]).mp k).elim (λk=>(e3 k).elim λi k=>lv (cT C.length i)<|k.2.symm▸fc q) fO);have ih:=X.push bU
  aq S ⟨C.length,C.length+4,C.length+1,C.length+8⟩ c ⟨⟨ih.au,ih.dy,⟨aci,hm,.nil,λB=>fO,λB=>fO,.nil,λB=>fO,λB=>fO,λB=>fO,rfl,jB _⟩,λB=>bj⟩,⟨ih.same,cW aI.s X.same⟩,⟨ih.vk,cW aI.e X.vk⟩⟩
def kP.at(aI:kP Z N ax f dg bL)(a9:nf Z ax f dg bL w)(h:e∈ax):n0 w.T N e.1 e.2:=(aI.fC e h).pre Z.G a9.ok.dy.pre
def acj(aI:kP Z N ax f dg bL)(a9:nf Z ax f dg bL w)(gh:Top w.r)(bA:w.r.bA=[])(dF:H 5=some (J i))(eU:H 11=some (.L dg))(jH:H 14=some (J j))(sL:H 19=some (.int t))(kF:H 20=some (.L w.Q.q))(he:ax[i]? =some e)(gU:ax[j]? =some e')(aP:0<=t->w.r.aM∈[4,1,2]/\qi w.r.aM e.1 e'.1=t)(aq:∀az,cr (bk 638) (CS 2) H w.C=some (.next,H,az.C)->az.Q.q=w.Q.q->nf Z ax f dg bL az->R):R:=by
 by_cases t0:0<=t
 ·have X:=a9.gd;have aB:=aI.at a9 (dL he);have rY:=aI.at a9 (dL gU);have q:=aP t0;refine CL a9.ok gh ⟨aB.row,rY.row⟩ (aB.mN aI.ok) (rY.mN aI.ok) λb az c kj Hk=>aB.ex.elim λg k=>rY.ex.elim λeP cx=> ?_;have cS:w.r.aM≠3:=λm=>absurd (m▸q.1) (by decide);have r:=ab9 q.1 aB.ks rY.ks k.1.wF cx.1.wF k.2.1 cx.2.1<|Hk bA cS;rw[q.2]at r;refine aq az (r.elim (λr=> ?_) λr=>r.elim (λr=> ?_) λr=>absurd (r▸t0)<|by decide) (V kj.sE rfl) (a9.go kj.bU kj.ok)
  ·rw[r.1]at sL;rw[r.2]at c;exact gy λk=>k _ sL _ (kc rfl) _ kF _ eU _ dF _ (X.av he) _ ob _ eU _ jH _ (X.av gU) _ ob _ _ c _ sL _ (gY rfl) _ rfl
  ·rw[r.1]at sL;rw[r.2]at c;exact gy λk=>k _ sL _ (kc rfl) _ kF _ eU _ dF _ (X.av he) _ ob _ eU _ jH _ (X.av gU) _ ob _ _ c _ sL _ (gY rfl) _ rfl
 ·exact aq w (gy λk=>k _ sL _<|kc<|co t0) rfl a9
def ack(aI:kP Z N ax f dg bL)(a9:nf Z ax f dg bL w)(dF:H 5=some (J i))(eU:H 11=some (.L dg))(jH:H 14=some (J j))(kF:H 20=some (.L w.Q.q))(he:ax[i]? =some e)(gU:ax[j]? =some e')(aq:∀az,cr (bk 638) (CS 3) H w.C=some (.next,H,az.C)->nf Z ax f dg bL az->R):R:=
 (hT (aI.at a9 (dL he)).row).elim λa aT=>Pj (d:=633) a9.ok aT (a9.ok.cX.at (i:=13) rfl) (.inr rfl) λaw cz a6 cv=>
  have tj:=a9.go cv.bU cv.ok
  (hT (aI.at tj (dL gU)).row).elim λb aj=>Pj (d:=633) tj.ok (tj.ok.cX.at (i:=13) rfl) aj (.inl rfl) λbn mv bR d9=>aq {w with C:=bn,T:=mv} (gy λk=>k _ kF _ eU _ dF _ (a9.gd.av he) _ ob _ _ a6 _ kF _ eU _ jH _ (tj.gd.av gU) _ ob _ _ bR)<|tj.go d9.bU d9.ok
def P4(aI:kP Z N ax f dg bL)(X:jU Z ax f dg bL C T)(dF:H 5=some (J i))(gw:H 9=some (.L Z.A.cn))(eU:H 11=some (.L dg))(jH:H 14=some (J j))(xf:H 18=some (J m))(he:ax[i]? =some e)(gU:ax[j]? =some e')(hm:m∈[3,4,1,2])(aq:∀x y S a7,cG (bk 638) P2 H C=some (.next,ar (ar H 19 x) 20 y,S)->jU Z ax f dg bL S a7->R):R:=by
 have xg:=(by decide:∀m∈[3,4,1,2],(m=1\/m=2\/m=3\/m=4)/\(m=3\/m∈[4,1,2])) m hm;have t:∃t:Int,cr (bk 638) (CS 0) H C=some (.next,ar H 19<|.int t,C)/\(0<=t->m∈[4,1,2]/\qi m e.1 e'.1=t):=by
  by_cases bl:m=3
  ·exact⟨-1,gy λk=>k _ xf _<|cY (b:=3) bl,λh=>absurd h<|by decide⟩
  ·exact⟨_,gy λk=>k _ xf _ (bN (b:=3) bl) _ eU _ dF _ (X.av he) _ CR _ eU _ jH _ (X.av gU) _ CR _ xf _ _<|ZC (d:=637) (aI.fC e<|dL he).ks (aI.fC e'<|dL gU).ks,λB=>⟨xg.2.resolve_left bl,rfl⟩⟩
 refine t.elim λt h=>X.bz (d:=632) aI xg.1 λaw Q a6 a9=>acj (H:=ar (ar H 19<|.int t) 20<|.L Q.q) aI a9 ⟨rfl,rfl,rfl,rfl⟩ rfl dF eU jH rfl rfl he gU h.2 λbo bR eW oc=>ack (H:=ar (ar H 19<|.int t) 20<|.L Q.q) aI oc dF eU jH (ai (λq=>some<|I.L q) eW.symm) he gU λfx d4 xh=> ?_;have g0:cr (bk 638) (CS 1) (ar H 19<|.int t) C=some (.next,ar (ar H 19<|.int t) 20<|.L Q.q,aw):=gy λk=>k _ gw _ xf _ _ a6;exact aq _ _ fx.C fx.T ((eB h.1).trans<|(eB g0).trans<|(eB bR).trans<|oV d4) xh.gd
end
end
section
noncomputable def HE:List dA:=jO<|ik 15
noncomputable def zy(i:Nat):dA:=HE.getD i .fA
noncomputable def P5:List dA:=jO<|(jO<|zy 3).getD 0 .fA
noncomputable def acl(a b:Nat):dA:=.ite (.or (.not (.a5 40 [.E 20,.av (.av (.E 11)<|.E a)<|U 1,.av (.av (.E 11)<|.E b)<|U 1]))<|.not (.b1 (.aZ (.E 20) 37) 13 [])) [.ret<|.bc<|.bool false] []
section
variable{T:List af}{e bM aD aF:e0×Nat}{t:Int}
def P6:d0 C .bw (.bool c) (.bool c)=some false:=by cases c<;>rfl
def P7(aI:kP Z N ax f dg bL)(a9:nf Z ax f dg bL w)(gh:Top w.r)(hm:w.r.aM≠2/\w.r.aM≠3)(eU:H 11=some (.L dg))(kF:H 20=some (.L w.Q.q))(aT:H a=some (J i))(aj:H b=some (J j))(he:ax[i]? =some e)(gU:ax[j]? =some e')(al:cK Z.P (aE Z.T0 e.2) (aE Z.T0 e'.2))(aq:∀az,cr (bk 638) (acl a b) H w.C=some (.next,H,az.C)->az.Q.q=w.Q.q->az.r.aM=w.r.aM->Top az.r->nf Z ax f dg bL az->R):R:=by have X:=a9.gd;have aB:=aI.at a9 (dL he);have rY:=aI.at a9 (dL gU);rw[<-aI.aE a9.ok.dy (dL he),<-aI.aE a9.ok.dy (dL gU)]at al;refine CL a9.ok gh ⟨aB.row,rY.row⟩ (aB.mN aI.ok) (rY.mN aI.ok) λb az c kj B=> ?_;obtain rfl:=(kj.w2.2 hm.2).kK hm.1<|.i9 al;have P8:=kj.top<|.inr ⟨hm.1,.i9 al⟩;have q:az.Q.q=w.Q.q:=V kj.sE rfl;have K:=kj.ok.k.bz;exact aq az (gy λk=>k _ kF _ eU _ aT _ (X.av he) _ ob _ eU _ aj _ (X.av gU) _ ob _ _ c _ (q▸kF) _ K.qn _ (K.eb λB F B B h B c=>hN c.2.2.2.2.2.1 h.2.2 rfl) _ _<|go λk=>k _ K.qo _<|uA (l:=[])<|K.mx.trans<|ai (λl=>some<|b5.list l) P8.ns) q kj.aM P8<|a9.go kj.bU kj.ok
def P9(aI:kP Z N ax f dg bL)(X:jU Z ax f dg bL C T)(dF:H 5=some (J i))(gw:H 9=some (.L Z.A.cn))(eU:H 11=some (.L dg))(jH:H 14=some (J j))(xf:H 18=some (J m))(he:ax[i]? =some e)(gU:ax[j]? =some e')(hm:m∈[4,1])(al:cK Z.P (aE Z.T0 e.2) (aE Z.T0 e'.2))(aq:∀y S a7,cG (bk 638) P5 H C=some (.next,ar H 20 y,S)->jU Z ax f dg bL S a7->R):R:=by have xg:=(by decide:∀m∈[4,1],(m=1\/m=2\/m=3\/m=4)/\(m≠2/\m≠3)) m hm;refine X.bz (d:=632) aI xg.1 λaw Q a6 a9=>P7 (H:=ar H 20<|.L Q.q) (a:=5) (b:=14) aI a9 ⟨rfl,rfl,rfl,rfl⟩ xg.2 eU rfl dF jH he gU al λbo bR eW cU acm oc=>P7 (H:=ar H 20<|.L Q.q) (a:=14) (b:=5) aI oc acm (cU.symm▸xg.2) eU (ai (λq=>some<|I.L q) eW.symm) jH dF gU he al.symm λfx d4 B B B xh=> ?_;have gZ:cr (bk 638) (P5.getD 0 .fA) H C=some (.next,ar H 20<|.L Q.q,aw):=gy λk=>k _ gw _ xf _ _ a6;exact aq _ fx.C fx.T ((eB gZ).trans<|(eB bR).trans<|oV d4) xh.gd
def HF(aI:kP Z N ax f dg bL)(X:jU Z ax f dg bL C T)(dF:H 5=some (J i))(iL:H 8=some (.L bL))(gw:H 9=some (.L Z.A.cn))(eU:H 11=some (.L dg))(jH:H 14=some (J j))(he:ax[i]? =some e)(gU:ax[j]? =some e')(aq:∀aU S a7,cG (bk 638) HE H C=some (.next,aU,S)->aU 8=H 8->aU 9=H 9->aU 11=H 11->jU Z ax f dg bL S a7->R):R:=by
 have dx:=dL he;have xi:=dL gU;refine Np (d:=636) (aI.fC e dx).ks.n.lt (aI.fC e' xi).ks.n.lt X.same λs0 oT f0=> ?_;have gZ:cr (bk 638) (zy 0) H C=some (.next,ar H 21<|.bool<|jM f e.1 e'.1,s0):=gy λk=>k _ eU _ dF _ (X.av he) _ CR _ eU _ jH _ (X.av gU) _ CR _ iL _ _ oT;refine(X.push f0).bz (d:=632) (m:=3) aI (.inr<|.inr<|.inl rfl) λbe Q a6 a9=> ?_;have g0:cr (bk 638) (zy 1) (ar H 21<|.bool<|jM f e.1 e'.1) s0=some (.next,ar (ar H 21<|.bool<|jM f e.1 e'.1) 20<|.L Q.q,be):=gy λk=>k _ gw _ _ a6;have A:=aI.at a9 dx;have nX:=aI.at a9 xi;refine CL a9.ok ⟨rfl,rfl,rfl,rfl⟩ ⟨A.row,nX.row⟩ (A.mN aI.ok) (nX.mN aI.ok) λb bo bR kj B=> ?_;have oc:=a9.go kj.bU kj.ok;have D:=aI.at oc dx;have oL:=aI.at oc xi;refine CL oc.ok (kj.top<|.inl rfl) ⟨oL.row,D.row⟩ (oL.mN aI.ok) (D.mN aI.ok) λb' fx d4 HG B=> ?_;have xh:=oc.go HG.bU HG.ok;have h9:=kj.w2.1 rfl;have gE:=HG.w2.1 kj.aM;rw[aI.aE a9.ok.dy dx,aI.aE a9.ok.dy xi]at h9;rw[aI.aE oc.ok.dy dx,aI.aE oc.ok.dy xi]at gE;have HH:=aI.Gr dx xi;obtain rfl:b=jM f e.1 e'.1:=Bool.eq_iff_iff.mpr<|h9.trans HH.symm;obtain rfl:b'=jM f e.1 e'.1:=Bool.eq_iff_iff.mpr<|(gE.trans ⟨.symm,.symm⟩).trans HH.symm;have eW:bo.Q.q=Q.q:=V kj.sE rfl;have jc:cr (bk 638) (zy 2) (ar (ar H 21<|.bool<|jM f e.1 e'.1) 20<|.L Q.q) be=some (.next,ar (ar H 21<|.bool<|jM f e.1 e'.1) 20<|.L Q.q,fx.C):=gy λk=>k _ rfl _ eU _ dF _ (a9.gd.av he) _ ob _ eU _ jH _ (a9.gd.av gU) _ ob _ _ bR _ rfl _ P6 _ rfl _ eU _ jH _ (oc.gd.av gU) _ ob _ eU _ dF _ (oc.gd.av he) _ ob _ _ (eW▸d4) _ rfl _ P6;have fin:∀{aU:bS} {S:St},cr (bk 638) (zy 3) (ar (ar H 21<|.bool<|jM f e.1 e'.1) 20<|.L Q.q) fx.C=some (.next,aU,S)->cG (bk 638) HE H C=some (.next,aU,S):=λh=>(eB gZ).trans<|(eB g0).trans<|(eB jc).trans<|oV h;cases h:jM f e.1 e'.1 with
 |false=>rw[h]at fin;exact aq _ fx.C fx.T (fin<|gy λk=>k _ rfl) rfl rfl rfl xh.gd
 |true=>have al:=HH.mp h;rw[h]at fin;refine P9 (H:=ar (ar (ar H 21<|.bool true) 20<|.L Q.q) 18<|J 4) aI xh.gd dF gw eU jH rfl he gU (bp) al λy fD zb eR f6=>P9 (H:=ar (ar (ar (ar (ar H 21<|.bool true) 20<|.L Q.q) 18<|J 4) 20 y) 18<|J 1) aI f6 dF gw eU jH rfl he gU (bQ _ bp) al λzw iN GK gV jJ=> ?_;exact aq _ iN GK (fin<|Mj (Ff λk=>k _ rfl)<|oV<|lM (l:=[J 4,J 1]) rfl<|eT rfl eR<|eT rfl gV rfl) rfl rfl rfl jJ
end
end
section
section
variable{T:List af}{bM aD aF:e0×Nat}
def CT(aI:kP Z N [bM,aD,aF] f dg bL)(X:jU Z [bM,aD,aF] f dg bL C T)(gw:H 9=some (.L Z.A.cn))(eU:H 11=some (.L dg))(hm:m∈[3,4,1,2])(aq:∀aU S a7,cG (bk 638) (jO<|ik 14) (ar H 18<|J m) C=some (.next,aU,S)->aU 8=H 8->aU 9=H 9->aU 11=H 11->jU Z [bM,aD,aF] f dg bL S a7->R):R:=P4 (H:=ar (ar (ar H 18<|J m) 5<|J 0) 14<|J 1) aI X rfl gw eU rfl rfl rfl rfl hm λx y aw cz a6 dB=>P4 (H:=ar (ar (ar (ar (ar (ar H 18<|J m) 5<|J 0) 14<|J 1) 19 x) 20 y|>(ar · 5 (J 2))) 14<|J 0) aI dB rfl gw eU rfl rfl rfl rfl hm λqF zw bn mv bR fo=>aq _ bn mv (oV<|wj (l:=[.ak [J 0,J 1],.ak [J 2,J 0]]) (iv:=none) rfl rfl<|eT rfl a6<|eT rfl bR rfl) rfl rfl rfl fo
def acn(aI:kP Z N [bM,aD,aF] f dg bL)(X:jU Z [bM,aD,aF] f dg bL C T)(gw:H 9=some (.L Z.A.cn))(eU:H 11=some (.L dg))(aq:∀aU S a7,cr (bk 638) (ik 14) H C=some (.next,aU,S)->aU 8=H 8->aU 9=H 9->aU 11=H 11->jU Z [bM,aD,aF] f dg bL S a7->R):R:=CT aI X gw eU (m:=3) (by decide) λcg aw cz a6 p3 fF iO dB=>CT aI dB (fF.trans gw) (iO.trans eU) (m:=4) (by decide) λdr bn mv bR nI hu ev fo=>CT aI fo (hu.trans<|fF.trans gw) (ev.trans<|iO.trans eU) (m:=1) (by decide) λkg cA wN d4 uo mX fI nd=>CT aI nd (mX.trans<|hu.trans<|fF.trans gw) (fI.trans<|ev.trans<|iO.trans eU) (m:=2) (by decide) λBO fD zb eR nJ Fu aco f6=>aq BO fD zb (lM (l:=[J 3,J 4,J 1,J 2]) rfl<|eT rfl a6<|eT rfl bR<|eT rfl d4<|eT rfl eR rfl) (nJ.trans<|uo.trans<|nI.trans p3) (Fu.trans<|mX.trans<|hu.trans fF) (aco.trans<|fI.trans<|ev.trans iO) f6
def acp(aI:kP Z N [bM,aD,aF] f dg bL)(X:jU Z [bM,aD,aF] f dg bL C T)(iL:H 8=some (.L bL))(gw:H 9=some (.L Z.A.cn))(eU:H 11=some (.L dg))(aq:∀aU S,cr (bk 638) (ik 15) H C=some (.next,aU,S)->R):R:=HF (H:=ar (ar H 5<|J 0) 14<|J 1) (i:=0) (j:=1) aI X rfl iL gw eU rfl rfl rfl λcg aw cz a6 p3 fF iO dB=>HF (H:=ar (ar cg 5<|J 1) 14<|J 2) (i:=1) (j:=2) aI dB rfl (p3.trans iL) (fF.trans gw) (iO.trans eU) rfl rfl rfl λdr bn mv bR nI hu ev fo=>HF (H:=ar (ar dr 5<|J 0) 14<|J 2) (i:=0) (j:=2) aI fo rfl (nI.trans<|p3.trans iL) (hu.trans<|fF.trans gw) (ev.trans<|iO.trans eU) rfl rfl rfl λkg cA wN d4 B B B B=>aq kg cA<|wj (l:=[.ak [J 0,J 1],.ak [J 1,J 2],.ak [J 0,J 2]]) (iv:=none) rfl rfl<|eT rfl a6<|eT rfl bR<|eT rfl d4 rfl
end
def ac8(zs:List Int):∃S,a0 a2 639 115 [.L 0] [.list<|zs.map .int]=some (.bool true,S):=by have L:∀{a b:Nat},a=b->some (I.L b)=some (I.L a):=λh=>h▸rfl;refine ZP (d:=633) (C:=[.list<|zs.map .int]) (zs:=zs) rfl λcg be dr bF s3 s4 D aG na N oT a6 bR d4 bh nx fE on y0 pb=> ?_;refine ZS (d:=635) (H:=ar (ar dr 2<|.L D.a) 3<|.L aG) bh rfl nx fE on y0 pb λs5 pN Ak A a4 eR gV gM fC P=> ?_;subst fC;refine ZU (d:=631) (H:=ar (ar (ar (ar (ar dr 2<|.L D.a) 3<|.L a4.aG) 4<|.L A.t) 6<|.L a4.gm) 7<|.L a4.hr) P rfl rfl rfl rfl λBH T e8 fy e1 fN P3 uX kH fF hu=> ?_;refine ZZ (d:=637) (H:=ar (ar (ar (ar (ar (ar (ar (ar dr 2<|.L D.a) 3<|.L a4.aG) 4<|.L A.t) 6<|.L a4.gm) 7<|.L a4.hr) 5<|J 0) 5<|J 1) 5<|J 2) P3 (by decide) bh rfl rfl rfl rfl kH fF hu λac9 y5 a1 lQ jl du n2 js u1 f6 pH=> ?_;refine Z1 (d:=632) (H:=ar (ar (ar (ar (ar (ar (ar (ar dr 2<|.L D.a) 3<|.L a4.aG) 4<|.L A.t) 6<|.L a4.gm) 7<|.L a4.hr) 5<|J 0) 5<|J 1) 5<|J 2) u1 (L du) rfl λada adb nX bL f jG pT tm wT up eV=> ?_;refine Z8 (d:=631) (H:=ar (ar (ar (ar (ar (ar (ar (ar (ar (ar dr 2<|.L D.a) 3<|.L a4.aG) 4<|.L A.t) 6<|.L a4.gm) 7<|.L a4.hr) 5<|J 0) 5<|J 1) 5<|J 2) 8<|.L bL) 9<|.L nX.cn) wT bh rfl (L du) (L tm) (L n2) (L js) rfl rfl pH (by decide) (a3 uX<|by decide) λkg BO Ot ql adc ade Oo m0 dg bM aD aF qW qV vZ zz mw dp v7 Cg r4 CB=> ?_;have HI:=f6.pre mw.cX v7;have aI:kP ⟨Oo,a1,nX,mw.cX,HI.D,ace mw.cX<|a3 Cg<|fm uX 39⟩ lQ [bM,aD,aF] f dg bL:=⟨HI,CB,HI.acf up eV,mw.ok,mw.s,ec (c1 (hB (by decide) _) mw.au.Cd) dp⟩;refine acn aI ⟨mw.au,.refl mw.cX.aG,mw.same.c,r4⟩ zz.y6 zz.Cc λadf adg Op AM acq acr acs act=>acp aI act (acq.trans zz.wa) (acr.trans zz.y6) (acs.trans zz.Cc) λadh acu EA=>⟨acu,?_⟩;exact q9 [true,true,true,true,true,true,true,true,true,true,true,true,true,true,true,true] λr=>r _ _ _ oT _ _ _ a6 _ _ _ bR _ _ _ d4 _ _ _ eR _ _ _ gV _ _ _ gM _ _ _ fN _ _ _ jl _ _ _ jG _ _ _ pT _ _ _ qW _ _ _ qV _ _ _ vZ _ _ _ AM _ _ _ EA
end
end
theorem lawM:E7:=fun zs _=>(ac8 zs).elim fun s h=>⟨639,s,by decide,h⟩
end Mine
theorem PySem.Challenge.cw_pq0592_01_holds : PySem.Challenge.rw_pq0592_01.Holds :=
  Mine.ac6 Mine.lawM
