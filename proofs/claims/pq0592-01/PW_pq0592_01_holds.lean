import PyProof.Rows.All
import Wide.All
import OpenK.AllK
import Wide.FinOn
import PySem.Challenge.RW_pq0592_01
set_option Elab.async false
set_option autoImplicit false
set_option linter.all false
set_option maxRecDepth 100000
set_option bootstrap.genMatcherCode false
set_option genSizeOf false
set_option genInjectivity false
set_option genCtorIdx false
set_option tactic.hygienic false
namespace Mine
def xA:type_of%@List.findIdx?_eq_some_iff_getElem:=@List.findIdx?_eq_some_iff_getElem
def xu:type_of%@List.eq_nil_of_length_eq_zero:=@List.eq_nil_of_length_eq_zero
def h7{α:Type _}{l:List α}{i:Nat}{a:α}:l[i]? =some a->∃h,l[i]'h=a:=List.getElem?_eq_some_iff.mp
def w1:type_of%@List.countP_eq_length_filter:=@List.countP_eq_length_filter
def hT{α:Type _}{x:Option α}:x.isSome=true->∃a,x=some a:=Option.isSome_iff_exists.mp
def wk:type_of%@List.getElem?_append_right:=@List.getElem?_append_right
def no:type_of%@List.getElem?_append_left:=@List.getElem?_append_left
def va:type_of%@List.exists_mem_of_ne_nil:=@List.exists_mem_of_ne_nil
def jh:type_of%@List.getElem?_eq_getElem:=@List.getElem?_eq_getElem
def vE:type_of%@Nat.succ_add_eq_add_succ:=@Nat.succ_add_eq_add_succ
def vv:type_of%@List.filter_cons_of_neg:=@List.filter_cons_of_neg
def xB:type_of%@List.filter_cons_of_pos:=@List.filter_cons_of_pos
def tM:type_of%@List.pairwise_singleton:=@List.pairwise_singleton
def xG:type_of%@Int.eq_ofNat_of_zero_le:=@Int.eq_ofNat_of_zero_le
def nw:type_of%@Nat.lt_add_of_pos_right:=@Nat.lt_add_of_pos_right
def qH:type_of%@List.mem_singleton_self:=@List.mem_singleton_self
def yL:type_of%@List.length_eq_zero_iff:=@List.length_eq_zero_iff
def vG:type_of%@List.find?_cons_of_pos:=@List.find?_cons_of_pos
def k3:type_of%@Nat.le_of_add_right_le:=@Nat.le_of_add_right_le
def u7:type_of%@List.append_eq_nil_iff:=@List.append_eq_nil_iff
def i0:type_of%@List.mem_append_right:=@List.mem_append_right
def bR{α:Type _}{a b:α}:a∈[b]->a=b:=List.mem_singleton.mp
def pV:type_of%@Nat.le_of_ble_eq_true:=@Nat.le_of_ble_eq_true
def q9:type_of%@List.mem_iff_getElem?:=@List.mem_iff_getElem?
def dK:type_of%@List.mem_of_getElem?:=@List.mem_of_getElem?
def jg:type_of%@List.mem_append_left:=@List.mem_append_left
def bQ:type_of%@List.mem_cons_of_mem:=@List.mem_cons_of_mem
def mJ:type_of%@List.forall_mem_cons:=@List.forall_mem_cons
def vu:type_of%@Nat.not_succ_le_zero:=@Nat.not_succ_le_zero
def vA:type_of%@List.length_take_le':=@List.length_take_le'
def fl:type_of%@Nat.add_le_add_right:=@Nat.add_le_add_right
def vp:type_of%@Option.some_ne_none:=@Option.some_ne_none
def hg{α:Type _}{p:α->Bool}{l:List α}:l.all p=true->∀x,x∈l->p x=true:=List.all_eq_true.mp
def tL:type_of%@List.map_congr_left:=@List.map_congr_left
def hA:type_of%@Nat.add_le_add_left:=@Nat.add_le_add_left
def oS{α:Type _}{a:α}{l:List α}:a∉l/\l.Nodup->(a::l).Nodup:=List.nodup_cons.mpr
def m3:type_of%@Nat.mul_le_mul_left:=@Nat.mul_le_mul_left
def nQ:type_of%@List.mem_map_of_mem:=@List.mem_map_of_mem
def u6:type_of%@List.Sublist.subset:=@List.Sublist.subset
def bo:type_of%@List.mem_cons_self:=@List.mem_cons_self
def c7:type_of%@Nat.lt_of_lt_of_le:=@Nat.lt_of_lt_of_le
def c1:type_of%@Nat.lt_of_le_of_lt:=@Nat.lt_of_le_of_lt
def rR:type_of%@Nat.add_right_comm:=@Nat.add_right_comm
def hH{α:Type _}{a:α}{l:List α}:(a::l).Nodup->a∉l/\l.Nodup:=List.nodup_cons.mp
def eo:type_of%@List.length_append:=@List.length_append
def vx:type_of%@List.mem_singleton:=@List.mem_singleton
def pL{α:Type _}{p:α->Bool}{a:α}{l:List α}:a∈l.filter p->a∈l/\p a=true:=List.mem_filter.mp
def gb{α:Type _}{a:α}{s t:List α}:a∈s++t->a∈s\/a∈t:=List.mem_append.mp
def p5:type_of%@Int.natCast_nonneg:=@Int.natCast_nonneg
def kU:type_of%@List.nodup_append:=@List.nodup_append
def iG:type_of%@List.append_assoc:=@List.append_assoc
def pz:type_of%@Nat.le_of_lt_succ:=@Nat.le_of_lt_succ
def mH:type_of%@Bool.eq_false_iff:=@Bool.eq_false_iff
def ou:type_of%@List.getElem?_map:=@List.getElem?_map
def ow:type_of%@Nat.lt_succ_of_lt:=@Nat.lt_succ_of_lt
def oA:type_of%@Bool.not_eq_true':=@Bool.not_eq_true'
def rX:type_of%@Nat.le_succ_of_le:=@Nat.le_succ_of_le
def pG:type_of%@Nat.lt_succ_of_le:=@Nat.lt_succ_of_le
def tW:type_of%@List.length_range:=@List.length_range
def uf:type_of%@List.cons_eq_cons:=@List.cons_eq_cons
def lM:type_of%@Nat.zero_lt_of_lt:=@Nat.zero_lt_of_lt
def dx:type_of%@of_decide_eq_true:=@of_decide_eq_true
def nt:type_of%@List.all_eq_true:=@List.all_eq_true
def kX:type_of%@Nat.succ_le_succ:=@Nat.succ_le_succ
def qx:type_of%@Nat.succ_ne_zero:=@Nat.succ_ne_zero
def hd{n m:Nat}:n<m->(n:Int)<m:=Int.ofNat_lt.mpr
def b5:type_of%@List.not_mem_nil:=@List.not_mem_nil
def cS{α:Type _}{a b:α}{l:List α}:a∈b::l->a=b\/a∈l:=List.mem_cons.mp
def i1{α β:Type _}{b:β}{f:α->β}{l:List α}:(∃a,a∈l/\f a=b)->b∈l.map f:=List.mem_map.mpr
def cT:type_of%@Nat.le_add_right:=@Nat.le_add_right
def tV:type_of%@Nat.succ_lt_succ:=@Nat.succ_lt_succ
def t9:type_of%@List.isEmpty_iff:=@List.isEmpty_iff
def pX:type_of%@List.any_eq_true:=@List.any_eq_true
def oW:type_of%@Nat.lt_succ_self:=@Nat.lt_succ_self
def vb:type_of%@List.filter_cons:=@List.filter_cons
def bp:type_of%@Option.some.inj:=@Option.some.inj
def ew:type_of%@List.append_nil:=@List.append_nil
def qv:type_of%@List.mem_append:=@List.mem_append
def c2:type_of%@List.length_map:=@List.length_map
def iI:type_of%@List.map_append:=@List.map_append
def e4{α β:Type _}{b:β}{f:α->β}{l:List α}:b∈l.map f->∃a,a∈l/\f a=b:=List.mem_map.mp
def qP:type_of%@Bool.or_eq_true:=@Bool.or_eq_true
def r6:type_of%@List.mem_filter:=@List.mem_filter
def t7:type_of%@Nat.not_lt_zero:=@Nat.not_lt_zero
def cp:type_of%@decide_eq_false:=@decide_eq_false
def lu{n m:Nat}:m<=n->¬n<m:=Nat.not_lt.mpr
def pH:type_of%@List.mem_range:=@List.mem_range
def lg:type_of%@Nat.add_le_add:=@Nat.add_le_add
def ck:type_of%@decide_eq_true:=@decide_eq_true
def pB:type_of%@List.mem_cons:=@List.mem_cons
def iZ:type_of%@Nat.add_assoc:=@Nat.add_assoc
def k0:type_of%@Int.ofNat.inj:=@Int.ofNat.inj
def nl:type_of%@Nat.succ.inj:=@Nat.succ.inj
def cM:type_of%@Nat.le_of_eq:=@Nat.le_of_eq
def a3:type_of%@Nat.le_trans:=@Nat.le_trans
def ot:type_of%@Nat.zero_add:=@Nat.zero_add
def dU:type_of%@Nat.ne_of_lt:=@Nat.ne_of_lt
def ea:type_of%@Nat.lt_trans:=@Nat.lt_trans
def jB:type_of%@List.map_map:=@List.map_map
def hi:type_of%@Nat.le_of_lt:=@Nat.le_of_lt
def qG:type_of%@Int.ofNat_lt:=@Int.ofNat_lt
def pF:type_of%@Nat.succ_pos:=@Nat.succ_pos
def dd:type_of%@Nat.ne_of_gt:=@Nat.ne_of_gt
def m8:type_of%@Nat.add_comm:=@Nat.add_comm
def kO:type_of%@Prod.mk.inj:=@Prod.mk.inj
def jA:type_of%@Nat.zero_le:=@Nat.zero_le
def gF:type_of%@Nat.le_refl:=@Nat.le_refl
def jZ:type_of%@Nat.le_succ:=@Nat.le_succ
def pD:type_of%@Int.not_le:=@Int.not_le
def gq:type_of%@Eq.trans:=@Eq.trans
def ai:type_of%@congrArg:=@congrArg
def iX:type_of%@Eq.symm:=@Eq.symm
def bh:type_of%@if_pos:=@if_pos
def bH:type_of%@if_neg:=@if_neg
theorem br{α:Sort _}{a b c:α}(h:a=b)(k:a=c):b=c:=h.symm.trans k
noncomputable abbrev aa:=PySem.Str.ofString
section
set_option backward.match.sparseCases false
open PySem (Str)
@[elab_as_elim] def V{α:Sort _}{a b:α}{P:α->Prop}(h:a=b)(k:P b):P a:=h▸k
@[elab_as_elim] def eF{α:Sort _}{a b:α}{P:α->Prop}(h:a=b)(k:P a):P b:=h▸k
def bf{α:Type}{a:α}{R:Prop}(h:none=some a):R:=nomatch h
def b7{R:Prop}(h:false):R:=Bool.noConfusion h
def dD{α β:Type}{a c:α}{b d:β}(h:some (a,b)=some (c,d)):a=c/\b=d:=kO<|bp h
def ki{α β kP:Type}{a d:α}{b e:β}{c f:kP}(h:some (a,b,c)=some (d,e,f)):a=d/\b=e/\c=f:=⟨(dD h).1,kO (dD h).2⟩
def dI{a b:Bool}(h:a)(k:b):(a&&b)=true:=by subst h;exact k
def bP{a b:Bool}(h:(a&&b)=true):a:=((Bool.and_eq_true _ _).mp h).1
def cO{a b:Bool}(h:(a&&b)=true):b:=((Bool.and_eq_true _ _).mp h).2
def jw{α β:Type}{a c:α}{b d:β}{R:Prop}(h:(a,b)=(c,d))(k:a=c->b=d->R):R:=k (kO h).1 (kO h).2
def h2{α:Type}{a b:α}{l m:List α}{R:Prop}(h:a::l=b::m)(k:a=b->l=m->R):R:=k (List.cons.inj h).1 (List.cons.inj h).2
def xg{α:Type}{p:α->Bool}{a:α}{l:List α}{r:Option α}(h:p a=false)(k:l.find? p=r):(a::l).find? p=r:=(List.find?_cons_of_neg λq=>b7<|br h q).trans k
def mC{a b:Nat}{R:Prop}(h:a=b)(e:Nat.beq a b=false):R:=b7<|br e<|h▸Nat.beq_refl a
set_option genInjectivity true in
inductive I where
 |none
 |bool (b:Bool)
 |int (i:Int)
 |str (s:Str)
 |ak (l:List I)
 |L (a:Nat)
noncomputable def I.ctorIdx(x:I):Nat:=I.casesOn x 0 (λB=>1) (λB=>2) (λB=>3) (λB=>4)<|λB=>5
mutual
noncomputable def I.beq:I->I->Bool
 |.none,.none=>true
 |.bool a,.bool b=>a==b
 |.int a,.int b=>a==b
 |.str a,.str b=>a==b
 |.ak a,.ak b=>I.rH a b
 |.L a,.L b=>a==b
 |B,cr=>false
noncomputable def I.rH:List I->List I->Bool
 |[],[]=>true
 |a::as,b::bs=>I.beq a b&&I.rH as bs
 |B,cr=>false
end
mutual
theorem I.HN:∀a b:I,I.beq a b->a=b
 |.none,b,h=>by
  cases b with
  |none=>rfl
  |_=>exact b7 h
 |.bool a,b,h=>by
  cases b with
  |bool b=>exact ai I.bool<|eq_of_beq h
  |_=>exact b7 h
 |.int a,b,h=>by
  cases b with
  |int b=>exact ai I.int<|eq_of_beq h
  |_=>exact b7 h
 |.str a,b,h=>by
  cases b with
  |str b=>exact ai I.str<|eq_of_beq h
  |_=>exact b7 h
 |.ak a,b,h=>by
  cases b with
  |ak b=>exact ai I.ak<|I.CZ a b h
  |_=>exact b7 h
 |.L a,b,h=>by
  cases b with
  |L b=>exact ai I.L<|eq_of_beq h
  |_=>exact b7 h
theorem I.CZ:∀a b:List I,I.rH a b->a=b
 |[],b,h=>by
  cases b with
  |nil=>rfl
  |cons=>exact b7 h
 |a::as,b,h=>by
  cases b with
  |nil=>exact b7 h
  |cons b bs=>exact congr (ai List.cons<|I.HN a b<|bP h)<|I.CZ as bs<|cO h
end
mutual
theorem I.HO:∀a:I,I.beq a a=true
 |.none=>rfl
 |.bool a=>beq_self_eq_true a
 |.int a=>beq_self_eq_true a
 |.str a=>beq_self_eq_true a
 |.ak l=>I.C0 l
 |.L a=>beq_self_eq_true a
theorem I.C0:∀l:List I,I.rH l l=true
 |[]=>rfl
 |a::as=>dI (I.HO a)<|I.C0 as
end
def I.C1(a b:I):I.beq a b=true↔a=b:=⟨I.HN a b,λh=>h▸I.HO a⟩
def I.HP(a b:List I):I.rH a b=true↔a=b:=⟨I.CZ a b,λh=>h▸I.C0 a⟩
noncomputable instance:DecidableEq I:=λa b=>decidable_of_iff _<|I.C1 a b
set_option genInjectivity true in
inductive b3 where
 |list (l:List I)
 |dict (l:List (I×I))
 |cR (c:Nat) (F:Nat->Option I)
noncomputable def b3.ctorIdx(x:b3):Nat:=b3.casesOn x (λB=>0) (λB=>1)<|λB B=>2
abbrev St:=List b3
abbrev bT:=Nat->Option I
noncomputable def ar(F:Nat->Option I)(i:Nat)(v:I):Nat->Option I:=λj=>if j=i then some v else F j
mutual
inductive ob|add|sub|mul|fdiv|mD|dj|ip|oc
inductive tu|eq|bu|lt|le|gt|ge|is|xh|dT|jd
inductive vh|len|tuple|sorted|all|range
end
inductive od|aR (i:Nat)|iV (l:List Nat)
set_option genInjectivity true in
inductive b4 where
 |bc (v:I)
 |E (i:Nat)
 |ak (aw:List b4)
 |fh (aw:List b4)
 |l1
 |neg (e:b4)
 |tv (e:b4)
 |not (e:b4)
 |b8 (op:ob) (a b:b4)
 |aK (op:tu) (a b:b4)
 |xi (qo qp:tu) (a b c:b4)
 |and (a b:b4)
 |or (a b:b4)
 |ite (c a b:b4)
 |aZ (e:b4) (f:Nat)
 |av (e i:b4)
 |je (e:b4) (cf ah:Option b4)
 |a5 (f:Nat) (args:List b4)
 |l2 (c:Nat) (args:List b4)
 |b1 (e:b4) (m:Nat) (args:List b4)
 |cx (b:vh) (e:b4)
 |comp (elt:b4) (cL:od) (cg:b4) (ifs:List b4)
 |jW (elt:b4) (cL:Nat) (cg:b4) (ifs:List b4)
inductive dB where
 |assign (cL:od) (e:b4)
 |setAttr (o:b4) (f:Nat) (e:b4)
 |setItem (o i:b4) (e:b4)
 |tw (i:Nat) (op:ob) (e:b4)
 |rI (o:b4) (f:Nat) (op:ob) (e:b4)
 |delItem (o i:b4)
 |xj (o cf:b4)
 |ite (c:b4) (a b:List dB)
 |gQ (cL:od) (cg:b4) (body:List dB)
 |iq (cL:Nat) (cg:b4) (body:List dB)
 |pr (c:b4) (body:List dB)
 |ret (e:b4)
 |xk
 |expr (e:b4)
 |fA
inductive eG|next|ret (v:I)
structure fp where
 np:Nat
 hG:List I
 body:List dB
structure jx where
 pv:List fp
 b1:Nat->Nat->Option Nat
 init:Nat->Option Nat
noncomputable def pw:Nat:=0
noncomputable def rJ:Nat:=1
noncomputable def xl:Nat:=2
noncomputable def zA:Nat:=3
noncomputable def e9(s:Str):Bool:=decide (s.cps.size<=1000)&&s.cps.toList.all λc=>decide<|c<128
mutual
noncomputable def I.hr:Nat->I->Bool
 |B,.int cr=>true
 |B,.str s=>e9 s
 |n+1,.ak l=>I.gR n l
 |B,cr=>false
noncomputable def I.gR:Nat->List I->Bool
 |B,[]=>true
 |n,a::as=>I.hr n a&&I.gR n as
end
noncomputable def I.key(v:I):Bool:=I.hr 6 v
noncomputable def I.iW(l:List I):Bool:=I.gR 6 l
noncomputable def lim:Int:=4611686018427387904
noncomputable def h3(C:St):I->Option Bool
 |.bool b=>some b
 |.int i=>some<|decide<|i≠0
 |.ak l=>some<|!l.isEmpty
 |.L a=>match C[a]?with
  |some (.list l)=>some<|!l.isEmpty
  |_=>none
 |_=>none
noncomputable def tx(C:St):I->I->Option Bool
 |.bool a,.bool b=>some<|a==b
 |.L a,.L b=>match C[a]?,C[b]?with
  |some (.list l),some (.list m)=>if I.iW l&&I.iW m then some (decide<|l=m)else none
  |B,cr=>none
 |a,b=>if I.key a&&I.key b then some (decide<|a=b)else none
noncomputable def nf:I->Nat
 |.int B=>0
 |.str B=>1
 |.ak B=>2
 |_=>3
noncomputable def e3(l:List (I×I))(k:I):Bool:=I.key k&&l.all λp=>nf p.1==nf k
noncomputable def cE(l:List (I×I))(k:I):Option I:=(l.find? λp=>decide<|p.1=k).map (·.2)
noncomputable def fB(l:List (I×I))(k v:I):List (I×I):=if(cE l k).isSome then l.map (λp=>if p.1=k then(p.1,v)else p)else l++[(k,v)]
noncomputable def mE(l:List (I×I))(k:I):List (I×I):=l.filter λp=>decide<|p.1≠k
noncomputable def l3(C:St)(x:I):I->Option Bool
 |.ak l=>if I.key x&&I.iW l then some (decide<|x∈l)else none
 |.L a=>match C[a]?with
  |some (.list l)=>if I.key x&&I.iW l then some (decide<|x∈l)else none
  |some (.dict l)=>if e3 l x then some (cE l x).isSome else none
  |_=>none
 |_=>none
noncomputable def eh(C:St)(op:tu)(x y:I):Option Bool:=
 match op with
 |.eq=>tx C x y
 |.bu=>(tx C x y).map (!·)
 |.lt=>match x,y with|.int a,.int b=>some (decide<|a<b)|_,_=>none
 |.le=>match x,y with|.int a,.int b=>some (decide<|a<=b)|_,_=>none
 |.gt=>match x,y with|.int a,.int b=>some (decide<|b<a)|_,_=>none
 |.ge=>match x,y with|.int a,.int b=>some (decide<|b<=a)|_,_=>none
 |.is=>match y with|.none=>some (decide<|x=.none)|_=>none
 |.xh=>match y with|.none=>some (decide<|x≠.none)|_=>none
 |.dT=>l3 C x y
 |.jd=>(l3 C x y).map (!·)
noncomputable def HQ(op:ob)(a b:Int)(C:St):Option (I×St):=
 match op with
 |.add=>some (.int<|a+b,C)
 |.sub=>some (.int<|a-b,C)
 |.mul=>if-lim<a/\a<lim/\-lim<b/\b<lim then some (.int<|a*b,C)else none
 |.fdiv=>if 0<b/\b<lim then some (.int<|a.fdiv b,C)else none
 |.mD=>if 0<b then some (.int<|a.fmod b,C)else none
 |.dj=>some (.int<|PySem.Builtin.bitAnd a b,C)
 |.ip=>some (.int<|PySem.Builtin.bitOr a b,C)
 |.oc=>if 0<=b then some (.int<|a.fdiv<|2^b.toNat,C)else none
noncomputable def C2(op:ob)(r:Option (I×St)):Option (I×St):=match op with|.add=>r|_=>none
noncomputable def vi(C:St)(a:Nat):Option (List I):=match C[a]?with|some (.list l)=>some l|_=>none
noncomputable def iF(op:ob)(x y:I)(C:St):Option (I×St):=
 match x with
 |.int a=>(match y with|.int b=>HQ op a b C|_=>none)
 |.ak a=>(match y with|.ak b=>C2 op (if a.length+b.length<=16000000 then some (.ak<|a++b,C)else none)|_=>none)
 |.L a=>(match y with
  |.L b=>C2 op<|(vi C a).bind λl=>(vi C b).bind λm=>if l.length+m.length<=16000000 then some (.L C.length,C++[.list<|l++m])else none
  |_=>none)
 |_=>none
noncomputable def jX(i:Int)(n:Nat):Option Nat:=if 0<=i/\i<n then some i.toNat else if i<0/\0<=i+n then some (i+n).toNat else none
noncomputable def fq(C:St):I->I->Option I
 |.ak l,.int i=>(jX i l.length).bind (l[·]?)
 |.str s,.int i=>if 0<=i/\i<s.cps.size/\i<16000000 then(s.cps[i.toNat]?).map λc=>.str ⟨#[c]⟩else none
 |.L a,k=>match C[a]?with
  |some (.list l)=>match k with|.int i=>(jX i l.length).bind (l[·]?)|_=>none
  |some (.dict l)=>if e3 l k then cE l k else none
  |_=>none
 |B,cr=>none
noncomputable def ng(i:Int)(n:Nat):Nat:=if i<0 then(i+n).toNat else min i.toNat n
noncomputable def px(l:List I)(cf ah:Option Int):List I:=
 let a:=match cf with|none=>0|some i=>ng i l.length
 let b:=match ah with|none=>l.length|some i=>ng i l.length
 (l.take b).drop a
noncomputable def l4:Option I->Option (Option Int)
 |none=>some none
 |some (.int i)=>if-lim<i/\i<lim then some (some i)else none
 |_=>none
noncomputable def nh(x:I)(cf ah:Option I)(C:St):Option (I×St):=
 match l4 cf,l4 ah with
 |some a,some b=>match x with
  |.ak l=>some (.ak<|px l a b,C)
  |.L o=>match C[o]?with
   |some (.list l)=>some (.L C.length,C++[.list<|px l a b])
   |_=>none
  |_=>none
 |B,cr=>none
noncomputable def hs(b1:Nat->Nat->Option Nat)(C:St)(f:Nat):I->Option I
 |.L a=>match C[a]?with
  |some (.cR c F)=>if b1 c f=none then F f else none
  |_=>none
 |_=>none
noncomputable def xm:List I->Option (List Int)
 |[]=>some []
 |.int i::r=>(xm r).map (i::·)
 |_=>none
noncomputable def C3:List I->Option (List Str)
 |[]=>some []
 |.str i::r=>(C3 r).map (i::·)
 |_=>none
noncomputable def qq(x:Int):List Int->List Int
 |[]=>[x]
 |y::r=>if x<=y then x::y::r else y::qq x r
noncomputable def vj:List Int->List Int
 |[]=>[]
 |x::r=>qq x<|vj r
noncomputable def zB:List Str->Bool
 |[]=>true
 |[B]=>true
 |a::b::r=>decide (a.cps.toList<b.cps.toList)&&zB (b::r)
noncomputable def ty(l:List I):Option (List I):=
 if l.length<64 then(match xm l with
  |some is=>some<|(vj is).map .int
  |none=>(C3 l).bind λss=>if zB ss then some l else none)else none
noncomputable def kQ(b:vh)(x:I)(C:St):Option (I×St):=
 match b with
 |.range=>none
 |.len=>match x with
  |.ak l=>some (.int l.length,C)
  |.L a=>match C[a]?with
   |some (.list l)=>some (.int l.length,C)
   |_=>none
  |_=>none
 |.tuple=>match x with
  |.ak l=>some (.ak l,C)
  |.L a=>match C[a]?with
   |some (.list l)=>some (.ak l,C)
   |_=>none
  |_=>none
 |.sorted=>match x with
  |.L a=>match C[a]?with
   |some (.dict l)=>(ty (l.map (·.1))).map λr=>(.L C.length,C++[.list r])
   |_=>none
  |_=>none
 |.all=>match x with
  |.L a=>match C[a]?with
   |some (.list l)=>if l.all (λv=>match v with|.bool _=>true|_=>false)then some (.bool<|l.all λv=>v==.bool true,C)else none
   |_=>none
  |_=>none
abbrev xn:=Nat->List I->St->Option (I×St)
noncomputable def mF(a:Nat)(m:Nat)(args:List I)(C:St):Option (I×St):=
 match C[a]?with
 |some (.list l)=>
  if a=0 then none
  else if m=pw then(match args with
   |[v]=>if l.length<16000000 then some (.none,C.set a<|.list<|l++[v])else none
   |_=>none)
  else if m=rJ then(match args,l.getLast? with
   |[],some v=>some (v,C.set a<|.list l.dropLast)
   |B,cr=>none)
  else if m=xl then(match args with
   |[.L b]=>if a=b then none else(match C[b]?with
    |some (.list r)=>if l.length+r.length<16000000 then some (.none,C.set a<|.list<|l++r)else none
    |_=>none)
   |_=>none)
  else none
 |_=>none
noncomputable def qr(a:Nat)(m:Nat)(args:List I)(C:St):Option (I×St):=
 match C[a]?with
 |some (.dict l)=>
  if m=zA then(match args with
   |[k]=>if e3 l k then some ((cE l k).getD .none,C)else none
   |[k,d]=>if e3 l k then some ((cE l k).getD d,C)else none
   |_=>none)
  else none
 |_=>none
noncomputable def gC(cL:od)(v:I)(H:bT):Option bT:=
 match cL,v with
 |.aR i,v=>some<|ar H i v
 |.iV is,.ak vs=>if is.length=vs.length then some ((is.zip vs).foldl (λr p=>ar r p.1 p.2) H)else none
 |.iV B,cr=>none
noncomputable def ni(C:St):I->Option (List I×Option Nat)
 |.ak l=>some (l,none)
 |.L a=>match C[a]?with
  |some (.list l)=>some (l,some a)
  |_=>none
 |_=>none
noncomputable def hc(C:St)(cg:Option Nat)(l:List I):Bool:=
 match cg with
 |none=>true
 |some a=>match C[a]?with
  |some (.list m)=>decide<|m=l
  |_=>false
noncomputable def qs(n:Int):List I:=(List.range n.toNat).map λk:Nat=>I.int (k:Int)
noncomputable def ir(el:St->Bool)(de:I->St->Option (Option I×St)):List I->St->Option (List I×St)
 |[],C=>if el C then some ([],C)else none
 |x::xs,C=>if el C then(match de x C with
   |none=>none
   |some (y,ax)=>match ir el de xs ax with
    |none=>none
    |some (ys,bq)=>some (y.toList++ys,bq))else none
noncomputable def fX(el:St->Bool)(de:I->bT->St->Option (eG×bT×St)):List I->bT->St->Option (eG×bT×St)
 |[],H,C=>if el C then some (.next,H,C)else none
 |x::xs,H,C=>if el C then(match de x H C with
   |none=>none
   |some (.ret v,ci,ax)=>some (.ret v,ci,ax)
   |some (.next,ci,ax)=>fX el de xs ci ax)else none
noncomputable def kR(test:bT->St->Option (Bool×St))(body:bT->St->Option (eG×bT×St)):Nat->bT->St->Option (eG×bT×St)
 |0,B,cr=>none
 |n+1,H,C=>match test H C with
  |none=>none
  |some (false,ax)=>some (.next,H,ax)
  |some (true,ax)=>match body H ax with
   |none=>none
   |some (.ret v,dr,bq)=>some (.ret v,dr,bq)
   |some (.next,dr,bq)=>kR test body n dr bq
noncomputable def zC:Nat:=16000000
structure ht where
 fn:xn
 make:xn
 b1:Nat->Nat->Option Nat
mutual
noncomputable def bV(O:ht):b4->bT->St->Option (I×St)
 |.bc v,B,C=>some (v,C)
 |.E i,H,C=>(H i).map λv=>(v,C)
 |.ak aw,H,C=>(kS O aw H C).bind λr=>some (.ak r.1,r.2)
 |.fh aw,H,C=>(kS O aw H C).bind λr=>some (.L r.2.length,r.2++[.list r.1])
 |.l1,B,C=>some (.L C.length,C++[.dict []])
 |.neg e,H,C=>(bV O e H C).bind λr=>match r.1 with|.int i=>some (.int<|-i,r.2)|_=>none
 |.tv e,H,C=>(bV O e H C).bind λr=>match r.1 with|.int i=>some (.int<|PySem.Builtin.bitNot i,r.2)|_=>none
 |.not e,H,C=>(bV O e H C).bind λr=>(h3 r.2 r.1).bind λb=>some (.bool<|!b,r.2)
 |.b8 op a b,H,C=>(bV O a H C).bind λr=>(bV O b H r.2).bind λq=>iF op r.1 q.1 q.2
 |.aK op a b,H,C=>(bV O a H C).bind λr=>(bV O b H r.2).bind λq=>(eh q.2 op r.1 q.1).bind λt=>some (.bool t,q.2)
 |.xi qo qp a b c,H,C=>(bV O a H C).bind λr=>(bV O b H r.2).bind λq=>(eh q.2 qo r.1 q.1).bind λt=>if t then(bV O c H q.2).bind λu=>(eh u.2 qp q.1 u.1).bind λt=>some (.bool t,u.2)else some (.bool false,q.2)
 |.and a b,H,C=>(bV O a H C).bind λr=>(h3 r.2 r.1).bind λt=>if t then bV O b H r.2 else some r
 |.or a b,H,C=>(bV O a H C).bind λr=>(h3 r.2 r.1).bind λt=>if t then some r else bV O b H r.2
 |.ite c a b,H,C=>(bV O c H C).bind λr=>(h3 r.2 r.1).bind λt=>if t then bV O a H r.2 else bV O b H r.2
 |.aZ e f,H,C=>(bV O e H C).bind λr=>(hs O.b1 r.2 f r.1).map λv=>(v,r.2)
 |.av e i,H,C=>(bV O e H C).bind λr=>(bV O i H r.2).bind λq=>(fq q.2 r.1 q.1).map λv=>(v,q.2)
 |.je e cf ah,H,C=>(bV O e H C).bind λr=>(zD O cf H r.2).bind λq=>(zD O ah H q.2).bind λu=>nh r.1 q.1 u.1 u.2
 |.a5 f args,H,C=>(kS O args H C).bind λr=>O.fn f r.1 r.2
 |.l2 c args,H,C=>(kS O args H C).bind λr=>O.make c r.1 r.2
 |.b1 e m args,H,C=>(bV O e H C).bind λr=>match r.1 with
  |.L a=>match r.2[a]?with
   |some (.cR c F)=>match F m,O.b1 c m with
    |none,some f=>(kS O args H r.2).bind λq=>O.fn f (.L a::q.1) q.2
    |B,cr=>none
   |some (.list B)=>(kS O args H r.2).bind λq=>mF a m q.1 q.2
   |some (.dict B)=>(kS O args H r.2).bind λq=>qr a m q.1 q.2
   |none=>none
  |_=>none
 |.cx b e,H,C=>(bV O e H C).bind λr=>kQ b r.1 r.2
 |.comp elt cL cg ifs,H,C=>(bV O cg H C).bind λr=>(ni r.2 r.1).bind λit=>(ir (λs=>hc s it.2 it.1) (λx s=>(gC cL x H).bind λci=>(gp O ifs ci s).bind λq=>if q.1 then(bV O elt ci q.2).bind λu=>some (some u.1,u.2)else some (none,q.2)) it.1 r.2).bind λu=>some (.L u.2.length,u.2++[.list u.1])
 |.jW elt i cg ifs,H,C=>(bV O cg H C).bind λr=>match r.1 with
  |.int n=>if 0<=n/\n<16000000 then(ir (λB=>true) (λx s=>(gp O ifs (ar H i x) s).bind λq=>if q.1 then(bV O elt (ar H i x) q.2).bind λu=>some (some u.1,u.2)else some (none,q.2)) (qs n) r.2).bind λu=>some (.L u.2.length,u.2++[.list u.1])else none
  |_=>none
noncomputable def kS(O:ht):List b4->bT->St->Option (List I×St)
 |[],B,C=>some ([],C)
 |e::aw,H,C=>(bV O e H C).bind λr=>(kS O aw H r.2).bind λq=>some (r.1::q.1,q.2)
noncomputable def zD(O:ht):Option b4->bT->St->Option (Option I×St)
 |none,B,C=>some (none,C)
 |some e,H,C=>(bV O e H C).bind λr=>some (some r.1,r.2)
noncomputable def gp(O:ht):List b4->bT->St->Option (Bool×St)
 |[],B,C=>some (true,C)
 |e::aw,H,C=>(bV O e H C).bind λr=>(h3 r.2 r.1).bind λt=>if t then gp O aw H r.2 else some (false,r.2)
end
noncomputable def jf(O:ht)(e:b4)(H:bT)(C:St):Option (Bool×St):=(bV O e H C).bind λr=>(h3 r.2 r.1).bind λt=>some (t,r.2)
noncomputable def kj(b1:Nat->Nat->Option Nat)(C:St)(f:Nat)(v:I):I->Option St
 |.L a=>match C[a]?with
  |some (.cR c F)=>if a≠0/\b1 c f=none then some (C.set a<|.cR c<|ar F f v)else none
  |_=>none
 |_=>none
noncomputable def qt(C:St)(k v:I):I->Option St
 |.L a=>match C[a]?with
  |some (.list l)=>match k with
   |.int i=>if a≠0/\0<=i/\i<l.length then some (C.set a<|.list<|l.set i.toNat v)else none
   |_=>none
  |some (.dict l)=>if e3 l k&&decide (l.length<16000000)&&decide (a≠0)then some (C.set a<|.dict<|fB l k v)else none
  |_=>none
 |_=>none
noncomputable def vk(C:St)(k:I):I->Option St
 |.L a=>match C[a]?with
  |some (.dict l)=>if e3 l k&&(cE l k).isSome&&decide (a≠0)then some (C.set a<|.dict<|mE l k)else none
  |_=>none
 |_=>none
noncomputable def tz(C:St)(cf:I):I->Option St
 |.L a=>match C[a]?,cf with
  |some (.list l),.int i=>if a≠0/\0<=i/\i<=l.length then some (C.set a<|.list<|l.take i.toNat)else none
  |B,cr=>none
 |_=>none
mutual
noncomputable def cw(O:ht):dB->bT->St->Option (eG×bT×St)
 |.assign cL e,H,C=>(bV O e H C).bind λr=>(gC cL r.1 H).bind λci=>some (.next,ci,r.2)
 |.setAttr o f e,H,C=>(bV O e H C).bind λr=>(bV O o H r.2).bind λq=>(kj O.b1 q.2 f r.1 q.1).bind λs=>some (.next,H,s)
 |.setItem o i e,H,C=>(bV O e H C).bind λr=>(bV O o H r.2).bind λq=>(bV O i H q.2).bind λu=>(qt u.2 u.1 r.1 q.1).bind λs=>some (.next,H,s)
 |.tw i op e,H,C=>(H i).bind λv=>(bV O e H C).bind λr=>match v,r.1 with
  |.int B,.int cr=>(iF op v r.1 r.2).bind λq=>some (.next,ar H i q.1,q.2)
  |B,cr=>none
 |.rI o f op e,H,C=>(bV O o H C).bind λr=>(hs O.b1 r.2 f r.1).bind λv=>(bV O e H r.2).bind λq=>match v,q.1 with
  |.int B,.int cr=>(iF op v q.1 q.2).bind λu=>(kj O.b1 u.2 f u.1 r.1).bind λs=>some (.next,H,s)
  |B,cr=>none
 |.delItem o i,H,C=>(bV O o H C).bind λr=>(bV O i H r.2).bind λq=>(vk q.2 q.1 r.1).bind λs=>some (.next,H,s)
 |.xj o cf,H,C=>(bV O o H C).bind λr=>(bV O cf H r.2).bind λq=>(tz q.2 q.1 r.1).bind λs=>some (.next,H,s)
 |.ite c a b,H,C=>(jf O c H C).bind λr=>if r.1 then cG O a H r.2 else cG O b H r.2
 |.gQ cL cg body,H,C=>(bV O cg H C).bind λr=>(ni r.2 r.1).bind λit=>fX (λs=>hc s it.2 it.1) (λx H s=>(gC cL x H).bind λci=>cG O body ci s) it.1 H r.2
 |.iq i cg body,H,C=>(bV O cg H C).bind λr=>match r.1 with
  |.int n=>if 0<=n/\n<16000000 then fX (λB=>true) (λx H s=>cG O body (ar H i x) s) (qs n) H r.2 else none
  |_=>none
 |.pr c body,H,C=>kR (λH s=>jf O c H s) (λH s=>cG O body H s) zC H C
 |.ret e,H,C=>(bV O e H C).bind λr=>some (.ret r.1,H,r.2)
 |.xk,H,C=>some (.ret .none,H,C)
 |.expr e,H,C=>(bV O e H C).bind λr=>some (.next,H,r.2)
 |.fA,B,cr=>none
noncomputable def cG(O:ht):List dB->bT->St->Option (eG×bT×St)
 |[],H,C=>some (.next,H,C)
 |s::ss,H,C=>(cw O s H C).bind λr=>match r.1 with
  |.next=>cG O ss r.2.1 r.2.2
  |.ret v=>some (.ret v,r.2.1,r.2.2)
end
noncomputable def C4(np:Nat)(hG args:List I):Option bT:=
 if args.length<=np/\np<=args.length+hG.length then
  some λi=>(args++hG.drop (hG.length-(np-args.length)))[i]?
 else none
noncomputable def tA(O:ht)(fn:fp)(args:List I)(C:St):Option (I×St):=
 (C4 fn.np fn.hG args).bind λH=>(cG O fn.body H C).bind λr=>match r.1 with
  |.ret v=>some (v,r.2.2)
  |.next=>some (.none,r.2.2)
noncomputable def a0(P:jx):Nat->xn
 |0,B,cr,eE=>none
 |d+1,f,args,C=>(P.pv[f]?).bind λfn=>tA
   {fn:=a0 P d,
    make:=match d with
     |0=>λB B B=>none
     |d+1=>λc args C=>match P.init c with
      |some f=>(a0 P d f (.L C.length::args)<|C++[.cR c λB=>none]).bind λr=>if r.1=.none then some (.L C.length,r.2)else none
      |none=>if args=[]then some (.L C.length,C++[.cR c λB=>none])else none
    b1:=P.b1} fn args C
theorem C5{a:Nat}:a<=(a+2):=by lia
theorem HR{a:Nat}:a<=(a+1):=by lia
theorem HS{a b:Nat}:a<=(a+b):=by lia
theorem HT{a b c:Nat}(h0:((a+(10*c))+300)<b):(a+65)<b:=by lia
theorem tB{a b c:Nat}(h0:a=c)(Y:c<=16000000)(ae:16000000<=b):a<=b:=by lia
theorem vl{a:Nat}:((a:Nat):Int)≠(-(1:Int)):=by lia
theorem HU{a b c:Nat}(h0:a<c)(Y:c<b):a<b:=by lia
theorem C6{a b:Nat}(h0:(a+64)<b):(a+6)<b:=by lia
theorem P9{a b:Nat}(h0:((a:Nat):Int)=((b:Nat):Int)):a=b:=by lia
theorem vm{a b:Nat}(h0:¬(b<a)):a<=b:=by lia
theorem Qa{a:Nat}:a<=(a+3):=by lia
theorem Qb{a b c:Nat}(h0:a=c)(Y:c<=b):a<=b:=by lia
theorem C7{a:Nat}:¬(((a:Nat):Int)<(0:Int)):=by lia
theorem HV{a:Nat}(h0:a<=1):(a=0)\/(a=1):=by lia
theorem Qc{a:Nat}:(a+1)<=(a+2):=by lia
theorem Qd{a b c:Nat}(h0:a=c)(Y:b=c):a=b:=by lia
theorem Qe{a b c:Nat}(h0:a=c)(Y:c<16000000)(ae:16000000<=b):a<=b:=by lia
theorem HW{a b:Nat}(h0:a<=b):(a+(b-a))=b:=by lia
theorem Qf{a b:Nat}(h0:a<b):((a:Nat):Int)<((b:Nat):Int):=by lia
theorem HX{a:Int}(h0:a<(0:Int)):¬((0:Int)<=a):=by lia
theorem HY{a b c:Nat}(h0:(a+(c+1))<b):a<b:=by lia
theorem Qg{a b c:Nat}(h0:(a+(b+1))<c):((a+1)+b)<c:=by lia
theorem HZ{a b c d e:Nat}(h0:c<b)(Y:d<c)(ae:e<d)(ba:(a+8)<e):a<=b:=by lia
theorem xo{a b c d:Nat}:a<((((1+a)+b)+c)+d):=by lia
theorem zE{a b c d:Nat}:a<((((1+b)+c)+a)+d):=by lia
theorem C8{a b c:Nat}:a<(((1+b)+a)+c):=by lia
theorem zF{a b c:Nat}:a<(((1+a)+b)+c):=by lia
theorem H0{a b c d e:Nat}(h0:a=d)(Y:b=e)(ae:(d+e)<=16000000)(ba:16000000<=c):(a+b)<=c:=by lia
noncomputable abbrev U(n:Int):b4:=.bc (.int n)
section
open PySem (Str Expr Stmt NameKind)
inductive mG|val (v:I)|fn (f:Nat)|cls (c:Nat)|cx (b:vh)|rK
noncomputable def mG.ctorIdx(x:mG):Nat:=mG.casesOn x (λB=>0) (λB=>1) (λB=>2) (λB=>3) 4
noncomputable def aJ(x:Str):Nat:=(x.cps.toList.foldl (·+·) 0)%32
noncomputable def zG{α:Type}(t:List (List<|Str×α))(x:Str):Option α:=(t[aJ x]?).bind (·.lookup x)
structure gS where
 gl:Str->Option mG
 xp:Str->Option Nat
abbrev Sc:=List<|Str×NameKind
abbrev jy:=List<|Str×Nat
noncomputable def tC:PySem.Operator->Option ob
 |.Add=>some .add|.Sub=>some .sub|.Mult=>some .mul|.FloorDiv=>some .fdiv|.Mod=>some .mD
 |.BitAnd=>some .dj|.BitOr=>some .ip|.RShift=>some .oc|_=>none
noncomputable def xq:PySem.CmpOp->Option tu
 |.Eq=>some .eq|.NotEq=>some .bu|.Lt=>some .lt|.LtE=>some .le|.Gt=>some .gt|.GtE=>some .ge
 |.Is=>some .is|.IsNot=>some .xh|.In=>some .dT|.NotIn=>some .jd
noncomputable def Qh:PySem.Const->Option I
 |.none=>some .none|.bool b=>some (.bool b)|.int i=>some (.int i)|.str s=>some (.str s)|_=>none
noncomputable def rL(aL:jy)(sc:Sc)(x:Str):Option Nat:=
 match sc.lookup x with
 |some .local|some .cell|some .free=>aL.lookup x
 |_=>none
noncomputable def oe(aL:jy)(sc:Sc)(x:Str):Option Nat:=
 match sc.lookup x with
 |some .local|some .cell=>aL.lookup x
 |_=>none
noncomputable def nj(G:gS)(sc:Sc)(x:Str):Option mG:=
 match sc.lookup x with
 |some .globalImplicit=>G.gl x
 |_=>none
noncomputable def H1(f:b4->b4->b4):List b4->Option b4
 |[]=>none
 |[e]=>some e
 |e::aw=>(H1 f aw).map<|f e
noncomputable def tD(aL:jy)(sc:Sc):List Expr->Option (List Nat)
 |[]=>some []
 |.Name x _::r=>(oe aL sc x).bind λi=>(tD aL sc r).map (i::·)
 |_=>none
noncomputable def nk(aL:jy)(sc:Sc):Expr->Option od
 |.Name x B=>(oe aL sc x).map .aR
 |.Tuple aw B cr=>(tD aL sc aw).map .iV
 |_=>none
noncomputable def h4(names:Sc):List Str:=(names.filter λp=>(p.2==.local||p.2==.cell)&&p.1 !=(".0":Str)).map (·.1)
noncomputable def zH(names:Sc):Bool:=names.all λp=>p.2 !=.cell
noncomputable def zI(aL:jy)(sc names:Sc):Bool:=names.all λp=>p.2 !=.free||((sc.lookup p.1==some .cell||sc.lookup p.1==some .free)&&(aL.lookup p.1).isSome)
noncomputable def tE(names:Sc):Bool:=names.all λp=>p.1 !=("__classdict__":Str)
noncomputable def xr:Expr->Bool
 |.Call .. =>true
 |_=>false
noncomputable def C9:Expr->Bool
 |.Call (.Name id B) [] [] cr=>id !=("super":Str)
 |_=>true
noncomputable def h5:List Str->Nat->jy
 |[],B=>[]
 |x::r,n=>(x,n)::h5 r (n+1)
mutual
noncomputable def c9(G:gS)(aL:jy)(aW:Nat)(sc:Sc):Expr->Option b4
 |.Constant c B cr=>(Qh c).map .bc
 |.Name x B=>if x==("__debug__":Str)then none else match rL aL sc x with
  |some i=>some<|.E i
  |none=>match nj G sc x with
   |some (.val v)=>some<|.bc v
   |_=>none
 |.BoolOp op vs B=>(hQ G aL aW sc vs).bind λaw=>H1 (match op with|.And=>.and|.Or=>.or) aw
 |.BinOp l op r B=>(c9 G aL aW sc l).bind λa=>(c9 G aL aW sc r).bind λb=>(tC op).map λo=>.b8 o a b
 |.UnaryOp op x B=>(c9 G aL aW sc x).bind λa=>match op with
  |.Not=>some (.not a)|.USub=>some (.neg a)|.Invert=>some (.tv a)|_=>none
 |.IfExp t a b B=>(c9 G aL aW sc t).bind λt=>(c9 G aL aW sc a).bind λa=>(c9 G aL aW sc b).map λb=>.ite t a b
 |.Dict [] [] B=>some .l1
 |.List aw B=>if aw.length<1000 then(hQ G aL aW sc aw).map .fh else none
 |.Tuple aw B cr=>if aw.length<1000 then(hQ G aL aW sc aw).map .ak else none
 |.Compare l [op] [r] B=>(c9 G aL aW sc l).bind λa=>(c9 G aL aW sc r).bind λb=>(xq op).map λo=>.aK o a b
 |.Compare l [qo,qp] [r,q] B=>(c9 G aL aW sc l).bind λa=>(c9 G aL aW sc r).bind λb=>(c9 G aL aW sc q).bind λc=>(xq qo).bind λgT=>(xq qp).map λgD=>.xi gT gD a b c
 |.Call (.Name f B) args [] cr=>match nj G sc f with
  |some .rK=>some<|.cx .range<|.bc .none
  |some (.fn f)=>(hQ G aL aW sc args).map λaw=>.a5 f aw
  |some (.cls c)=>(hQ G aL aW sc args).map λaw=>.l2 c aw
  |some (.cx b)=>(hQ G aL aW sc args).bind λaw=>(match aw with|[e]=>some (.cx b e)|_=>none)
  |_=>none
 |.Call (.Attribute o m ap) args [] pos=>if C9 o&&ap.endLine==pos.line&&args.length<20 then(c9 G aL aW sc o).bind λa=>(hQ G aL aW sc args).bind λaw=>(G.xp m).map λk=>.b1 a k aw else none
 |.Attribute v a B=>if C9 v then(c9 G aL aW sc v).bind λe=>(G.xp a).map λk=>.aZ e k else none
 |.Subscript v (.Slice cf ah none B) cr=>(c9 G aL aW sc v).bind λe=>(Da G aL aW sc cf).bind λcf=>(Da G aL aW sc ah).map λah=>.je e cf ah
 |.Subscript v i B=>(c9 G aL aW sc v).bind λe=>(c9 G aL aW sc i).map λi=>.av e i
 |.ListComp elt gens scope B=>if scope.kind !=.function then none else(c9 G (h5 (h4 scope.names) aW++aL) (aW+(h4 scope.names).length) scope.names elt).bind λelt=>Qi G aL aW sc elt scope.names gens
 |_=>none
noncomputable def Qi(G:gS)(aL:jy)(aW:Nat)(sc:Sc)(elt:b4)(names:Sc):List PySem.Comprehension->Option b4
 |[⟨cL,iter,ifs,0⟩]=>
  if zH names&&tE names&&zI aL sc names&&decide (names.map (·.1)).Nodup then
   (hQ G (h5 (h4 names) aW++aL) (aW+(h4 names).length) names ifs).bind λifs=>(nk (h5 (h4 names) aW++aL) names cL).bind λcL=>
    (c9 G aL aW sc iter).bind λit=>(match it,cL with
     |.cx .range e,.aR i=>if xr iter then some (.jW elt i e ifs)else none
     |.cx .range B,.iV cr=>none
     |it,cL=>some (.comp elt cL it ifs))
  else none
 |_=>none
noncomputable def Da(G:gS)(aL:jy)(aW:Nat)(sc:Sc):Option Expr->Option (Option b4)
 |none=>some none
 |some e=>(c9 G aL aW sc e).map some
noncomputable def hQ(G:gS)(aL:jy)(aW:Nat)(sc:Sc):List Expr->Option (List b4)
 |[]=>some []
 |e::aw=>(c9 G aL aW sc e).bind λa=>(hQ G aL aW sc aw).map (a::·)
end
mutual
noncomputable def zJ(G:gS)(aL:jy)(aW:Nat)(sc:Sc):Stmt->Option dB
 |.Assign [.Name x p] v B=>(c9 G aL aW sc v).bind λe=>(nk aL sc<|.Name x p).map λt=>.assign t e
 |.Assign [.Tuple ts k p] (.Name x q) B=>(c9 G aL aW sc<|.Name x q).bind λe=>(nk aL sc<|.Tuple ts k p).map λt=>.assign t e
 |.Assign [.Attribute o a B] v cr=>(c9 G aL aW sc v).bind λe=>(c9 G aL aW sc o).bind λo=>(G.xp a).map λk=>.setAttr o k e
 |.Assign [.Subscript B (.Slice ..) cr] eE hb=>none
 |.Assign [.Subscript o i B] v cr=>(c9 G aL aW sc v).bind λe=>(c9 G aL aW sc o).bind λo=>(c9 G aL aW sc i).map λi=>.setItem o i e
 |.AugAssign (.Name x B) op v cr=>if op !=.Add&&op !=.Sub then none else(c9 G aL aW sc v).bind λe=>(oe aL sc x).bind λi=>(tC op).map λop=>.tw i op e
 |.AugAssign (.Attribute o a B) op v cr=>if op !=.Add&&op !=.Sub then none else(c9 G aL aW sc v).bind λe=>(c9 G aL aW sc o).bind λo=>(G.xp a).bind λk=>(tC op).map λop=>.rI o k op e
 |.Delete [.Subscript o (.Slice (some cf) none none B) cr] eE=>(c9 G aL aW sc o).bind λo=>(c9 G aL aW sc cf).map λcf=>.xj o cf
 |.Delete [.Subscript B (.Slice ..) cr] eE=>none
 |.Delete [.Subscript o i B] cr=>(c9 G aL aW sc o).bind λo=>(c9 G aL aW sc i).map λi=>.delItem o i
 |.If t a b B=>(c9 G aL aW sc t).bind λt=>(of G aL aW sc a).bind λa=>(of G aL aW sc b).map λb=>.ite t a b
 |.For cL rM body [] B=>(nk aL sc cL).bind λcL=>(c9 G aL aW sc rM).bind λit=>(of G aL aW sc body).bind λbody=>(match it,cL with
  |.cx .range e,.aR i=>if xr rM then some (.iq i e body)else none
  |.cx .range B,.iV cr=>none
  |it,cL=>some (.gQ cL it body))
 |.While t body [] B=>(c9 G aL aW sc t).bind λt=>(of G aL aW sc body).map λbody=>.pr t body
 |.Return (some e) B=>(c9 G aL aW sc e).map .ret
 |.Return none B=>some .xk
 |.Expr (.Call f as dO p) B=>(c9 G aL aW sc<|.Call f as dO p).map .expr
 |.Raise .. =>some .fA
 |_=>none
noncomputable def of(G:gS)(aL:jy)(aW:Nat)(sc:Sc):List Stmt->Option (List dB)
 |[]=>some []
 |s::ss=>(zJ G aL aW sc s).bind λa=>(of G aL aW sc ss).map (a::·)
end
noncomputable def Db(G:gS)(args:PySem.Arguments)(body:List Stmt)(scope:PySem.Scope)(hG:List I):Option fp:=
 let ps:=args.args.map (·.arg)
 if args.posonlyargs.isEmpty&&args.vararg.isNone&&args.kwonlyargs.isEmpty&&args.kwarg.isNone&&ps==(scope.names.map (·.1)).take ps.length
   &&decide (scope.names.map (·.1)).Nodup&&hG.length<=ps.length&&(scope.names.take ps.length).all (λp=>p.2==.local||p.2==.cell)&&tE scope.names&&scope.names.all (λp=>p.2 !=.free&&p.1 !=(".0":Str))&&scope.kind==.function&& !scope.isGenerator&& !scope.isCoroutine then
  (of G (h5 (scope.names.map (·.1)) 0) scope.names.length scope.names body).map λb=>⟨ps.length,hG,b⟩
 else none
def bX{α β:Type}{x:Option α}{f:α->Option β}{b:β}{R:Prop}(h:x.bind f=some b)(k:∀a,x=some a->f a=some b->R):R:=by
 cases x with
 |none=>contradiction
 |some a=>exact k a rfl h
def c0{α kP β:Type}{x:Option (α×kP)}{f:α×kP->Option β}{b:β}{R:Prop}(h:x.bind f=some b)(k:∀a c,x=some (a,c)->f (a,c)=some b->R):R:=bX h λp=>k p.1 p.2
def dt{α β:Type}{x:Option α}{f:α->β}{b:β}{R:Prop}(h:x.map f=some b)(k:∀a,x=some a->f a=b->R):R:=by
 cases x with
 |none=>contradiction
 |some a=>exact k a rfl<|bp h
def dZ{α:Type}{p:Prop}[Decidable p]{x:Option α}{b:α}{R:Prop}(h:(if p then x else none)=some b)(k:p->x=some b->R):R:=by
 by_cases q:p
 ·rw[bh q]at h;exact k q h
 ·rw[bH q]at h;contradiction
def vn{α:Type}{p:Prop}[Decidable p]{x:Option α}{b:α}{R:Prop}(h:(if p then none else x)=some b)(k:¬p->x=some b->R):R:=by
 by_cases q:p
 ·rw[bh q]at h;contradiction
 ·rw[bH q]at h;exact k q h
def bB{α β:Type}{x:Option α}{f:α->Option β}{a:α}{r:Option β}(h:x=some a)(k:f a=r):x.bind f=r:=by refine V h ?_;exact k
def H2{G:gS}{aL:jy}{aW:Nat}{sc:Sc}{f:Str}{p pos:PySem.Pos}{args:List Expr}{m:b4}{R:Prop}(dJ:some (b4.cx .range<|.bc .none)=some m->R)(fi:∀k,nj G sc f=some (.fn k)->((hQ G aL aW sc args).map λaw=>b4.a5 k aw)=some m->R)(og:∀k,nj G sc f=some (.cls k)->((hQ G aL aW sc args).map λaw=>b4.l2 k aw)=some m->R)(qu:∀b,nj G sc f=some (.cx b)->((hQ G aL aW sc args).bind λaw=>(match aw with|[e]=>some (b4.cx b e)|_=>none))=some m->R)(h:c9 G aL aW sc (.Call (.Name f p) args [] pos)=some m):R:=by
 have h:(match nj G sc f with
  |some .rK=>some<|.cx .range<|.bc .none
  |some (.fn f)=>(hQ G aL aW sc args).map λaw=>.a5 f aw
  |some (.cls c)=>(hQ G aL aW sc args).map λaw=>.l2 c aw
  |some (.cx b)=>(hQ G aL aW sc args).bind λaw=>(match aw with|[e]=>some (.cx b e)|_=>none)
  |_=>none)=some m:=h
 cases bA:nj G sc f with
 |none=>rw[bA]at h;contradiction
 |some g=>
  rw[bA]at h;cases g with
  |rK=>exact dJ h
  |fn k=>exact fi k bA h
  |cls k=>exact og k bA h
  |cx b=>exact qu b bA h
  |val B=>contradiction
end
noncomputable def fr:List Str:=[aa "append",aa "pop",aa "extend",aa "get",aa "abstract",aa "ask",aa "assumed",aa "at",aa "back",aa "bases",aa "body",aa "bounds",aa "busy",aa "clean",aa "decls",aa "deep",aa "defaults",aa "did",aa "extends_class",aa "file",aa "force",aa "holds",aa "host",aa "index",aa "kind",aa "known",aa "list_prop",aa "mark",aa "members",aa "missing",aa "mode",aa "most_deep",aa "most_rounds",aa "name",aa "names",aa "nid",aa "note",aa "notes",aa "number",aa "origins",aa "params",aa "put",aa "putting",aa "renamed",aa "road",aa "rows",aa "rules",aa "same",aa "shape",aa "shaping",aa "static",aa "tab",aa "telling",aa "text",aa "trail",aa "twin",aa "variances"]
noncomputable def Dc:List (List<|Str×mG):=[
 [(aa "NEVER",.val<|.int<|2),(aa "owners_fit",.fn 89),(aa "marks_fit",.fn 90)],
 [(aa "Y_KEY",.val<|.int<|1),(aa "Y_UNION",.val<|.int<|6),(aa "new_decl",.fn 14),(aa "find_prop",.fn 69),(aa "prop_related",.fn 92),(aa "_law_masks",.val<|.ak [.int<|1,.int<|2,.int<|4,.int<|8,.int<|3,.int<|32,.int<|36,.int<|192,.int<|0,.int<|256,.int<|512,.int<|513,.int<|1024,.int<|2048,.int<|4096,.int<|64])],
 [(aa "Y_TUPLE",.val<|.int<|12),(aa "Y_ALIAS",.val<|.int<|19),(aa "P_OPT",.val<|.int<|1),(aa "RULE_MEET",.val<|.int<|1),(aa "RULE_CHOICE",.val<|.int<|6),(aa "unknown_told",.fn 49),(aa "is_numeric_enum",.fn 50),(aa "install_rel_objects",.fn 97)],
 [(aa "Rel",.cls 3),(aa "is_weak",.fn 73),(aa "weak_fault",.fn 76),(aa "RelshapeObjectRule",.cls 5),(aa "_law_prop",.fn 101)],
 [(aa "Y_BOOL",.val<|.int<|2),(aa "sorted_props",.fn 11),(aa "tells",.fn 43),(aa "plain_shape",.fn 61),(aa "_law_other",.fn 103),(aa "_law_type",.fn 111)],
 [(aa "R_IDENT",.val<|.int<|3),(aa "lay_again",.fn 57),(aa "did_of",.fn 77),(aa "_law_rel",.fn 114)],
 [(aa "RULE_CALLS",.val<|.int<|8),(aa "LIST_ROWS",.val<|.ak [.int<|11,.int<|12]),(aa "tops_related",.fn 48),(aa "MOST_SHAPES",.val<|.int<|40),(aa "rises",.fn 78),(aa "same_prop",.fn 95)],
 [(aa "V_CO",.val<|.int<|1),(aa "top_of",.fn 20),(aa "RULE_REFS",.val<|.int<|11),(aa "VALUE_ROWS",.val<|.ak [.int<|1,.int<|2,.int<|3,.int<|4,.int<|5]),(aa "each_in",.fn 60)],
 [(aa "Y_NUM",.val<|.int<|4),(aa "Y_TPL",.val<|.int<|18),(aa "ANY",.val<|.int<|0),(aa "is_literal",.fn 23),(aa "is_weak_kind",.fn 75),(aa "_law_kind",.fn 100),(aa "_law_alike",.fn 107)],
 [(aa "U_ENUM",.val<|.int<|10),(aa "Notes",.cls 0),(aa "Y_PARAM",.val<|.int<|10),(aa "NUMBER",.val<|.int<|7),(aa "ERR",.val<|.int<|13),(aa "union",.fn 21),(aa "loss_notes",.fn 91),(aa "same_shapes",.fn 94)],
 [(aa "P_PRIVATE",.val<|.int<|8),(aa "TypeTable",.cls 1),(aa "whole_of_row",.fn 16),(aa "silent_with",.fn 36),(aa "slot_notes",.fn 45),(aa "simple_related",.fn 47),(aa "some_part",.fn 56),(aa "shows_nothing",.fn 74),(aa "objects_related",.fn 80),(aa "_law_table",.fn 109),(aa "tuple",.cx .tuple)],
 [(aa "OBJECTT",.val<|.int<|10),(aa "FRESH_T",.val<|.int<|15),(aa "DEFERRED_ROWS",.val<|.ak [.int<|10,.int<|14,.int<|15,.int<|16,.int<|17,.int<|18,.int<|19]),(aa "to_union",.fn 58),(aa "same_kind",.fn 59),(aa "base_did",.fn 62),(aa "MAX_ROAD",.val<|.int<|24),(aa "_law_count",.fn 106)],
 [(aa "LENGTH_CHANGERS",.val<|.ak [.str<|aa "pop",.str<|aa "push",.str<|aa "reverse",.str<|aa "shift"])],
 [(aa "U_OPTION",.val<|.int<|11),(aa "Y_ENUM",.val<|.int<|5),(aa "P_READONLY",.val<|.int<|2),(aa "bool_type",.fn 9),(aa "func_type",.fn 13),(aa "taken_wider",.fn 44),(aa "range",.cx .range)],
 [(aa "MAX_UNION",.val<|.int<|400),(aa "join_bools",.fn 18),(aa "RULE_OBJECT",.val<|.int<|5)],
 [(aa "Y_MAPPED",.val<|.int<|17),(aa "NULLT",.val<|.int<|5),(aa "EMPTY",.val<|.int<|11),(aa "RULE_INDEX",.val<|.int<|10),(aa "RULE_PLACES",.val<|.int<|12),(aa "too_deep",.fn 79),(aa "weak_asked",.fn 84),(aa "same_objects",.fn 93)],
 [(aa "Y_INDEX",.val<|.int<|15),(aa "UNKNOWN",.val<|.int<|1),(aa "P_METHOD",.val<|.int<|4),(aa "values_related",.fn 51),(aa "refs_related",.fn 81),(aa "_law_draw",.fn 98)],
 [(aa "Y_STR",.val<|.int<|3),(aa "P_GETONLY",.val<|.int<|32),(aa "num_type",.fn 8),(aa "close_trail",.fn 42),(aa "shape_related",.fn 85),(aa "sorted",.cx .sorted),(aa "isinstance",.rK)],
 [(aa "U_READONLY",.val<|.int<|4),(aa "VOID",.val<|.int<|3),(aa "UNDEF",.val<|.int<|4),(aa "FIRST_ROWS",.val<|.ak [.ak [.int<|1,.str<|aa "any"],.ak [.int<|1,.str<|aa "unknown"],.ak [.int<|1,.str<|aa "never"],.ak [.int<|1,.str<|aa "void"],.ak [.int<|1,.str<|aa "undefined"],.ak [.int<|1,.str<|aa "null"],.ak [.int<|1,.str<|aa "string"],.ak [.int<|1,.str<|aa "number"],.ak [.int<|2,.int<|0,.int<|0],.ak [.int<|2,.int<|1,.int<|0],.ak [.int<|1,.str<|aa "object"],.ak [.int<|8,.ak [],.ak [],.ak [],.ak [],.ak [],.int<|0],.ak [.int<|6,.ak [.int<|8,.int<|9]],.ak [.int<|1,.str<|aa "error"],.ak [.int<|2,.int<|0,.int<|1],.ak [.int<|2,.int<|1,.int<|1]]),(aa "by_rule",.fn 35),(aa "relshape_within_literal",.fn 86)],
 [(aa "Y_OBJ",.val<|.int<|8),(aa "TRUE_T",.val<|.int<|9),(aa "regular_twin",.fn 17),(aa "is_fresh",.fn 25),(aa "regular_one",.fn 26),(aa "RULE_LIST",.val<|.int<|4),(aa "RULE_WORD",.val<|.int<|14),(aa "_law_atom",.fn 110),(aa "_law_shape",.fn 112)],
 [(aa "kept",.fn 41)],
 [(aa "U_PROP",.val<|.int<|3),(aa "Y_REF",.val<|.int<|9),(aa "settled",.fn 39),(aa "structured",.fn 53),(aa "_law_told",.fn 113)],
 [(aa "Y_KEYOF",.val<|.int<|14),(aa "R_ASSIGN",.val<|.int<|1),(aa "twin_of",.fn 37),(aa "MOST_PLAIN",.val<|.int<|40),(aa "has_base",.fn 72)],
 [(aa "Y_ARRAY",.val<|.int<|11),(aa "STRING",.val<|.int<|6),(aa "LITERAL_ROWS",.val<|.ak [.int<|2,.int<|3,.int<|4,.int<|5]),(aa "MAX_OPEN",.val<|.int<|60),(aa "ask_kinds",.fn 40),(aa "_law_twins",.fn 108)],
 [(aa "Decl",.cls 2),(aa "R_COMPARE",.val<|.int<|2),(aa "RULE_DEFERRED",.val<|.int<|2),(aa "prop_row",.fn 70)],
 [(aa "P_PROTECTED",.val<|.int<|16),(aa "all_related",.fn 46),(aa "is_readonly",.fn 83),(aa "lacking",.fn 88),(aa "all",.cx .all)],
 [(aa "Y_INTER",.val<|.int<|7),(aa "str_type",.fn 7),(aa "add_undef",.fn 22),(aa "RULE_SIG",.val<|.int<|3)],
 [(aa "Y_SIG",.val<|.int<|13),(aa "is_unit",.fn 24),(aa "RefHost",.cls 4),(aa "opened",.fn 82),(aa "_law_nodes",.fn 104)],
 [(aa "U_ANY",.val<|.int<|1),(aa "Y_COND",.val<|.int<|16),(aa "obj_type",.fn 12),(aa "OPEN_ROWS",.val<|.ak [.int<|6,.int<|7,.int<|10,.int<|14,.int<|15,.int<|16,.int<|17,.int<|18,.int<|19]),(aa "cut_back",.fn 38),(aa "from_union",.fn 55)],
 [(aa "U_VAR",.val<|.int<|15),(aa "FRESH_F",.val<|.int<|14),(aa "R_SUBTYPE",.val<|.int<|4),(aa "MOST_ROUNDS",.val<|.int<|200),(aa "read_type",.fn 71),(aa "_law_moved",.fn 102)],
 [(aa "FALSE_T",.val<|.int<|8),(aa "MARKED_ROWS",.val<|.ak [.int<|2,.int<|3,.int<|4,.int<|5,.int<|8]),(aa "ref_type",.fn 10),(aa "parts_of",.fn 15),(aa "rule_for",.fn 54),(aa "PLAIN_ROWS",.val<|.ak [.int<|1,.int<|2,.int<|3,.int<|4,.int<|5]),(aa "rest_related",.fn 87),(aa "_law_norm",.fn 99),(aa "_law_read",.fn 105)],
 [(aa "stays_beside",.fn 19),(aa "SHAPED_ROWS",.val (.ak [.int (8),.int (9)])),(aa "number_to_enum",.fn 52),(aa "len",.cx .len)]]
noncomputable def H3:List (List<|Str×Nat):=[
 [(aa "get",3),(aa "file",19),(aa "most_deep",31)],
 [(aa "name",33)],
 [(aa "twin",55)],
 [(aa "busy",12),(aa "clean",13)],
 [(aa "params",40)],
 [(aa "mode",30),(aa "text",53)],
 [(aa "kind",24),(aa "road",44),(aa "same",47)],
 [],
 [(aa "extend",2),(aa "static",50)],
 [(aa "notes",37),(aa "number",38)],
 [(aa "shaping",49)],
 [(aa "bounds",11),(aa "decls",14),(aa "mark",27),(aa "members",28),(aa "putting",42),(aa "rows",45),(aa "rules",46)],
 [],
 [(aa "known",25)],
 [(aa "bases",9),(aa "body",10)],
 [(aa "pop",1),(aa "force",20),(aa "telling",52)],
 [(aa "extends_class",18)],
 [(aa "back",8),(aa "did",17),(aa "shape",48)],
 [(aa "assumed",6)],
 [],
 [(aa "abstract",4),(aa "names",34)],
 [(aa "at",7)],
 [(aa "note",36)],
 [(aa "tab",51)],
 [(aa "append",0),(aa "defaults",16),(aa "index",23)],
 [(aa "put",41)],
 [(aa "holds",21),(aa "missing",29)],
 [(aa "nid",35),(aa "origins",39)],
 [(aa "list_prop",26),(aa "renamed",43),(aa "trail",54),(aa "variances",56)],
 [(aa "most_rounds",32)],
 [(aa "deep",15),(aa "host",22)],
 [(aa "ask",5)]]
noncomputable def G:gS:=⟨zG Dc,zG H3⟩
noncomputable def H4:List ((Nat×Nat)×Nat):=[((0,41),1),((0,13),2),((1,41),5),((3,5),30),((3,36),31),((3,47),32),((3,27),33),((3,8),34),((4,48),68),((4,20),64),((4,26),66),((5,21),96)]
noncomputable def dw(c m:Nat):Option Nat:=H4.lookup (c,m)
noncomputable def H5:List (Nat×Nat):=[(0,0),(1,3),(2,6),(3,29),(4,67)]
noncomputable def oh(c:Nat):Option Nat:=H5.lookup c
noncomputable def Dd:fp:=⟨3,[],[
 .ite (.aK .eq (.E 1)<|.E 2) [
  .ret (.bc (.bool true))] [],
 .assign (.aR 1) (.a5 39 [(.aZ (.E 0) 22),(.E 1)]),
 .assign (.aR 2) (.a5 39 [(.aZ (.E 0) 22),(.E 2)]),
 .ite (.aK .eq (.E 1)<|.E 2) [
  .ret (.bc (.bool true))] [],
 .ite (.aK .eq (.aZ (.E 0) 30)<|U 3) [
  .assign (.aR 3) (.aZ (.aZ (.aZ (.E 0) 22) 51) 45),
  .ite (.or (.aK .eq (.E 1)<|U 13)<|.aK .eq (.E 2)<|U 13) [
   .ret (.bc (.bool true))] [],
  .ite (.or (.aK .dT (.av (.av (.E 3)<|.E 1)<|U 0)<|.bc<|.ak [.int<|1,.int<|2,.int<|3,.int<|4,.int<|5])<|.aK .dT (.av (.av (.E 3)<|.E 2)<|U 0)<|.bc<|.ak [.int<|1,.int<|2,.int<|3,.int<|4,.int<|5]) [
   .ret (.bc (.bool false))] [],
  .ret (.a5 41 [(.E 0),(.E 1),(.E 2)])] [],
 .assign (.aR 4) (.a5 47 [(.E 0),(.E 1),(.E 2)]),
 .ite (.or (.aK .eq (.E 4)<|U 1)<|.and (.aK .eq (.aZ (.E 0) 30)<|U 2)<|.and (.aK .bu (.E 2)<|U 2)<|.aK .eq (.a5 47 [(.E 0),(.E 2),(.E 1)])<|U 1) [
  .ret (.bc (.bool true))] [],
 .ret (.and (.aK .lt (.E 4) (U 0)) (.a5 41 [(.E 0),(.E 1),(.E 2)]))]⟩
noncomputable def zK:fp:=⟨3,[],[
 .assign (.aR 3) (.ak [(.E 1),(.E 2)]),
 .ite (.aK .dT (.E 3)<|.aZ (.E 0) 25) [
  .ret (.av (.aZ (.E 0) 25) (.E 3))] [],
 .ite (.aK .dT (.E 3)<|.aZ (.E 0) 6) [
  .ret (.bc (.bool true))] [],
 .ite (.aK .ge (.aZ (.E 0) 15)<|U 60) [
  .expr (.b1 (.E 0) 36 [(U 15)]),
  .ret (.bc (.bool true))] [],
 .assign (.aR 4) (.b1 (.E 0) 27 []),
 .setItem (.aZ (.E 0) 6) (.E 3) (U 1),
 .expr (.b1 (.aZ (.E 0) 54) 0 [(.E 3)]),
 .rI (.E 0) 15 .add (U 1),
 .assign (.aR 5) (.ite (.aK .eq (.aZ (.E 0) 30)<|U 3) (.a5 59 [(.E 0),(.E 1),(.E 2)])<|.a5 53 [(.E 0),(.E 1),(.E 2)]),
 .rI (.E 0) 15 .sub (U 1),
 .ite (.not (.E 5)) [
  .expr (.a5 38 [(.E 0),(.E 4)]),
  .ite (.or (.aK .eq (.av (.E 4)<|U 1)<|U 0)<|.aK .bu (.aZ (.E 0) 30)<|U 4) [
   .setItem (.aZ (.E 0) 25) (.E 3) (.bc (.bool false))] []] [
  .ite (.aK .eq (.av (.E 4)<|U 1)<|U 0) [
   .expr (.a5 42 [(.E 0),(.aK .eq (.cx .len (.aZ (.aZ (.E 0) 37) 45)) (.av (.E 4) (U 0)))])] []],
 .ret (.E 5)]⟩
noncomputable def zL:fp:=⟨3,[],[
 .assign (.aR 3) (.a5 48 [(.E 0),(.E 1),(.E 2)]),
 .ite (.aK .ge (.E 3)<|U 0) [
  .ret (.E 3)] [],
 .assign (.aR 4) (.aZ (.aZ (.aZ (.E 0) 22) 51) 45),
 .assign (.aR 5) (.av (.av (.E 4)<|.E 1)<|U 0),
 .assign (.aR 6) (.av (.av (.E 4)<|.E 2)<|U 0),
 .ite (.or (.aK .dT (.E 5)<|.bc<|.ak [.int<|6,.int<|7,.int<|10,.int<|14,.int<|15,.int<|16,.int<|17,.int<|18,.int<|19])<|.aK .dT (.E 6)<|.bc<|.ak [.int<|6,.int<|7,.int<|10,.int<|14,.int<|15,.int<|16,.int<|17,.int<|18,.int<|19]) [
  .ret (.neg (U 1))] [],
 .ite (.aK .eq (.E 2)<|U 10) [
  .ret (.ite (.aK .dT (.E 5) (.bc (.ak [.int (1),.int (2),.int (3),.int (4),.int (5)]))) (U 0) (.neg (U 1)))] [],
 .ite (.aK .dT (.E 6)<|.bc<|.ak [.int<|1,.int<|2,.int<|3,.int<|4,.int<|5]) [
  .ret (.ite (.aK .dT (.E 5) (.bc (.ak [.int (1),.int (2),.int (3),.int (4),.int (5)]))) (.a5 51 [(.E 0),(.E 1),(.E 2)]) (U 0))] [],
 .ite (.or (.aK .eq (.E 1)<|U 4)<|.or (.aK .eq (.E 1)<|U 5)<|.aK .eq (.E 1)<|U 3) [
  .ret (U 0)] [],
 .ret (.neg (U 1))]⟩
noncomputable def H6:fp:=⟨3,[],[
 .ite (.or (.aK .eq (.E 2)<|U 0)<|.or (.aK .eq (.E 2)<|U 13)<|.or (.aK .eq (.E 1)<|U 2)<|.aK .eq (.E 1)<|U 13) [
  .ret (U 1)] [],
 .ite (.and (.aK .eq (.E 1)<|U 0)<|.aK .eq (.aZ (.E 0) 30)<|U 4) [
  .ret (U 0)] [],
 .ite (.aK .eq (.E 2)<|U 1) [
  .ret (U 1)] [],
 .ite (.aK .eq (.E 1)<|U 0) [
  .ite (.aK .eq (.E 2)<|U 2) [
   .ret (U 0)] [],
  .expr (.b1 (.E 0) 36 [(U 1)]),
  .ret (U 1)] [],
 .ite (.aK .eq (.E 1)<|U 1) [
  .ret (.a5 49 [(.E 0),(.E 2)])] [],
 .ite (.and (.aK .eq (.E 2)<|U 2)<|.aK .jd (.av (.av (.aZ (.aZ (.aZ (.E 0) 22) 51) 45)<|.E 1)<|U 0)<|.bc<|.ak [.int<|6,.int<|7,.int<|10,.int<|14,.int<|15,.int<|16,.int<|17,.int<|18,.int<|19]) [
  .ret (U 0)] [],
 .ret (.neg (U 1))]⟩
noncomputable def H7:fp:=⟨3,[],[
 .ite (.aK .eq (.E 1)<|U 4) [
  .ret (.ite (.aK .eq (.E 2) (U 3)) (U 1) (U 0))] [],
 .assign (.aR 3) (.av (.aZ (.aZ (.aZ (.E 0) 22) 51) 45)<|.E 1),
 .assign (.aR 4) (.av (.aZ (.aZ (.aZ (.E 0) 22) 51) 45)<|.E 2),
 .ite (.and (.aK .eq (.a5 16 [(.E 3)])<|.E 2)<|.aK .ge (.a5 16 [(.E 3)])<|U 0) [
  .ret (U 1)] [],
 .ite (.and (.aK .eq (.aZ (.E 0) 30)<|U 2)<|.aK .eq (.a5 16 [(.E 4)])<|.E 1) [
  .ret (U 1)] [],
 .ite (.and (.aK .eq (.av (.E 3)<|U 0)<|U 5)<|.and (.aK .eq (.av (.E 4)<|U 0)<|U 5)<|.aK .eq (.av (.E 3)<|U 1)<|.av (.E 4)<|U 1) [
  .ret (.ite (.aK .eq (.av (.E 3) (U 3)) (.av (.E 4) (U 3))) (U 1) (U 0))] [],
 .ite (.aK .eq (.av (.E 3)<|U 0)<|U 5) [
  .ret (.ite (.and (.aK .dT (.av (.E 4) (U 0)) (.ak [(U 3),(U 4)])) (.and (.aK .eq (.a5 16 [(.E 4)]) (.a5 16 [(.E 3)])) (.aK .eq (.av (.E 4) (U 1)) (.av (.E 3) (U 3))))) (U 1) (U 0))] [],
 .ret (.a5 52 [(.E 0),(.E 1),(.E 3),(.E 4)])]⟩
noncomputable def xt:fp:=⟨3,[],[
 .gQ (.aR 3) (.a5 15 [(.aZ (.aZ (.E 0) 22) 51),(.E 1)]) [
  .ite (.b1 (.E 0) 5 [(.E 3),(.E 2)]) [
   .ite (.aK .eq (.aZ (.E 0) 30)<|U 2) [
    .ret (.bc (.bool true))] []] [
   .ite (.aK .bu (.aZ (.E 0) 30)<|U 2) [
    .ret (.bc (.bool false))] []]],
 .ret (.aK .bu (.aZ (.E 0) 30) (U 2))]⟩
noncomputable def H8:fp:=⟨3,[],[
 .assign (.aR 3) (.bc<|.none),
 .gQ (.aR 4) (.E 2) [
  .assign (.aR 5) (.b1 (.E 0) 27 []),
  .ite (.b1 (.E 0) 5 [(.E 1),(.E 4)]) [
   .ite (.aK .eq (.cx .len<|.aZ (.aZ (.E 0) 37) 45)<|.av (.E 5)<|U 0) [
    .ret (.bc (.bool true))] [],
   .ite (.aK .is (.E 3)<|.bc<|.none) [
    .assign (.aR 3) (.ak [(.je (.aZ (.aZ (.E 0) 37) 45) (some (.av (.E 5) (U 0))) none),(.je (.aZ (.E 0) 54) (some (.av (.E 5) (U 1))) none)])] [],
   .expr (.b1 (.E 0) 8 [(.E 5)])] []],
 .ite (.aK .is (.E 3)<|.bc<|.none) [
  .ret (.bc (.bool false))] [],
 .expr (.a5 57 [(.E 0),(.E 3)]),
 .ret (.bc (.bool true))]⟩
noncomputable def H9:fp:=⟨2,[],[
 .expr (.b1 (.aZ (.aZ (.E 0) 37) 45) 2 [(.av (.E 1)<|U 0)]),
 .gQ (.aR 2) (.av (.E 1)<|U 1) [
  .ite (.and (.aK .jd (.E 2)<|.aZ (.E 0) 6)<|.aK .jd (.E 2)<|.aZ (.E 0) 25) [
   .setItem (.aZ (.E 0) 6) (.E 2) (U 1),
   .expr (.b1 (.aZ (.E 0) 54) 0 [(.E 2)])] []]]⟩
noncomputable def Ia:fp:=⟨3,[],[
 .gQ (.aR 3) (.E 1) [
  .ite (.not (.a5 56 [(.E 0),(.E 3),(.E 2)])) [
   .ret (.bc (.bool false))] []],
 .ret (.bc (.bool true))]⟩
noncomputable def Ib:fp:=⟨4,[],[
 .assign (.aR 4) (.aZ (.E 0) 22),
 .assign (.aR 5) (.av (.aZ (.aZ (.E 4) 51) 45)<|.b1 (.E 4) 48 [(.E 2)]),
 .ite (.and (.E 3)<|.and (.a5 84 [(.E 0),(.E 1)])<|.a5 76 [(.E 4),(.E 1),(.E 2)]) [
  .ret (.bc (.bool false))] [],
 .ite (.and (.aK .eq (.aZ (.E 0) 30)<|U 4)<|.and (.a5 25 [(.aZ (.E 4) 51),(.E 2)])<|.not (.a5 86 [(.E 4),(.E 1),(.E 5)])) [
  .ret (.bc (.bool false))] [],
 .gQ (.aR 6) (.av (.E 5)<|U 1) [
  .ite (.not (.a5 92 [(.E 0),(.E 1),(.E 6)])) [
   .ret (.bc (.bool false))] []],
 .ret (.a5 87 [(.E 0),(.E 1),(.E 2),(.E 5)])]⟩
noncomputable def Ic:fp:=⟨3,[],[
 .ite (.aK .dT (.av (.av (.aZ (.aZ (.E 0) 51) 45)<|.E 1)<|U 0)<|.bc<|.ak [.int<|1,.int<|2,.int<|3,.int<|4,.int<|5]) [
  .ret (.bc (.bool false))] [],
 .assign (.aR 3) (.av (.aZ (.aZ (.E 0) 51) 45)<|.b1 (.E 0) 48 [(.E 1)]),
 .ite (.and (.aK .eq (.av (.E 2)<|U 1)<|.ak [])<|.aK .bu (.je (.E 3) (some<|U 2)<|some<|U 6)<|.ak [(.ak []),(.ak []),(.ak []),(.ak [])]) [
  .ret (.bc (.bool false))] [],
 .assign (.aR 4) (.comp (.av (.E 8)<|U 0) (.aR 8) (.av (.E 2)<|U 1) []),
 .assign (.aR 5) (.comp (.E 8) (.aR 8) (.av (.E 3)<|U 1) [(.aK .jd (.av (.E 8)<|U 0)<|.E 4)]),
 .ret (.cx .all (.comp (.aK .eq (.b1 (.E 0) 20 [(.a5 71 [(.aZ (.E 0) 51),(.E 8)])]) (U 4)) (.aR 8) (.E 5) []))]⟩
noncomputable def Id:fp:=⟨4,[],[
 .assign (.aR 4) (.b8 .ip (U 8)<|U 16),
 .ite (.and (.aK .eq (.b8 .dj (.av (.E 2)<|U 2)<|.E 4)<|.b8 .dj (.av (.E 3)<|U 2)<|.E 4)<|.aK .eq (.av (.E 2)<|U 3)<|.av (.E 3)<|U 3) [
  .ret (.bc (.bool true))] [],
 .ite (.or (.aK .eq (.b8 .dj (.av (.E 3)<|U 2)<|U 16)<|U 0)<|.aK .bu (.b8 .dj (.av (.E 2)<|U 2)<|U 8)<|U 0) [
  .ret (.bc (.bool false))] [],
 .assign (.aR 5) (.ite (.aK .gt (.av (.E 2)<|U 3)<|U 0) (.av (.E 2)<|U 3)<|.a5 77 [(.av (.aZ (.aZ (.E 0) 51) 45)<|.E 1)]),
 .ret (.and (.xi .lt .lt (U 0) (.E 5) (.cx .len (.aZ (.aZ (.E 0) 51) 14))) (.a5 72 [(.E 0),(.E 5),(.av (.E 3) (U 3))]))]⟩
noncomputable def Ie:fp:=⟨4,[],[
 .ite (.and (.b8 .dj (.b8 .ip (.av (.E 2)<|U 2)<|.av (.E 3)<|U 2)<|.b8 .ip (U 8)<|U 16)<|.not (.a5 89 [(.aZ (.E 0) 22),(.E 1),(.E 2),(.E 3)])) [
  .ret (.bc (.bool false))] [],
 .ite (.and (.aK .eq (.aZ (.E 0) 30)<|U 4)<|.and (.a5 83 [(.E 2)])<|.not (.a5 83 [(.E 3)])) [
  .ret (.bc (.bool false))] [],
 .ret (.or (.aK .eq (.aZ (.E 0) 30) (U 2)) (.or (.aK .eq (.b8 .dj (.av (.E 2) (U 2)) (U 1)) (U 0)) (.aK .bu (.b8 .dj (.av (.E 3) (U 2)) (U 1)) (U 0))))]⟩
noncomputable def Ig:fp:=⟨3,[],[
 .assign (.aR 3) (.aZ (.aZ (.E 0) 22) 51),
 .assign (.aR 4) (.a5 70 [(.aZ (.E 0) 22),(.E 1),(.av (.E 2)<|U 0)]),
 .ite (.aK .is (.E 4)<|.bc<|.none) [
  .ret (.a5 88 [(.E 0),(.E 1),(.E 2)])] [],
 .ite (.not (.a5 90 [(.E 0),(.E 1),(.E 4),(.E 2)])) [
  .ret (.bc (.bool false))] [],
 .assign (.aR 5) (.a5 71 [(.E 3),(.E 4)]),
 .assign (.aR 6) (.a5 71 [(.E 3),(.E 2)]),
 .ite (.not (.b1 (.E 0) 5 [(.E 5),(.E 6)])) [
  .ret (.bc (.bool false))] [],
 .ite (.a5 43 [(.E 0)]) [
  .expr (.a5 91 [(.E 0),(.E 1),(.E 2)])] [],
 .ite (.not (.a5 25 [(.E 3),(.E 1)])) [
  .expr (.a5 45 [(.E 0),(.E 5),(.E 6),(.a5 83 [(.E 4)]),(.a5 83 [(.E 2)])])] [
  .ite (.and (.a5 83 [(.E 4)])<|.not (.a5 83 [(.E 2)])) [
   .expr (.b1 (.E 0) 36 [(U 4)])] []],
 .ret (.bc (.bool true))]⟩
noncomputable def De:fp:=⟨3,[],[
 .assign (.aR 3) (.aZ (.E 0) 22),
 .assign (.aR 4) (.av (.aZ (.aZ (.E 3) 51) 45)<|.b1 (.E 3) 48 [(.E 1)]),
 .assign (.aR 5) (.av (.aZ (.aZ (.E 3) 51) 45)<|.b1 (.E 3) 48 [(.E 2)]),
 .ite (.aK .bu (.cx .len<|.av (.E 4)<|U 1)<|.cx .len<|.av (.E 5)<|U 1) [
  .ret (.bc (.bool false))] [],
 .iq 6 (.cx .len<|.av (.E 4)<|U 1) [
  .ite (.not (.a5 95 [(.E 0),(.av (.av (.E 4)<|U 1)<|.E 6),(.av (.av (.E 5)<|U 1)<|.E 6)])) [
   .ret (.bc (.bool false))] []],
 .ite (.and (.or (.aK .bu (.je (.E 4) (some<|U 4)<|some<|U 6)<|.ak [(.ak []),(.ak [])])<|.aK .bu (.je (.E 5) (some<|U 4)<|some<|U 6)<|.ak [(.ak []),(.ak [])])<|.not (.a5 35 [(.E 0),(U 10),(.E 1),(.E 2)])) [
  .ret (.bc (.bool false))] [],
 .ret (.or (.and (.aK .eq (.je (.E 4) (some (U 2)) (some (U 4))) (.ak [(.ak []),(.ak [])])) (.aK .eq (.je (.E 5) (some (U 2)) (some (U 4))) (.ak [(.ak []),(.ak [])]))) (.a5 35 [(.E 0),(U 8),(.E 1),(.E 2)]))]⟩
noncomputable def Ih:fp:=⟨3,[],[
 .ite (.or (.b8 .dj (.av (.E 1)<|U 0)<|U 4096)<|.aK .eq (.E 0)<|.ak [(U 0),(.ak [])]) [
  .ret (U 1)] [],
 .ite (.and (.b8 .dj (.av (.E 0)<|U 0)<|U 4096)<|.aK .eq (.E 2)<|U 4) [
  .ret (U 0)] [],
 .ite (.or (.b8 .dj (.av (.E 1)<|U 0)<|U 2048)<|.b8 .dj (.av (.E 0)<|U 0)<|U 4096) [
  .ret (.ite (.aK .eq (.E 1) (.ak [(U 0),(.ak [])])) (U 0) (U 1))] [],
 .assign (.aR 3) (.b8 .ip (.b8 .ip (.b8 .ip (.av (.E 1)<|U 0)<|.ite (.b8 .dj (.av (.E 1)<|U 0)<|U 4) (U 3)<|U 0)<|.ite (.b8 .dj (.av (.E 1)<|U 0)<|U 32) (U 24)<|U 0)<|.ite (.b8 .dj (.av (.E 1)<|U 0)<|U 1024) (U 512)<|U 0),
 .ite (.aK .eq (.E 2)<|U 2) [
  .assign (.aR 3) (.b8 .ip (.b8 .ip (.b8 .ip (.E 3)<|.ite (.b8 .dj (.av (.E 1)<|U 0)<|U 3) (U 4)<|U 0)<|.ite (.b8 .dj (.av (.E 1)<|U 0)<|U 24) (U 32)<|U 0)<|.ite (.b8 .dj (.av (.E 1)<|U 0)<|U 512) (U 1024)<|U 0),
  .ite (.or (.b8 .dj (.av (.E 0)<|U 0)<|.E 3)<|.and (.b8 .dj (.av (.E 0)<|U 0)<|U 2048)<|.aK .bu (.E 1)<|.ak [(U 0),(.ak [])]) [
   .ret (U 1)] [],
  .ret (.ite (.aK .gt (.cx .len (.b8 .add (.av (.E 0) (U 1)) (.av (.E 1) (U 1)))) (U 0)) (.neg (U 1)) (U 0))] [],
 .ite (.or (.b8 .dj (.av (.E 0)<|U 0)<|.tv<|.E 3)<|.and (.aK .gt (.cx .len<|.av (.E 0)<|U 1)<|U 0)<|.aK .eq (.cx .len<|.av (.E 1)<|U 1)<|U 0) [
  .ret (U 0)] [],
 .ret (.ite (.aK .gt (.cx .len (.av (.E 0) (U 1))) (U 0)) (.neg (U 1)) (U 1))]⟩
noncomputable def Ii:fp:=⟨1,[],[
 .assign (.aR 1) (.comp (.b8 .mD (.E 42)<|U 999983) (.aR 42) (.je (.E 0) none<|some<|U 40) []),
 .ite (.aK .eq (.cx .len<|.E 1)<|U 0) [
  .assign (.aR 1) (.fh [(U 0),(U 4),(U 1),(U 0),(U 1),(U 1),(U 1),(U 9),(U 2),(U 2),(U 2),(U 9),(U 0),(U 0),(U 0),(U 0),(U 3),(U 0),(U 0),(U 0),(U 0),(U 0),(U 1),(U 0),(U 0),(U 2)])] [],
 .assign (.aR 2) (.fh [(U 0)]),
 .assign (.aR 3) (.a5 104 [(.E 1),(.E 2)]),
 .assign (.aR 4) (.l2 1 []),
 .assign (.aR 6) (.jW (.a5 14 [(.E 4),(.b8 .add (U 1)<|.a5 98 [(.E 1),(.E 2),(U 3)]),(.av (.bc<|.str<|aa "ABC")<|.E 42)]) 42 (U 3) []),
 .assign (.aR 7) (.comp (.a5 10 [(.E 4),(.aZ (.E 42) 17),(.ak [])]) (.aR 42) (.E 6) []),
 .iq 5 (U 3) [
  .setAttr (.av (.E 6) (.E 5)) 10 (.a5 112 [(.E 4),(.av (.E 3) (.E 5)),(.b8 .mD (.E 5) (U 2)),(.E 7),(U 0)])],
 .ite (.aK .eq (.a5 98 [(.E 1),(.E 2),(U 5)])<|U 4) [
  .setAttr (.av (.E 6)<|U 2) 10 (.av (.E 7)<|U 0),
  .setItem (.E 3) (U 2) (.av (.E 3) (U 0))] [],
 .assign (.aR 8) (.a5 109 [(.E 3)]),
 .assign (.aR 9) (.l2 4 [(.E 4)]),
 .assign (.aR 10) (.av (.bc<|.ak [.int<|1,.int<|2,.int<|4,.int<|8,.int<|3,.int<|32,.int<|36,.int<|192,.int<|0,.int<|256,.int<|512,.int<|513,.int<|1024,.int<|2048,.int<|4096,.int<|64])<|.a5 98 [(.E 1),(.E 2),(U 16)]),
 .assign (.aR 11) (.fh []),
 .iq 5 (U 3) [
  .assign (.aR 12) (.av (.ak [(U 1),(U 2),(U 4),(U 3),(U 5),(U 6),(U 7),(U 0)])<|.b8 .mD (.b8 .add (.E 5)<|.a5 98 [(.E 1),(.E 2),(U 8)])<|U 8),
  .assign (.aR 13) (.ite (.aK .lt (.a5 98 [(.E 1),(.E 2),(U 4)])<|U 3) (.E 10)<|.av (.bc<|.ak [.int<|1,.int<|2,.int<|4,.int<|8,.int<|3,.int<|32,.int<|36,.int<|192,.int<|0,.int<|256,.int<|512,.int<|513,.int<|1024,.int<|2048,.int<|4096,.int<|64])<|.a5 98 [(.E 1),(.E 2),(U 16)]),
  .assign (.aR 15) (.ite (.b8 .dj (.E 13)<|U 6144) (.ak [])<|.cx .tuple<|.jW (.E 42) 42 (U 3) [(.b8 .dj (.b8 .oc (.E 12)<|.E 42)<|U 1)]),
  .assign (.aR 16) (.a5 98 [(.E 1),(.E 2),(U 3)]),
  .assign (.aR 17) (.comp (.E 42) (.aR 42) (.E 7) []),
  .ite (.and (.aK .eq (.cx .len<|.E 15)<|U 1)<|.aK .gt (.E 16)<|U 0) [
   .setItem (.E 17) (.av (.E 15)<|U 0) (.aZ (.av (.E 6)<|.av (.E 15)<|U 0) 10),
   .ite (.aK .eq (.E 16)<|U 2) [
    .setItem (.E 17) (.av (.E 15) (U 0)) (.a5 112 [(.E 4),(.av (.E 3) (.av (.E 15) (U 0))),(U 1),(.E 7),(U 1)])] []] [],
  .expr (.b1 (.E 11) 0 [(.ak [(.ak [(.E 13),(.E 15)]),(.a5 111 [(.E 4),(.ak [(.E 13),(.E 15)]),(.b8 .mD (.E 16) (U 2)),(.E 17)])])])],
 .gQ (.aR 18) (.ak [(U 3),(U 4),(U 1),(U 2)]) [
  .gQ (.iV [5,14]) (.ak [(.ak [(U 0),(U 1)]),(.ak [(U 2),(U 0)])]) [
   .assign (.aR 19) (.ite (.aK .eq (.E 18)<|U 3) (.neg<|U 1)<|.a5 113 [(.av (.av (.E 11)<|.E 5)<|U 0),(.av (.av (.E 11)<|.E 14)<|U 0),(.E 18)]),
   .assign (.aR 20) (.a5 114 [(.E 9),(.E 18)]),
   .ite (.and (.aK .ge (.E 19)<|U 0)<|.aK .bu (.a5 40 [(.E 20),(.av (.av (.E 11)<|.E 5)<|U 1),(.av (.av (.E 11)<|.E 14)<|U 1)])<|.aK .eq (.E 19)<|U 1) [
    .ret (.bc (.bool false))] [],
   .ite (.or (.not (.a5 40 [(.E 20),(.av (.av (.E 11)<|.E 5)<|U 1),(U 13)]))<|.not (.a5 40 [(.E 20),(U 13),(.av (.av (.E 11)<|.E 14)<|U 1)])) [
    .ret (.bc (.bool false))] []]],
 .gQ (.iV [5,14]) (.ak [(.ak [(U 0),(U 1)]),(.ak [(U 1),(U 2)]),(.ak [(U 0),(U 2)])]) [
  .assign (.aR 21) (.a5 107 [(.av (.av (.E 11)<|.E 5)<|U 0),(.av (.av (.E 11)<|.E 14)<|U 0),(.E 8)]),
  .assign (.aR 20) (.a5 114 [(.E 9),(U 3)]),
  .ite (.or (.aK .bu (.a5 40 [(.E 20),(.av (.av (.E 11)<|.E 5)<|U 1),(.av (.av (.E 11)<|.E 14)<|U 1)])<|.E 21)<|.aK .bu (.a5 40 [(.E 20),(.av (.av (.E 11)<|.E 14)<|U 1),(.av (.av (.E 11)<|.E 5)<|U 1)])<|.E 21) [
   .ret (.bc (.bool false))] [],
  .ite (.E 21) [
   .gQ (.aR 18) (.ak [(U 4),(U 1)]) [
    .assign (.aR 20) (.a5 114 [(.E 9),(.E 18)]),
    .ite (.or (.not (.a5 40 [(.E 20),(.av (.av (.E 11)<|.E 5)<|U 1),(.av (.av (.E 11)<|.E 14)<|U 1)]))<|.not (.b1 (.aZ (.E 20) 37) 13 [])) [
     .ret (.bc (.bool false))] [],
    .ite (.or (.not (.a5 40 [(.E 20),(.av (.av (.E 11)<|.E 14)<|U 1),(.av (.av (.E 11)<|.E 5)<|U 1)]))<|.not (.b1 (.aZ (.E 20) 37) 13 [])) [
     .ret (.bc (.bool false))] []]] []],
 .ret (.bc (.bool true))]⟩
noncomputable def kT:List fp:=[
 ⟨1,[],[
 .setAttr (.E 0) 45 (.fh [])]⟩,
 ⟨3,[],[
 .expr (.b1 (.aZ (.E 0) 45) 0 [(.ak [(.E 1),(.E 2)])])]⟩,
 ⟨1,[],[
 .ret (.not (.aZ (.E 0) 45))]⟩,
 ⟨1,[],[
 .setAttr (.E 0) 45 (.fh []),
 .setAttr (.E 0) 23 .l1,
 .setAttr (.E 0) 14 (.fh [(.bc<|.none)]),
 .setAttr (.E 0) 11 (.fh []),
 .setAttr (.E 0) 16 (.fh []),
 .setAttr (.E 0) 34 (.fh []),
 .setAttr (.E 0) 39 .l1,
 .setAttr (.E 0) 43 .l1,
 .setAttr (.E 0) 49 (U 0),
 .setAttr (.E 0) 42 (U 0),
 .gQ (.aR 1) (.bc<|.ak [.ak [.int<|1,.str<|aa "any"],.ak [.int<|1,.str<|aa "unknown"],.ak [.int<|1,.str<|aa "never"],.ak [.int<|1,.str<|aa "void"],.ak [.int<|1,.str<|aa "undefined"],.ak [.int<|1,.str<|aa "null"],.ak [.int<|1,.str<|aa "string"],.ak [.int<|1,.str<|aa "number"],.ak [.int<|2,.int<|0,.int<|0],.ak [.int<|2,.int<|1,.int<|0],.ak [.int<|1,.str<|aa "object"],.ak [.int<|8,.ak [],.ak [],.ak [],.ak [],.ak [],.int<|0],.ak [.int<|6,.ak [.int<|8,.int<|9]],.ak [.int<|1,.str<|aa "error"],.ak [.int<|2,.int<|0,.int<|1],.ak [.int<|2,.int<|1,.int<|1]]) [
  .expr (.b1 (.E 0) 41 [(.E 1)])]]⟩,
 ⟨2,[],[
 .ret (.av (.aZ (.E 0) 45) (.E 1))]⟩,
 ⟨2,[],[
 .ite (.aK .dT (.E 1)<|.aZ (.E 0) 23) [
  .ret (.av (.aZ (.E 0) 23) (.E 1))] [],
 .assign (.aR 2) (.cx .len<|.aZ (.E 0) 45),
 .expr (.b1 (.aZ (.E 0) 45) 0 [(.E 1)]),
 .setItem (.aZ (.E 0) 23) (.E 1) (.E 2),
 .ret (.E 2)]⟩,
 ⟨4,[],[
 .setAttr (.E 0) 17 (.E 1),
 .setAttr (.E 0) 24 (.E 2),
 .setAttr (.E 0) 33 (.E 3),
 .setAttr (.E 0) 40 (.ak []),
 .setAttr (.E 0) 10 (.neg<|U 1),
 .setAttr (.E 0) 9 (.ak []),
 .setAttr (.E 0) 50 (.neg<|U 1),
 .setAttr (.E 0) 18 (U 0),
 .setAttr (.E 0) 4 (.bc<|.bool false),
 .setAttr (.E 0) 28 (.fh []),
 .setAttr (.E 0) 56 (.fh []),
 .setAttr (.E 0) 12 (U 0),
 .setAttr (.E 0) 7 (U 0),
 .setAttr (.E 0) 19 (.bc<|.str<|aa ""),
 .setAttr (.E 0) 35 (U 0)]⟩,
 ⟨3,[.int<|0],[
 .ret (.b1 (.E 0) 41 [(.ak [(U 3),(.E 1),(.E 2)])])]⟩,
 ⟨3,[.int<|0],[
 .ret (.b1 (.E 0) 41 [(.ak [(U 4),(.E 1),(.E 2)])])]⟩,
 ⟨3,[.int<|0],[
 .ret (.b1 (.E 0) 41 [(.ak [(U 2),(.ite (.E 1) (U 1) (U 0)),(.E 2)])])]⟩,
 ⟨3,[],[
 .ret (.b1 (.E 0) 41 [(.ak [(U 9),(.E 1),(.cx .tuple (.E 2))])])]⟩,
 ⟨1,[],[
 .assign (.aR 1) .l1,
 .gQ (.aR 2) (.E 0) [
  .setItem (.E 1) (.av (.E 2) (U 0)) (.E 2)],
 .ret (.cx .tuple (.comp (.av (.E 1) (.E 5)) (.aR 5) (.cx .sorted (.E 1)) []))]⟩,
 ⟨7,[.ak [],.ak [],.ak [],.ak [],.int<|0],[
 .ret (.b1 (.E 0) 41 [(.ak [(U 8),(.a5 11 [(.E 1)]),(.cx .tuple (.E 2)),(.cx .tuple (.E 3)),(.E 4),(.E 5),(.E 6)])])]⟩,
 ⟨2,[],[
 .ret (.b1 (.E 0) 41 [(.ak [(U 8),(.ak []),(.ak [(.E 1)]),(.ak []),(.ak []),(.ak []),(U 0)])])]⟩,
 ⟨3,[],[
 .assign (.aR 3) (.l2 2 [(.cx .len<|.aZ (.E 0) 14),(.E 1),(.E 2)]),
 .expr (.b1 (.aZ (.E 0) 14) 0 [(.E 3)]),
 .ret (.E 3)]⟩,
 ⟨2,[],[
 .ite (.aK .eq (.E 1)<|U 2) [
  .ret (.ak [])] [],
 .assign (.aR 2) (.av (.aZ (.E 0) 45)<|.E 1),
 .ite (.aK .eq (.av (.E 2)<|U 0)<|U 6) [
  .ret (.av (.E 2) (U 1))] [],
 .ret (.ak [(.E 1)])]⟩,
 ⟨1,[],[
 .assign (.aR 1) (.av (.E 0)<|U 0),
 .ite (.or (.aK .eq (.E 1)<|U 3)<|.aK .eq (.E 1)<|U 18) [
  .ret (U 6)] [],
 .ite (.aK .eq (.E 1)<|U 4) [
  .ret (U 7)] [],
 .ite (.aK .eq (.E 1)<|U 5) [
  .ret (.ite (.cx .range (.bc (.none))) (U 6) (U 7))] [],
 .ret (.neg (U 1))]⟩,
 ⟨2,[],[
 .assign (.aR 2) (.av (.aZ (.E 0) 45)<|.E 1),
 .ite (.and (.aK .dT (.av (.E 2)<|U 0)<|.bc<|.ak [.int<|2,.int<|3,.int<|4,.int<|5,.int<|8])<|.aK .eq (.av (.E 2)<|.neg<|U 1)<|U 1) [
  .ret (.b1 (.aZ (.E 0) 23) 3 [(.b8 .add (.je (.E 2) none (some (.neg (U 1)))) (.ak [(U 0)])),(.neg (U 1))])] [],
 .ret (.neg (U 1))]⟩,
 ⟨1,[],[
 .ite (.and (.or (.aK .dT (U 8)<|.E 0)<|.aK .dT (U 14)<|.E 0)<|.or (.aK .dT (U 9)<|.E 0)<|.aK .dT (U 15)<|.E 0) [
  .setItem (.E 0) (U 8) (U 1),
  .setItem (.E 0) (U 9) (U 1)] []]⟩,
 ⟨3,[],[
 .ite (.aK .dT (.a5 17 [(.E 0),(.E 2)])<|.E 1) [
  .ret (.bc (.bool false))] [],
 .ret (.aK .jd (.a5 16 [(.av (.aZ (.E 0) 45) (.E 2))]) (.E 1))]⟩,
 ⟨1,[],[
 .gQ (.aR 1) (.ak [(U 0),(U 13),(U 1)]) [
  .ite (.aK .dT (.E 1)<|.E 0) [
   .ret (.E 1)] []],
 .ret (.neg (U 1))]⟩,
 ⟨2,[],[
 .assign (.aR 2) .l1,
 .gQ (.aR 3) (.E 1) [
  .gQ (.aR 4) (.a5 15 [(.E 0),(.E 3)]) [
   .setItem (.E 2) (.E 4) (U 1)]],
 .assign (.aR 5) (.a5 20 [(.E 2)]),
 .ite (.aK .ge (.E 5)<|U 0) [
  .ret (.E 5)] [],
 .expr (.a5 18 [(.E 2)]),
 .assign (.aR 6) (.comp (.E 17) (.aR 17) (.cx .sorted<|.E 2) [(.a5 19 [(.E 0),(.E 2),(.E 17)])]),
 .ite (.not (.E 6)) [
  .ret (U 2)] [],
 .ite (.aK .eq (.cx .len<|.E 6)<|U 1) [
  .ret (.av (.E 6) (U 0))] [],
 .ite (.aK .gt (.cx .len<|.E 6)<|U 400) [
  .fA] [],
 .ret (.b1 (.E 0) 41 [(.ak [(U 6),(.cx .tuple (.E 6))])])]⟩,
 ⟨2,[],[
 .ret (.a5 21 [(.E 0),(.ak [(.E 1),(U 4)])])]⟩,
 ⟨2,[],[
 .ret (.aK .dT (.av (.av (.aZ (.E 0) 45) (.E 1)) (U 0)) (.bc (.ak [.int (2),.int (3),.int (4),.int (5)])))]⟩,
 ⟨2,[],[
 .ret (.or (.aK .eq (.E 1) (U 4)) (.or (.aK .eq (.E 1) (U 5)) (.a5 23 [(.E 0),(.E 1)])))]⟩,
 ⟨2,[],[
 .assign (.aR 2) (.av (.aZ (.E 0) 45)<|.E 1),
 .ret (.and (.aK .dT (.av (.E 2) (U 0)) (.bc (.ak [.int (2),.int (3),.int (4),.int (5),.int (8)]))) (.aK .eq (.av (.E 2) (.neg (U 1))) (U 1)))]⟩,
 ⟨2,[],[
 .ite (.a5 25 [(.E 0),(.E 1)]) [
  .ret (.b1 (.E 0) 41 [(.b8 .add (.je (.av (.aZ (.E 0) 45) (.E 1)) none (some (.neg (U 1)))) (.ak [(U 0)]))])] [],
 .ret (.E 1)]⟩,
 ⟨4,[],[
 .fA]⟩,
 ⟨4,[],[
 .fA]⟩,
 ⟨3,[],[
 .setAttr (.E 0) 22 (.E 1),
 .setAttr (.E 0) 30 (.E 2),
 .setAttr (.E 0) 46 .l1,
 .setAttr (.E 0) 6 .l1,
 .setAttr (.E 0) 25 .l1,
 .setAttr (.E 0) 54 (.fh []),
 .setAttr (.E 0) 44 (.fh []),
 .setAttr (.E 0) 15 (U 0),
 .setAttr (.E 0) 37 (.l2 0 []),
 .setAttr (.E 0) 52 (.bc<|.bool true),
 .setAttr (.E 0) 55 (.bc<|.none),
 .setAttr (.E 0) 29 (.bc<|.str<|aa ""),
 .setAttr (.E 0) 7 (U 0)]⟩,
 ⟨3,[],[
 .ret (.a5 40 [(.E 0),(.E 1),(.E 2)])]⟩,
 ⟨2,[],[
 .ite (.aZ (.E 0) 52) [
  .expr (.b1 (.aZ (.E 0) 37) 41 [(.E 1),(.aZ (.E 0) 7)])] []]⟩,
 ⟨3,[],[
 .ret (.or (.aK .eq (.E 1) (.E 2)) (.b1 (.a5 37 [(.E 0)]) 5 [(.E 1),(.E 2)]))]⟩,
 ⟨1,[],[
 .ret (.ak [(.cx .len (.aZ (.aZ (.E 0) 37) 45)),(.cx .len (.aZ (.E 0) 54))])]⟩,
 ⟨2,[],[
 .expr (.a5 38 [(.E 0),(.E 1)])]⟩,
 ⟨4,[],[
 .assign (.aR 4) (.b1 (.aZ (.E 0) 46) 3 [(.E 1)]),
 .ret (.and (.aK .xh (.E 4) (.bc (.none))) (.b1 (.E 4) 21 [(.E 0),(.E 2),(.E 3)]))]⟩,
 ⟨2,[],[
 .assign (.aR 2) (.l2 3 [(.aZ (.E 0) 22),(.E 1)]),
 .setAttr (.E 2) 46 (.aZ (.E 0) 46),
 .setAttr (.E 2) 52 (.bc<|.bool false),
 .ret (.E 2)]⟩,
 ⟨1,[],[
 .ite (.aK .eq (.aZ (.E 0) 30)<|U 3) [
  .ret (.E 0)] [],
 .ite (.aK .is (.aZ (.E 0) 55)<|.bc<|.none) [
  .setAttr (.E 0) 55 (.a5 36 [(.E 0),(U 3)])] [],
 .ret (.aZ (.E 0) 55)]⟩,
 ⟨2,[],[
 .xj (.aZ (.aZ (.E 0) 37) 45) (.av (.E 1)<|U 0),
 .pr (.aK .gt (.cx .len<|.aZ (.E 0) 54)<|.av (.E 1)<|U 1) [
  .delItem (.aZ (.E 0) 6) (.b1 (.aZ (.E 0) 54) 1 [])]]⟩,
 ⟨2,[],[
 .assign (.aR 1) (.b1 (.E 0) 20 [(.E 1)]),
 .ite (.a5 23 [(.aZ (.E 0) 51),(.E 1)]) [
  .ret (.a5 26 [(.aZ (.E 0) 51),(.E 1)])] [],
 .ret (.E 1)]⟩,
 Dd,
 zK,
 ⟨2,[],[
 .gQ (.aR 2) (.aZ (.E 0) 54) [
  .delItem (.aZ (.E 0) 6) (.E 2),
  .ite (.E 1) [
   .setItem (.aZ (.E 0) 25) (.E 2) (.bc (.bool true))] []],
 .setAttr (.E 0) 54 (.fh [])]⟩,
 ⟨1,[],[
 .ret (.and (.aZ (.E 0) 52) (.aK .eq (.aZ (.E 0) 30) (U 1)))]⟩,
 ⟨3,[],[
 .ite (.and (.a5 43 [(.E 0)])<|.and (.aK .bu (.E 1)<|U 13)<|.and (.aK .bu (.E 2)<|U 13)<|.not (.b1 (.E 0) 47 [(.E 1),(.E 2)])) [
  .expr (.b1 (.E 0) 36 [(U 3)])] []]⟩,
 ⟨5,[],[
 .ite (.E 4) [
  .xk] [],
 .ite (.E 3) [
  .expr (.b1 (.E 0) 36 [(U 4)])] [],
 .expr (.a5 44 [(.E 0),(.E 1),(.E 2)])]⟩,
 ⟨3,[],[
 .iq 3 (.cx .len<|.E 1) [
  .ite (.not (.b1 (.E 0) 5 [(.av (.E 1)<|.E 3),(.av (.E 2)<|.E 3)])) [
   .ret (.bc (.bool false))] []],
 .ret (.bc (.bool true))]⟩,
 zL,
 H6,
 ⟨2,[],[
 .ite (.aK .dT (.av (.av (.aZ (.aZ (.aZ (.E 0) 22) 51) 45)<|.E 1)<|U 0)<|.bc<|.ak [.int<|10,.int<|14,.int<|15,.int<|16,.int<|17,.int<|18,.int<|19]) [
  .ret (.neg (U 1))] [],
 .assign (.aR 2) (.a5 15 [(.aZ (.aZ (.E 0) 22) 51),(.E 1)]),
 .ite (.aK .eq (.aZ (.E 0) 30)<|U 4) [
  .ret (U 0)] [],
 .ret (.ite (.and (.aK .dT (U 11) (.E 2)) (.and (.aK .dT (U 5) (.E 2)) (.aK .dT (U 4) (.E 2)))) (U 1) (U 0))]⟩,
 ⟨1,[],[
 .ret (.and (.aK .eq (.av (.E 0) (U 0)) (U 5)) (.aK .eq (.a5 16 [(.E 0)]) (U 7)))]⟩,
 H7,
 ⟨4,[],[
 .ite (.or (.aK .eq (.aZ (.E 0) 30)<|U 4)<|.not (.a5 50 [(.E 3)])) [
  .ret (U 0)] [],
 .ite (.or (.aK .eq (.E 1)<|U 7)<|.and (.aK .eq (.av (.E 2)<|U 0)<|U 4)<|.aK .eq (.av (.E 2)<|U 1)<|.av (.E 3)<|U 3) [
  .expr (.b1 (.E 0) 36 [(U 10)]),
  .ret (U 1)] [],
 .ret (U 0)]⟩,
 ⟨3,[],[
 .assign (.aR 3) (.aZ (.aZ (.aZ (.E 0) 22) 51) 45),
 .assign (.aR 4) (.av (.av (.E 3)<|.E 1)<|U 0),
 .assign (.aR 5) (.av (.av (.E 3)<|.E 2)<|U 0),
 .ite (.aK .eq (.E 4)<|U 6) [
  .ret (.a5 55 [(.E 0),(.E 1),(.E 2)])] [],
 .ite (.aK .eq (.E 5)<|U 6) [
  .ret (.a5 58 [(.E 0),(.E 1),(.E 2)])] [],
 .ret (.a5 35 [(.E 0),(.a5 54 [(.E 4),(.E 5)]),(.E 1),(.E 2)])]⟩,
 ⟨2,[],[
 .ite (.or (.aK .eq (.E 0)<|U 7)<|.aK .eq (.E 1)<|U 7) [
  .ret (U 1)] [],
 .ite (.or (.aK .dT (.E 0)<|.bc<|.ak [.int<|10,.int<|14,.int<|15,.int<|16,.int<|17,.int<|18,.int<|19])<|.aK .dT (.E 1)<|.bc<|.ak [.int<|10,.int<|14,.int<|15,.int<|16,.int<|17,.int<|18,.int<|19]) [
  .ret (U 2)] [],
 .ite (.and (.aK .eq (.E 0)<|U 13)<|.aK .eq (.E 1)<|U 13) [
  .ret (U 3)] [],
 .ite (.and (.aK .dT (.E 0)<|.bc<|.ak [.int<|11,.int<|12])<|.aK .dT (.E 1)<|.bc<|.ak [.int<|11,.int<|12]) [
  .ret (U 4)] [],
 .ret (U 5)]⟩,
 xt,
 H8,
 H9,
 ⟨3,[],[
 .assign (.aR 3) (.aZ (.aZ (.E 0) 22) 51),
 .assign (.aR 4) (.a5 15 [(.E 3),(.E 2)]),
 .ite (.or (.aK .dT (.E 1)<|.E 4)<|.a5 56 [(.E 0),(.E 1),(.E 4)]) [
  .ret (.bc (.bool true))] [],
 .assign (.aR 5) (.av (.av (.aZ (.E 3) 45)<|.E 1)<|U 0),
 .ite (.aK .dT (.E 5)<|.bc<|.ak [.int<|10,.int<|14,.int<|15,.int<|16,.int<|17,.int<|18,.int<|19]) [
  .ret (.a5 35 [(.E 0),(U 2),(.E 1),(.E 2)])] [],
 .ite (.and (.aK .eq (.E 5)<|U 7)<|.a5 35 [(.E 0),(U 1),(.E 1),(.E 2)]) [
  .ret (.bc (.bool true))] [],
 .ite (.or (.aK .eq (.E 5)<|U 7)<|.aK .dT (.E 5)<|.bc<|.ak [.int<|8,.int<|9]) [
  .ret (.a5 35 [(.E 0),(U 6),(.E 1),(.E 2)])] [],
 .ret (.and (.aK .eq (.E 5) (U 12)) (.a5 35 [(.E 0),(U 12),(.E 1),(.E 2)]))]⟩,
 ⟨3,[],[
 .assign (.aR 3) (.aZ (.aZ (.aZ (.E 0) 22) 51) 45),
 .assign (.aR 4) (.av (.E 3)<|.E 1),
 .assign (.aR 5) (.av (.E 3)<|.E 2),
 .ite (.and (.aK .eq (.av (.E 4)<|U 0)<|.av (.E 5)<|U 0)<|.or (.aK .eq (.av (.E 4)<|U 0)<|U 6)<|.aK .eq (.av (.E 4)<|U 0)<|U 7) [
  .ret (.and (.a5 60 [(.E 0),(.av (.E 4) (U 1)),(.av (.E 5) (U 1))]) (.a5 60 [(.E 0),(.av (.E 5) (U 1)),(.av (.E 4) (U 1))]))] [],
 .ite (.or (.aK .dT (.av (.E 4)<|U 0)<|.ak [(U 6),(U 7)])<|.aK .dT (.av (.E 5)<|U 0)<|.ak [(U 6),(U 7)]) [
  .ret (.bc (.bool false))] [],
 .ret (.a5 35 [(.E 0),(.a5 54 [(.av (.E 4) (U 0)),(.av (.E 5) (U 0))]),(.E 1),(.E 2)])]⟩,
 Ia,
 ⟨2,[],[
 .iq 2 (U 40) [
  .ite (.aK .lt (.E 1)<|U 0) [
   .fA] [],
  .assign (.aR 3) (.av (.aZ (.E 0) 45)<|.E 1),
  .ite (.aK .eq (.av (.E 3)<|U 0)<|U 8) [
   .ret (.E 1)] [],
  .ite (.aK .eq (.av (.E 3)<|U 0)<|U 13) [
   .ret (.a5 13 [(.E 0),(.E 1)])] [],
  .ite (.aK .dT (.av (.E 3)<|U 0)<|.bc<|.ak [.int<|1,.int<|2,.int<|3,.int<|4,.int<|5]) [
   .ret (U 11)] [],
  .ite (.or (.aK .bu (.av (.E 3)<|U 0)<|U 9)<|.or (.av (.E 3)<|U 2)<|.aZ (.av (.aZ (.E 0) 14)<|.av (.E 3)<|U 1) 9) [
   .fA] [],
  .assign (.aR 1) (.aZ (.av (.aZ (.E 0) 14) (.av (.E 3) (U 1))) 10)],
 .fA]⟩,
 ⟨2,[],[
 .assign (.aR 2) (.av (.aZ (.E 0) 45)<|.E 1),
 .ret (.ite (.aK .eq (.av (.E 2) (U 0)) (U 9)) (.av (.E 2) (U 1)) (U 0))]⟩,
 ⟨2,[],[
 .setAttr (.E 0) 51 (.E 1),
 .setAttr (.E 0) 15 (U 0),
 .setAttr (.E 0) 32 (U 200),
 .setAttr (.E 0) 31 (U 40)]⟩,
 ⟨2,[],[
 .ret (.E 1)]⟩,
 ⟨2,[],[
 .fA]⟩,
 ⟨3,[],[
 .ret (.bc (.none))]⟩,
 ⟨2,[],[
 .setAttr (.E 0) 51 (.E 1),
 .setAttr (.E 0) 15 (U 0),
 .setAttr (.E 0) 32 (U 200),
 .setAttr (.E 0) 31 (U 40)]⟩,
 ⟨2,[],[
 .ret (.a5 61 [(.aZ (.E 0) 51),(.E 1)])]⟩,
 ⟨2,[],[
 .gQ (.aR 2) (.av (.E 0)<|U 1) [
  .ite (.aK .eq (.av (.E 2)<|U 0)<|.E 1) [
   .ret (.E 2)] []],
 .ret (.bc (.none))]⟩,
 ⟨3,[],[
 .assign (.aR 1) (.b1 (.E 0) 20 [(.E 1)]),
 .assign (.aR 3) (.av (.aZ (.aZ (.E 0) 51) 45)<|.E 1),
 .ite (.or (.aK .eq (.av (.E 3)<|U 0)<|U 11)<|.aK .eq (.av (.E 3)<|U 0)<|U 12) [
  .assign (.aR 4) (.b1 (.E 0) 26 [(.E 1),(.E 2)])] [
  .assign (.aR 4) (.a5 69 [(.av (.aZ (.aZ (.E 0) 51) 45) (.b1 (.E 0) 48 [(.E 1)])),(.E 2)])],
 .ret (.ite (.aK .is (.E 4) (.bc (.none))) (.bc (.none)) (.ak [(.E 2),(.b1 (.E 0) 20 [(.av (.E 4) (U 1))]),(.av (.E 4) (U 2)),(.av (.E 4) (U 3))]))]⟩,
 ⟨2,[],[
 .ret (.ite (.b8 .dj (.av (.E 1) (U 2)) (U 1)) (.a5 22 [(.E 0),(.av (.E 1) (U 1))]) (.av (.E 1) (U 1)))]⟩,
 ⟨3,[],[
 .assign (.aR 3) .l1,
 .assign (.aR 4) (.fh [(.E 1)]),
 .pr (.E 4) [
  .assign (.aR 5) (.b1 (.E 4) 1 []),
  .ite (.aK .eq (.E 5)<|.E 2) [
   .ret (.bc (.bool true))] [],
  .ite (.and (.aK .bu (.E 5)<|U 0)<|.aK .jd (.E 5)<|.E 3) [
   .setItem (.E 3) (.E 5) (U 1),
   .expr (.b1 (.E 4) 2 [(.comp (.a5 62 [(.aZ (.E 0) 51),(.E 6)]) (.aR 6) (.aZ (.av (.aZ (.aZ (.E 0) 51) 14) (.E 5)) 9) [])])] []],
 .ret (.bc (.bool false))]⟩,
 ⟨1,[],[
 .ite (.or (.aK .eq (.av (.E 0)<|U 1)<|.ak [])<|.or (.aK .bu (.av (.E 0)<|U 2)<|.ak [])<|.or (.aK .bu (.av (.E 0)<|U 3)<|.ak [])<|.or (.aK .bu (.av (.E 0)<|U 4)<|.ak [])<|.aK .bu (.av (.E 0)<|U 5)<|.ak []) [
  .ret (.bc (.bool false))] [],
 .ret (.cx .all (.comp (.aK .bu (.b8 .dj (.av (.E 2) (U 2)) (U 1)) (U 0)) (.aR 2) (.av (.E 0) (U 1)) []))]⟩,
 ⟨2,[],[
 .ite (.aK .dT (.E 1)<|.ak [(U 0),(U 1),(U 2),(U 13),(U 3),(U 4),(U 5),(U 10)]) [
  .ret (.bc (.bool true))] [],
 .assign (.aR 2) (.av (.av (.aZ (.aZ (.E 0) 51) 45)<|.E 1)<|U 0),
 .ite (.and (.aK .jd (.E 2)<|.bc<|.ak [.int<|8,.int<|9])<|.aK .jd (.E 2)<|.bc<|.ak [.int<|6,.int<|7,.int<|10,.int<|14,.int<|15,.int<|16,.int<|17,.int<|18,.int<|19]) [
  .ret (.bc (.bool false))] [],
 .assign (.aR 3) (.av (.aZ (.aZ (.E 0) 51) 45)<|.b1 (.E 0) 48 [(.E 1)]),
 .ret (.and (.aK .eq (.av (.E 3) (U 1)) (.ak [])) (.and (.aK .eq (.av (.E 3) (U 2)) (.ak [])) (.aK .eq (.av (.E 3) (U 3)) (.ak []))))]⟩,
 ⟨2,[],[
 .assign (.aR 2) (.av (.aZ (.aZ (.E 0) 51) 45)<|.E 1),
 .ite (.aK .eq (.av (.E 2)<|U 0)<|U 7) [
  .ret (.cx .all (.comp (.a5 75 [(.E 0),(.E 7)]) (.aR 7) (.av (.E 2) (U 1)) []))] [],
 .ret (.and (.aK .dT (.av (.E 2) (U 0)) (.bc (.ak [.int (8),.int (9)]))) (.a5 73 [(.av (.aZ (.aZ (.E 0) 51) 45) (.b1 (.E 0) 48 [(.E 1)]))]))]⟩,
 ⟨3,[],[
 .ite (.or (.not (.a5 75 [(.E 0),(.E 2)]))<|.a5 74 [(.E 0),(.E 1)]) [
  .ret (.bc (.bool false))] [],
 .assign (.aR 3) (.av (.aZ (.aZ (.E 0) 51) 45)<|.b1 (.E 0) 48 [(.E 2)]),
 .ret (.cx .all (.comp (.aK .is (.a5 70 [(.E 0),(.E 1),(.av (.E 7) (U 0))]) (.bc (.none))) (.aR 7) (.av (.E 3) (U 1)) []))]⟩,
 ⟨1,[],[
 .ret (.ite (.aK .eq (.av (.E 0) (U 0)) (U 9)) (.av (.E 0) (U 1)) (U 0))]⟩,
 ⟨4,[],[
 .assign (.aR 4) (.neg<|U 1),
 .assign (.aR 5) (U 0),
 .gQ (.aR 6) (.E 0) [
  .ite (.and (.aK .eq (.av (.E 6)<|.E 1)<|.E 2)<|.aK .gt (.av (.E 6)<|.b8 .add (.E 1)<|U 1)<|.E 4) [
   .assign (.aR 4) (.av (.E 6)<|.b8 .add (.E 1)<|U 1),
   .tw 5 .add (U 1)] []],
 .ret (.and (.aK .gt (.E 2) (U 0)) (.and (.aK .ge (.E 5) (U 3)) (.aK .gt (.E 3) (.E 4))))]⟩,
 ⟨3,[],[
 .ite (.aK .ge (.cx .len<|.aZ (.E 0) 44)<|U 24) [
  .ret (.bc (.bool true))] [],
 .assign (.aR 3) (.aZ (.aZ (.aZ (.E 0) 22) 51) 45),
 .ite (.not (.a5 78 [(.aZ (.E 0) 44),(U 0),(.a5 77 [(.av (.E 3)<|.E 1)]),(.E 1)])) [
  .ret (.bc (.bool false))] [],
 .ret (.a5 78 [(.aZ (.E 0) 44),(U 2),(.a5 77 [(.av (.E 3) (.E 2))]),(.E 2)])]⟩,
 ⟨4,[],[
 .assign (.aR 4) (.aZ (.aZ (.E 0) 22) 51),
 .assign (.aR 5) (.av (.aZ (.E 4) 45)<|.E 1),
 .assign (.aR 6) (.av (.aZ (.E 4) 45)<|.E 2),
 .ite (.aK .eq (.E 2)<|U 10) [
  .ret (.a5 35 [(.E 0),(U 14),(.E 1),(.E 2)])] [],
 .ite (.aK .jd (.av (.E 6)<|U 0)<|.bc<|.ak [.int<|8,.int<|9]) [
  .ret (.bc (.bool false))] [],
 .ite (.and (.aK .eq (.av (.E 5)<|U 0)<|U 9)<|.and (.aK .eq (.av (.E 6)<|U 0)<|U 9)<|.and (.aK .eq (.av (.E 5)<|U 1)<|.av (.E 6)<|U 1)<|.aZ (.av (.aZ (.E 4) 14)<|.av (.E 5)<|U 1) 56) [
  .ite (.aK .dT (U 11)<|.aZ (.E 0) 46) [
   .ret (.a5 81 [(.E 0),(.E 1),(.E 2),(.E 5),(.E 6)])] []] [],
 .ret (.a5 82 [(.E 0),(.E 1),(.E 2),(.E 3)])]⟩,
 ⟨5,[],[
 .assign (.aR 5) (.b1 (.E 0) 27 []),
 .ite (.a5 35 [(.E 0),(U 11),(.E 1),(.E 2)]) [
  .ret (.bc (.bool true))] [],
 .expr (.b1 (.E 0) 8 [(.E 5)]),
 .assign (.aR 6) (.aZ (.av (.aZ (.aZ (.aZ (.E 0) 22) 51) 14)<|.av (.E 3)<|U 1) 56),
 .iq 7 (.cx .len<|.av (.E 4)<|U 2) [
  .ite (.and (.aK .eq (.av (.E 6)<|.E 7)<|U 1)<|.aK .eq (.b1 (.aZ (.E 0) 22) 20 [(.av (.av (.E 4)<|U 2)<|.E 7)])<|U 3) [
   .ret (.a5 82 [(.E 0),(.E 1),(.E 2),(.bc (.bool false))])] []],
 .ret (.bc (.bool false))]⟩,
 ⟨4,[],[
 .ite (.a5 79 [(.E 0),(.E 1),(.E 2)]) [
  .expr (.b1 (.E 0) 36 [(U 15)]),
  .ret (.bc (.bool true))] [],
 .assign (.aR 4) (.aZ (.aZ (.aZ (.E 0) 22) 51) 45),
 .expr (.b1 (.aZ (.E 0) 44) 0 [(.ak [(.a5 77 [(.av (.E 4)<|.E 1)]),(.E 1),(.a5 77 [(.av (.E 4)<|.E 2)]),(.E 2)])]),
 .ite (.aK .eq (.aZ (.E 0) 30)<|U 3) [
  .assign (.aR 5) (.a5 94 [(.E 0),(.E 1),(.E 2)])] [
  .assign (.aR 5) (.a5 85 [(.E 0),(.E 1),(.E 2),(.E 3)])],
 .expr (.b1 (.aZ (.E 0) 44) 1 []),
 .ret (.E 5)]⟩,
 ⟨1,[],[
 .ret (.aK .bu (.b8 .dj (.av (.E 0) (U 2)) (.b8 .ip (U 2) (U 32))) (U 0))]⟩,
 ⟨2,[],[
 .ret (.or (.aK .bu (.aZ (.E 0) 30) (U 2)) (.a5 24 [(.aZ (.aZ (.E 0) 22) 51),(.E 1)]))]⟩,
 Ib,
 Ic,
 ⟨4,[],[
 .ite (.and (.or (.aK .bu (.av (.E 3)<|U 4)<|.ak [])<|.aK .bu (.av (.E 3)<|U 5)<|.ak [])<|.not (.a5 35 [(.E 0),(U 10),(.E 1),(.E 2)])) [
  .ret (.bc (.bool false))] [],
 .ite (.and (.aK .eq (.av (.E 3)<|U 2)<|.ak [])<|.aK .eq (.av (.E 3)<|U 3)<|.ak []) [
  .ret (.bc (.bool true))] [],
 .ret (.and (.aK .jd (.av (.av (.aZ (.aZ (.aZ (.E 0) 22) 51) 45) (.E 1)) (U 0)) (.bc (.ak [.int (11),.int (12)]))) (.a5 35 [(.E 0),(U 8),(.E 1),(.E 2)]))]⟩,
 ⟨3,[],[
 .ite (.aK .eq (.b8 .dj (.av (.E 2)<|U 2)<|U 1)<|U 0) [
  .ite (.and (.aK .eq (.aZ (.E 0) 29)<|.bc<|.str<|aa "")<|.aK .eq (.cx .len<|.aZ (.E 0) 44)<|U 1) [
   .setAttr (.E 0) 29 (.av (.E 2) (U 0))] [],
  .ret (.bc (.bool false))] [],
 .ite (.a5 25 [(.aZ (.aZ (.E 0) 22) 51),(.E 1)]) [
  .ret (.bc (.bool true))] [],
 .ite (.aK .eq (.aZ (.E 0) 30)<|U 4) [
  .ret (.bc (.bool false))] [],
 .expr (.b1 (.E 0) 36 [(U 11)]),
 .ret (.bc (.bool true))]⟩,
 Id,
 Ie,
 ⟨3,[],[
 .assign (.aR 3) (.av (.aZ (.aZ (.aZ (.E 0) 22) 51) 45)<|.E 1),
 .ite (.and (.aK .eq (.av (.E 3)<|U 0)<|U 12)<|.not (.av (.E 3)<|U 2)) [
  .ite (.or (.aK .dT (.av (.E 2)<|U 0)<|.bc<|.ak [.str<|aa "pop",.str<|aa "push",.str<|aa "reverse",.str<|aa "shift"])<|.and (.aK .eq (.av (.E 2)<|U 0)<|.bc<|.str<|aa "length")<|.not (.a5 83 [(.E 2)])) [
   .expr (.b1 (.E 0) 36 [(U 3)])] []] []]⟩,
 Ig,
 ⟨3,[],[
 .assign (.aR 3) (.av (.aZ (.aZ (.aZ (.E 0) 22) 51) 45)<|.E 1),
 .assign (.aR 4) (.av (.aZ (.aZ (.aZ (.E 0) 22) 51) 45)<|.E 2),
 .ite (.or (.aK .jd (.av (.E 3)<|U 0)<|.bc<|.ak [.int<|8,.int<|9])<|.aK .jd (.av (.E 4)<|U 0)<|.bc<|.ak [.int<|8,.int<|9]) [
  .ret (.bc (.bool false))] [],
 .ite (.and (.aK .eq (.av (.E 3)<|U 0)<|U 9)<|.and (.aK .eq (.av (.E 4)<|U 0)<|U 9)<|.and (.aK .eq (.av (.E 3)<|U 1)<|.av (.E 4)<|U 1)<|.a5 46 [(.E 0),(.av (.E 3)<|U 2),(.av (.E 4)<|U 2)]) [
  .ret (.bc (.bool true))] [],
 .ret (.a5 82 [(.E 0),(.E 1),(.E 2),(.bc (.bool false))])]⟩,
 De,
 ⟨3,[],[
 .assign (.aR 3) (.aZ (.aZ (.E 0) 22) 51),
 .assign (.aR 4) (.b8 .ip (.b8 .ip (U 1)<|U 8)<|U 16),
 .ite (.or (.aK .bu (.av (.E 1)<|U 0)<|.av (.E 2)<|U 0)<|.or (.aK .bu (.b8 .dj (.av (.E 1)<|U 2)<|.E 4)<|.b8 .dj (.av (.E 2)<|U 2)<|.E 4)<|.aK .bu (.av (.E 1)<|U 3)<|.av (.E 2)<|U 3) [
  .ret (.bc (.bool false))] [],
 .ret (.and (.aK .eq (.a5 83 [(.E 1)]) (.a5 83 [(.E 2)])) (.b1 (.E 0) 5 [(.a5 71 [(.E 3),(.E 1)]),(.a5 71 [(.E 3),(.E 2)])]))]⟩,
 ⟨4,[],[
 .ite (.aK .eq (.aZ (.E 1) 30)<|U 3) [
  .ret (.a5 93 [(.E 1),(.E 2),(.E 3)])] [],
 .ret (.a5 80 [(.E 1),(.E 2),(.E 3),(.bc (.bool true))])]⟩,
 ⟨1,[],[
 .setItem (.aZ (.E 0) 46) (U 5) (.l2 5 [])]⟩,
 ⟨3,[],[
 .assign (.aR 3) (.av (.E 1)<|U 0),
 .setItem (.E 1) (U 0) (.b8 .add (.E 3)<|U 1),
 .assign (.aR 4) (.cx .len<|.E 0),
 .ret (.b8 .mD (.b8 .add (.av (.E 0) (.b8 .mD (.E 3) (.E 4))) (.b8 .mul (.b8 .fdiv (.E 3) (.E 4)) (.b8 .add (.b8 .mD (.av (.E 0) (U 0)) (U 7)) (.b8 .mul (U 3) (.E 3))))) (.E 2))]⟩,
 ⟨1,[],[
 .ite (.b8 .dj (.E 0)<|U 4096) [
  .ret (U 4096)] [],
 .ite (.b8 .dj (.E 0)<|U 2048) [
  .ret (U 2048)] [],
 .ite (.b8 .dj (.E 0)<|U 4) [
  .assign (.aR 0) (.b8 .dj (.E 0) (.tv (U 3)))] [],
 .ite (.b8 .dj (.E 0)<|U 32) [
  .assign (.aR 0) (.b8 .dj (.E 0) (.tv (U 24)))] [],
 .ret (.E 0)]⟩,
 ⟨2,[],[
 .assign (.aR 2) (.av (.bc<|.ak [.int<|1,.int<|2,.int<|4,.int<|8,.int<|3,.int<|32,.int<|36,.int<|192,.int<|0,.int<|256,.int<|512,.int<|513,.int<|1024,.int<|2048,.int<|4096,.int<|64])<|.a5 98 [(.E 0),(.E 1),(U 16)]),
 .assign (.aR 3) (.a5 98 [(.E 0),(.E 1),(U 14)]),
 .ite (.or (.b8 .dj (.E 2)<|U 6144)<|.aK .gt (.E 3)<|U 7) [
  .ret (.ak [(.E 2),(.ak [])])] [],
 .ret (.ak [(.E 2),(.cx .tuple (.jW (.E 8) 8 (U 3) [(.b8 .dj (.b8 .oc (.E 3) (.E 8)) (U 1))]))])]⟩,
 ⟨3,[],[
 .assign (.aR 3) (.a5 100 [(.E 0),(.E 1)]),
 .assign (.aR 4) (.av (.ak [(U 0),(U 0),(U 1),(U 2),(U 4),(U 32),(U 8),(U 16),(.b8 .ip (U 1)<|U 2)])<|.a5 98 [(.E 0),(.E 1),(U 9)]),
 .assign (.aR 5) (.ite (.b8 .dj (.E 4)<|.b8 .ip (U 8)<|U 16) (.b8 .add (U 1)<|.a5 98 [(.E 0),(.E 1),(U 2)])<|U 0),
 .ret (.ak [(.E 2),(.E 3),(.E 4),(.E 5)])]⟩,
 ⟨2,[],[
 .assign (.iV [2,3]) (.E 0),
 .ret (.ak [(.E 2),(.cx .tuple (.jW (.E 6) 6 (U 3) [(.aK .dT (.E 6) (.comp (.av (.E 1) (.E 7)) (.aR 7) (.E 3) []))]))])]⟩,
 ⟨3,[],[
 .assign (.aR 3) (.jW (.a5 98 [(.E 0),(.E 1),(U 3)]) 10 (U 3) []),
 .assign (.aR 4) (.comp (.ak [(.E 10),(.a5 102 [(.E 11),(.E 3)]),(.E 12),(.E 13)]) (.iV [10,11,12,13]) (.E 2) []),
 .assign (.aR 5) (.a5 98 [(.E 0),(.E 1),(U 10)]),
 .ite (.and (.aK .lt (.E 5)<|U 3)<|.aK .lt (.E 5)<|.cx .len<|.E 4) [
  .setItem (.E 4) (.E 5) (.a5 101 [(.E 0),(.E 1),(.av (.av (.E 4) (.E 5)) (U 0))])] [],
 .ite (.and (.aK .eq (.E 5)<|U 3)<|.aK .gt (.cx .len<|.E 4)<|U 1) [
  .assign (.aR 4) (.je (.E 4) (some (U 1)) none)] [],
 .ret (.E 4)]⟩,
 ⟨2,[],[
 .assign (.aR 2) (.jW (.a5 101 [(.E 0),(.E 1),(.av (.bc<|.str<|aa "pqr")<|.E 8)]) 8 (.b8 .add (U 1)<|.a5 98 [(.E 0),(.E 1),(U 3)]) []),
 .assign (.aR 3) (.a5 103 [(.E 0),(.E 1),(.E 2)]),
 .assign (.aR 4) (.a5 103 [(.E 0),(.E 1),(.E 2)]),
 .ret (.fh [(.E 2),(.E 3),(.E 4)])]⟩,
 ⟨1,[],[
 .ret (.ak [(.ite (.b8 .dj (.av (.E 0) (U 2)) (U 1)) (.a5 99 [(.b8 .ip (.av (.av (.E 0) (U 1)) (U 0)) (U 512))]) (.av (.av (.E 0) (U 1)) (U 0))),(.av (.av (.E 0) (U 1)) (U 1))])]⟩,
 ⟨1,[],[
 .ret (.b8 .add (.cx .len (.av (.E 0) (U 1))) (.cx .len (.jW (.E 3) 3 (U 13) [(.b8 .dj (.b8 .oc (.av (.E 0) (U 0)) (.E 3)) (U 1))])))]⟩,
 ⟨3,[],[
 .ite (.or (.aK .bu (.av (.E 0)<|U 0)<|.av (.E 1)<|U 0)<|.aK .bu (.aK .eq (.a5 106 [(.E 0)])<|U 1)<|.aK .eq (.a5 106 [(.E 1)])<|U 1) [
  .ret (.bc (.bool false))] [],
 .ite (.b8 .dj (.av (.E 0)<|U 0)<|U 6144) [
  .ret (.bc (.bool true))] [],
 .gQ (.aR 3) (.av (.E 0)<|U 1) [
  .ite (.aK .eq (.cx .len<|.comp (.E 7) (.aR 7) (.av (.E 1)<|U 1) [(.av (.E 2)<|.ak [(.E 3),(.E 7)])])<|U 0) [
   .ret (.bc (.bool false))] []],
 .gQ (.aR 4) (.av (.E 1)<|U 1) [
  .ite (.aK .eq (.cx .len<|.comp (.E 7) (.aR 7) (.av (.E 0)<|U 1) [(.av (.E 2)<|.ak [(.E 7),(.E 4)])])<|U 0) [
   .ret (.bc (.bool false))] []],
 .ret (.bc (.bool true))]⟩,
 ⟨3,[],[
 .ite (.aK .bu (.comp (.av (.E 10)<|U 0) (.aR 10) (.E 0) [])<|.comp (.av (.E 10)<|U 0) (.aR 10) (.E 1) []) [
  .ret (.bc (.bool false))] [],
 .iq 3 (.cx .len<|.E 0) [
  .assign (.aR 4) (.av (.E 0)<|.E 3),
  .assign (.aR 5) (.av (.E 1)<|.E 3),
  .ite (.or (.aK .bu (.b8 .dj (.av (.E 4)<|U 2)<|U 25)<|.b8 .dj (.av (.E 5)<|U 2)<|U 25)<|.or (.aK .bu (.aK .eq (.b8 .dj (.av (.E 4)<|U 2)<|U 34)<|U 0)<|.aK .eq (.b8 .dj (.av (.E 5)<|U 2)<|U 34)<|U 0)<|.aK .bu (.av (.E 4)<|U 3)<|.av (.E 5)<|U 3) [
   .ret (.bc (.bool false))] [],
  .ite (.not (.a5 107 [(.a5 105 [(.E 4)]),(.a5 105 [(.E 5)]),(.E 2)])) [
   .ret (.bc (.bool false))] []],
 .ret (.bc (.bool true))]⟩,
 ⟨1,[],[
 .assign (.aR 1) .l1,
 .iq 2 (U 3) [
  .iq 3 (U 3) [
   .setItem (.E 1) (.ak [(.E 2),(.E 3)]) (.bc (.bool true))]],
 .assign (.aR 4) (.bc<|.bool true),
 .pr (.E 4) [
  .assign (.aR 4) (.bc<|.bool false),
  .iq 2 (U 3) [
   .iq 3 (U 3) [
    .ite (.and (.aK .bu (.E 2)<|.E 3)<|.and (.av (.E 1)<|.ak [(.E 2),(.E 3)])<|.not (.a5 108 [(.av (.E 0)<|.E 2),(.av (.E 0)<|.E 3),(.E 1)])) [
     .setItem (.E 1) (.ak [(.E 2),(.E 3)]) (.bc<|.bool false),
     .assign (.aR 4) (.bc (.bool true))] []]]],
 .ret (.E 1)]⟩,
 ⟨3,[],[
 .ite (.aK .lt (.E 1)<|U 2) [
  .ret (.a5 7 [(.E 0),(.av (.bc (.str (aa "ab"))) (.E 1)),(.E 2)])] [],
 .ite (.or (.aK .eq (.E 1)<|U 3)<|.aK .eq (.E 1)<|U 4) [
  .ret (.a5 8 [(.E 0),(.b8 .sub (.E 1) (U 3)),(.E 2)])] [],
 .ite (.or (.aK .eq (.E 1)<|U 6)<|.aK .eq (.E 1)<|U 7) [
  .ret (.a5 9 [(.E 0),(.b8 .sub (.E 1) (U 6)),(.E 2)])] [],
 .ret (.av (.ak [(U 0),(U 0),(U 6),(U 0),(U 0),(U 7),(U 0),(U 0),(U 5),(U 4),(U 3),(U 1),(U 0)]) (.E 1))]⟩,
 ⟨4,[],[
 .assign (.aR 4) (.jW (.a5 110 [(.E 0),(.E 7),(.E 2)]) 7 (U 13) [(.b8 .dj (.b8 .oc (.av (.E 1)<|U 0)<|.E 7)<|U 1)]),
 .ret (.a5 21 [(.E 0),(.b8 .add (.E 4) (.comp (.av (.E 3) (.E 7)) (.aR 7) (.av (.E 1) (U 1)) []))])]⟩,
 ⟨5,[],[
 .assign (.aR 5) (.comp (.ak [(.E 7),(.a5 111 [(.E 0),(.E 8),(.E 2),(.E 3)]),(.E 9),(.E 10)]) (.iV [7,8,9,10]) (.E 1) []),
 .ret (.a5 12 [(.E 0),(.E 5),(.ak []),(.ak []),(.ak []),(.ak []),(.E 4)])]⟩,
 Ih,
 ⟨2,[],[
 .assign (.aR 2) (.l2 3 [(.E 0),(.E 1)]),
 .expr (.a5 97 [(.E 2)]),
 .ret (.E 2)]⟩,
 Ii]
end
section
set_option backward.match.sparseCases false
open PySem PySem.W PyProof.Rows PySem.SeqAt
variable{i d k ep tk eH cl aW:Nat}{p:Addr×Option Addr}{b:List (Str×Value)->(Str->Option Value)->Str->Option Value}{a aI gK ca it:Addr}{h aO:Heap}{vs ds first:List Value}{l zs xs:List I}{m eg e5:Str->Option Value}{v u qC tR:Value}{w:World}{aw:List DictEntry}{x name:Str}{W km W1:List Addr}{o aF cP k5:Obj}{C S ov ax:St}{o':b3}{A:Around}{Q aB:Value->Shared->Prop}{s aY zY:Shared}{prog:Program}{y z:I}{t:Bool}{R:Prop}{K:Frag}{f:Str->Value->(Str->Option Value)->Str->Option Value}{op:ob}{r:Option Value}{ns:List Int}{f7:Sem Bool}{oE:Int}{b1:Nat->Nat->Option Nat}{cV:Nat->Addr}{aL:jy}{sc:Sc}{aN:Env}{H aT:bT}{cg:Option Nat}{O:ht}{dy:b4}{ms ig:List b4}{df:Model}{args ifs:List Expr}{cL elt iter:Expr}{scope:Scope}{names:List (Str×NameKind)}{el:St->Bool}{mt:od}{use:Option (Value->Sem Unit)}{gens:List Comprehension}{body:List Stmt}{pO:List dB}{st:Stmt}{ps loose:List Str}{fd:FuncData}{qS:Str->Option NameKind}{fn:fp}{as:List Nat}{dP:Array Value}{skip ku:Nat->Bool}{os:OsState}{pos':Pos}{e7:List (Nat×List I)}{ts:List (Nat×I)}{cs:List (List Nat×Nat×Nat)}
section
abbrev c6:=List<|Addr×Option Addr
noncomputable def foot(M:c6):List Addr:=M.flatMap λp=>p.1::p.2.toList
def oi(M h6:c6):foot (M++h6)=foot M++foot h6:=by simp [foot]
def Qj(p:Addr×Option Addr)(M:c6):foot (p::M)=(p.1::p.2.toList)++foot M:=by exact rfl
def zM{M:c6}{b:Addr}(h:M[i]? =some p)(aj:b∈p.1::p.2.toList):b∈foot M:=by rw[foot,List.mem_flatMap];exact⟨p,dK h,aj⟩
def Ij{M:c6}:∀{i j:Nat} {p q:Addr×Option Addr} {b:Addr},(foot M).Nodup->M[i]? =some p->M[j]? =some q->i≠j->b∈p.1::p.2.toList->b∈q.1::q.2.toList->False:=by
 induction M with
 |nil=>intro i j p q b _ h;exact bf h
 |cons r M ay=>
  intro i j p q b aG ab aC n fF hu;rw[Qj,kU]at aG;cases i with
  |zero=>
   cases j with
   |zero=>exact n rfl
   |succ j=>exact aG.2.2 b (bp ab▸fF) b (zM (M:=M) aC hu) rfl
  |succ i=>
   cases j with
   |zero=>exact aG.2.2 b (bp aC▸hu) b (zM (M:=M) ab fF) rfl
   |succ j=>exact ay aG.2.1 ab aC (λe=>n (ai (·+1) e)) fF hu
def tF{M:c6}(h:M[i]? =some p):p.1∈foot M:=by rw[foot,List.mem_flatMap];exact Exists.intro _ (And.intro (dK h) bo)
def Ik{M:c6}{d:Addr}(h:M[i]? =some (a,some d)):d∈foot M:=by rw[foot,List.mem_flatMap];exact⟨_,dK h,by simp⟩
mutual
inductive bb(h:Heap)(M:c6):Value->I->Prop
 |none:bb h M .none .none
 |bool (b:Bool):bb h M (.bool b) (.bool b)
 |int (i:Int) (t:Tok):bb h M (.int i t) (.int i)
 |str (x:Str) (t:Tok):bb h M (.str x t) (.str x)
 |ak {a:Addr} {vs:List Value} {l:List I}:h.IsTuple a vs.toArray->a∉foot M/\l.length<=16000000->b9 h M vs l->bb h M (.ref a) (.ak l)
 |L {k:Nat} {p:Addr×Option Addr}:M[k]? =some p->bb h M (.ref p.1) (.L k)
inductive b9(h:Heap)(M:c6):List Value->List I->Prop
 |nil:b9 h M [] []
 |cons {v:Value} {vs:List Value} {d:I} {ds:List I}:bb h M v d->b9 h M vs ds->b9 h M (v::vs) (d::ds)
end
def b9.py{M:c6}{P:List Value->List I->Prop}(n:P [] [])(c:∀v vs d ds,bb h M v d->b9 h M vs ds->P vs ds->P (v::vs) (d::ds))(r:b9 h M vs l):P vs l:=b9.rec (motive_1:=λB B B=>True) (motive_2:=λvs l B=>P vs l) trivial (λB=>trivial) (λB B=>trivial) (λB B=>trivial) (λB B B B=>trivial) (λB=>trivial) n (λa r B ay=>c _ _ _ _ a r ay) r
def b9.length{M:c6}(r:b9 h M vs l):vs.length=l.length:=r.py (P:=λvs l=>vs.length=l.length) rfl λB B B B B B ay=>ai (·+1) ay
def b9.append{M:c6}{ws:List Value}{m:List I}(r:b9 h M vs l)(k:b9 h M ws m):b9 h M (vs++ws) (l++m):=r.py (P:=λvs l=>b9 h M (vs++ws)<|l++m) k λB B B B a B ay=>.cons a ay
def b9.get{M:c6}{d:I}(r:b9 h M vs l):l[i]? =some d->∃v,vs[i]? =some v/\bb h M v d:=r.py (P:=λvs l=>∀i,l[i]? =some d->∃v,vs[i]? =some v/\bb h M v d) (λB e=>bf e) (λv B B B a B ay i=>i.casesOn (λe=>⟨v,rfl,bp e▸a⟩) ay) i
def b9.Qk{M:c6}(r:b9 h M vs l):vs[i]? =some v->∃d,l[i]? =some d/\bb h M v d:=r.py (P:=λvs l=>∀i,vs[i]? =some v->∃d,l[i]? =some d/\bb h M v d) (λB e=>bf e) (λB B d B a B ay i=>i.casesOn (λe=>⟨d,rfl,bp e▸a⟩) ay) i
def b9.Ql{M:c6}:∀{l:List I},vs.length=l.length->(∀(j:Nat) (v:Value) (d:I),vs[j]? =some v->l[j]? =some d->bb h M v d)->b9 h M vs l:=by
 induction vs with
 |nil=>intro l e _;rw[xu e.symm];exact .nil
 |cons v vs ay=>
  intro l e k;cases l with
  |nil=>exact Nat.noConfusion e
  |cons d l=>exact .cons (k 0 v d rfl rfl)<|ay (nl e) λj=>k<|j+1
def b9.take{M:c6}(n:Nat)(r:b9 h M vs l):b9 h M (vs.take n) (l.take n):=r.py (P:=λvs l=>∀n,b9 h M (vs.take n)<|l.take n) (λn=>n.casesOn .nil λB=>.nil) (λB B B B a B ay n=>n.casesOn .nil λn=>.cons a<|ay n) n
def b9.drop{M:c6}(n:Nat)(r:b9 h M vs l):b9 h M (vs.drop n) (l.drop n):=r.py (P:=λvs l=>∀n,b9 h M (vs.drop n)<|l.drop n) (λn=>n.casesOn .nil λB=>.nil) (λB B B B a r ay n=>n.casesOn (.cons a r) ay) n
def b9.set{M:c6}{d:I}(n:Nat)(r:b9 h M vs l)(k:bb h M v d):b9 h M (vs.set n v) (l.set n d):=r.py (P:=λvs l=>∀n,b9 h M (vs.set n v)<|l.set n d) (λn=>n.casesOn .nil λB=>.nil) (λB B B B a r ay n=>n.casesOn (.cons k r) λn=>.cons a<|ay n) n
def b9.zN{M:c6}{d:I}(r:b9 h M vs l)(k:bb h M v d):b9 h M (vs++[v]) (l++[d]):=r.append<|.cons k .nil
structure g4(h:Heap)(M:c6)(aO:Heap)(bt:c6):Prop where
 pre:∃h6,bt=M++h6
 ak:∀b o,h.get? b=some o->o.cls=.type "tuple"->(∃dP n,o.data=.seq dP n)->b∉foot M->aO.get? b=some o/\b∉foot bt
def g4.get{M bt:c6}(x:g4 h M aO bt)(e:M[i]? =some p):bt[i]? =some p:=by obtain⟨h6,rfl⟩:=x.pre;refine V (no (h7 e).1) ?_;exact e
def bb.Qm{M bt:c6}(k:g4 h M aO bt)(aP:h.IsTuple a vs.toArray)(hn:a∉foot M/\l.length<=16000000)(r:b9 aO bt vs l):bb aO bt (.ref a) (.ak l):=
 let⟨o,aA,ag,n,bC⟩:=aP;have q:=k.ak a o aA ag ⟨_,n,bC⟩ hn.1
 .ak ⟨o,q.1,ag,n,bC⟩ ⟨q.2,hn.2⟩ r
def bb.keep{M bt:c6}(k:g4 h M aO bt){d:I}(r:bb h M v d):bb aO bt v d:=bb.rec (motive_1:=λv d B=>bb aO bt v d) (motive_2:=λvs l B=>b9 aO bt vs l) .none .bool .int .str (λaP hn B ay=>.Qm k aP hn ay) (λe=>.L<|k.get e) .nil (λB B a b=>.cons a b) r
def b9.keep{M bt:c6}(k:g4 h M aO bt)(r:b9 h M vs l):b9 aO bt vs l:=r.py .nil λB B B B a B ay=>.cons (a.keep k) ay
def lo(h:Heap)(M:c6):Option Value->Option I->Prop
 |none,none=>True
 |some v,some d=>bb h M v d
 |B,cr=>False
def lo.keep{M bt:c6}(k:g4 h M aO bt){v:Option Value}{d:Option I}(r:lo h M v d):lo aO bt v d:=by
 cases v<;>cases d<;>first|exact r|exact bb.keep k r
def lo.Df{M:c6}{v:Option Value}{d:I}(r:lo h M v (some d)):∃x,v=some x/\bb h M x d:=by
 cases v with
 |none=>exact r.elim
 |some x=>exact⟨x,rfl,r⟩
def lo.Qn{M:c6}{v:Option Value}(r:lo h M v none):v=none:=by
 cases v with
 |none=>rfl
 |some x=>exact r.elim
mutual
noncomputable def kk(w:World):I->Int
 |.int i=>hashInt i
 |.str s=>hashStr w s
 |.ak l=>reduceHash<|Builtin.Tuple.tupleHashOf<|oj w l
 |_=>0
noncomputable def oj(w:World):List I->List Int
 |[]=>[]
 |a::as=>kk w a::oj w as
end
inductive fa(w:World)(h:Heap)(M:c6):List DictEntry->List (I×I)->Prop
 |nil:fa w h M [] []
 |cons {e:DictEntry} {aw:List DictEntry} {k v:I} {l:List (I×I)}:e.hash=kk w k->I.key k->bb h M e.key k->bb h M e.val v->fa w h M aw l->fa w h M (e::aw) ((k,v)::l)
def fa.keep{M bt:c6}(k:g4 h M aO bt){l:List (I×I)}(r:fa w h M aw l):fa w aO bt aw l:=r.rec .nil λa b c d B ay=>.cons a b (c.keep k) (d.keep k) ay
def fa.length{M:c6}{l:List (I×I)}(r:fa w h M aw l):aw.length=l.length:=r.rec (motive:=λaw l B=>aw.length=l.length) rfl λB B B B B ay=>ai (·+1) ay
noncomputable def rN(n:Nat)(F:Nat->Option I):Nat:=(List.range n).countP λi=>(F i).isSome
structure vo where
 ca:List Addr
 fr:List Str
noncomputable def lp(x:Str)(aw:List DictEntry):Option Value:=(aw.find? (·.key.isStr x)).map (·.val)
def rO(aw:List DictEntry):Prop:=∀e∈aw,∃n t,e.key=.str n t
def Il(h:rO aw):getL x aw=some (lp x aw):=by
 delta getL lp;cases hf:aw.find? (·.key.isStr x)with
 |some e=>rfl
 |none=>
  have:aw.any (·.refKey)=false:=by rw[List.any_eq_false];intro e he;obtain⟨n,t,q⟩:=h e he;simp [DictEntry.refKey,q]
  simp [this]
def om(w:World)(N:vo)(h:Heap)(M:c6)(p:Addr×Option Addr):b3->Prop
 |.list l=>p.2=none/\∃vs n,h.get? p.1=some {cls:=.type "list",data:=.seq vs n}/\b9 h M vs.toList l/\l.length<=16000000
 |.dict l=>p.2=none/\∃aw n,h.get? p.1=some {cls:=.type "dict",data:=.dict aw n}/\fa w h M aw.toList l/\(l.map (·.1)).Nodup/\l.length<=16000000
 |.cR c F=>∃aI gK aw n,N.ca[c]? =some aI/\p.2=some gK/\h.get? p.1=some (instObj aI gK)/\h.get? gK=some (dictOf aw n)/\rO aw/\aw.length<=rN N.fr.length F/\
   (∀x,lo h M (lp x aw)<|(N.fr.idxOf? x).bind F)/\(∀x,(lp x aw).isSome=true->(N.fr.idxOf? x).isSome=true)
structure h8(W:List Addr)(h:Heap)(M:c6)(aO:Heap)(bt:c6):Prop where
 pre:∃h6,bt=M++h6/\∀b∈foot h6,h.get? b=none\/b∈W
 kl:∀b o,h.get? b=some o->b∉foot M->b∉W->aO.get? b=some o
 alive:∀b o,h.get? b=some o->b∈foot M->∃o',aO.get? b=some o'
 tG:∀p b o,M[0]? =some p->b∈p.1::p.2.toList->h.get? b=some o->aO.get? b=some o
def h8.refl(W:List Addr)(h:Heap)(M:c6):h8 W h M h M:=⟨⟨[],by exact iX<|ew _,by simp [foot]⟩,λB B e B B=>e,λB o e B=>⟨o,e⟩,λB B B B B e=>e⟩
def h8.fR{M bt:c6}(x:h8 W h M aO bt){b:Addr}(e:h.get? b=some o)(n:b∉foot M)(rP:b∉W):b∉foot bt:=by
 obtain⟨h6,rfl,hf⟩:=x.pre;rw[oi,qv];rintro (q|q)
 ·exact n q
 ·rcases hf b q with q|q
  ·rw[q]at e;exact vp _<|iX e
  ·exact rP q
def h8.trans{Im:Heap}{M bt tH:c6}(x:h8 W h M aO bt)(y:h8 W aO bt Im tH):h8 W h M Im tH:=by
 obtain⟨h6,aD,hf⟩:=x.pre;obtain⟨Qo,aF,bA⟩:=y.pre;refine⟨⟨h6++Qo,by exact V aF<|V aD<|V (iG _ _ _) rfl,λb aj=> ?_⟩,λb o e n m=>y.kl b o (x.kl b o e n m) (x.fR e n m) m,λb o e aj=> ?_,λp b o ab aj e=> ?_⟩
 ·rw[oi,qv]at aj;rcases aj with q|q
  ·exact hf b q
  ·rcases bA b q with q|q
   ·by_cases hw:b∈W
    ·exact .inr hw
    ·left;cases aC:h.get? b with
     |none=>rfl
     |some o=>
      by_cases aj:b∈foot M
      ·obtain⟨o',e'⟩:=x.alive b o aC aj;rw[q]at e';contradiction
      ·rw[x.kl b o aC aj hw]at q;exact q
   ·exact .inr q
 ·obtain⟨o',e'⟩:=x.alive b o e aj;exact y.alive b o' e' (by refine V aD<|V (oi _ _) ?_;exact jg _ aj)
 ·refine y.tG p b o ?_ aj<|x.tG p b o ab aj e;refine V aD<|V (no (h7 ab).1) ?_;exact ab
def h8.tI{M bt:c6}(x:h8 W h M aO bt)(hv:∀b∈W,h.get? b=none):h8 [] h M aO bt:=by obtain⟨h6,aD,hf⟩:=x.pre;exact⟨⟨h6,aD,λb aj=>.inl<|(hf b aj).elim id<|hv b⟩,λb o e n B=>x.kl b o e n (λq=>by rw[hv b q]at e;exact vp _<|iX e),x.alive,x.tG⟩
def h8.cj{M bt:c6}(x:h8 W h M aO bt)(aJ:∀b∈W,b∈km):h8 km h M aO bt:=⟨let⟨h6,e,f⟩:=x.pre;⟨h6,e,λb aj=>(f b aj).imp id<|aJ b⟩,λb o e n m=>x.kl b o e n λq=>m<|aJ b q,x.alive,x.tG⟩
def nq(h:Heap)(W:List Addr):Prop:=∀b∈W,∀o,h.get? b=some o->o.cls=.type "tuple"->(∃dP n,o.data=.seq dP n)->False
def h8.keep{M bt:c6}(x:h8 W h M aO bt)(fL:nq h W):g4 h M aO bt:=⟨let⟨h6,e,_⟩:=x.pre;⟨h6,e⟩,λb o e c Io n=>⟨x.kl b o e n λq=>fL b q o e c Io,x.fR e n λq=>fL b q o e c Io⟩⟩
def h8.Qp{M bt:c6}(x:h8 [] h M aO bt):g4 h M aO bt:=x.keep λB aj=>nomatch aj
def h8.h9{M:c6}(k:∀b o,h.get? b=some o->aO.get? b=some o):h8 W h M aO M:=⟨⟨[],by exact iX<|ew _,by simp [foot]⟩,λb o e B B=>k b o e,λb o e B=>⟨o,k b o e⟩,λB b o B B e=>k b o e⟩
structure bJ(w:World)(N:vo)(au h:Heap)(M:c6)(C:St):Prop where
 keep:∀b o,au.get? b=some o->h.get? b=some o
 fR:∀b∈foot M,au.get? b=none
 len:M.length=C.length
 nodup:(foot M).Nodup
 objs:∀(i:Nat) (p:Addr×Option Addr) (o:b3),M[i]? =some p->C[i]? =some o->om w N h M p o
section
variable{N:vo}{au:Heap}{M bt:c6}
def om.keeps{o:b3}(r:om w N h M p o)(k:g4 h M aO bt)(aD:∀x,h.get? p.1=some x->aO.get? p.1=some x)(aF:∀d x,p.2=some d->h.get? d=some x->aO.get? d=some x):om w N aO bt p o:=by
 cases o with
 |list l=>obtain⟨a,vs,n,b,c,d⟩:=r;exact⟨a,vs,n,aD _ b,c.keep k,d⟩
 |dict l=>obtain⟨a,aw,n,b,c,d,e⟩:=r;exact⟨a,aw,n,aD _ b,c.keep k,d,e⟩
 |cR c F=>obtain⟨aI,gK,aw,n,a,b,c,d,e,f,g,i⟩:=r;exact⟨aI,gK,aw,n,a,b,aD _ c,aF _ _ b d,e,f,λx=>(g x).keep k,i⟩
def bJ.tJ(x:bJ w N au h M C)(fL:nq h W)(hv:∀b∈W,b∉foot M/\au.get? b=none)(k:∀b o,h.get? b=some o->b∉W->aO.get? b=some o):bJ w N au aO M C:=by
 have K:g4 h M aO M:=⟨⟨[],by exact iX<|ew _⟩,λb o e c nr n=>⟨k b o e λq=>fL b q o e c nr,n⟩⟩;refine⟨λb o e=>k b o (x.keep b o e) λq=> ?_,x.fR,x.len,x.nodup,λi p o ab aA=>(x.objs i p o ab aA).keeps K (λy e=>k _ _ e λq=>(hv _ q).1<|tF ab) λd y bC e=>k _ _ e λq=>(hv _ q).1 ?_⟩
 ·rw[(hv b q).2]at e;exact vp _<|iX e
 ·obtain⟨a,kV⟩:=p;simp only at bC;subst bC;exact Ik ab
def bJ.oo(x:bJ w N au h M C)(k:∀b o,h.get? b=some o->aO.get? b=some o):bJ w N au aO M C:=x.tJ (W:=[]) (λB aj=>nomatch aj) (λB aj=>nomatch aj) λb o e B=>k b o e
def bJ.set(x:bJ w N au h M C)(ab:M[i]? =some p)(hv:∀b∈W,b=p.1\/p.2=some b)(fL:nq h W)(k:∀b o,h.get? b=some o->b∉W->aO.get? b=some o)(r:g4 h M aO M->om w N aO M p o'):bJ w N au aO M (C.set i o'):=by
 have hm:∀b∈W,b∈foot M:=λb aj=>by
  rcases hv b aj with rfl|q
  ·exact tF ab
  ·obtain⟨a,kV⟩:=p;simp only at q;subst q;exact Ik ab
 have K:g4 h M aO M:=⟨⟨[],by exact iX<|ew _⟩,λb o e c B n=>⟨k b o e λq=>n<|hm b q,n⟩⟩;refine⟨λb o e=>k b o (x.keep b o e) λq=> ?_,x.fR,by exact Qd x.len List.length_set,x.nodup,λj q o aC aA=> ?_⟩
 ·rw[x.fR b (hm b q)]at e;exact vp _<|iX e
 ·by_cases qw:i=j
  ·subst qw;have:i<C.length:=by refine eF x.len ?_;exact(h7 ab).1
   rw[List.getElem?_set_self this]at aA;cases aA;rw[ab]at aC;cases aC;exact r K
  ·rw[List.getElem?_set_ne qw]at aA;have bu:∀b,(b=q.1\/q.2=some b)->b∉W:=λb aj hw=>by
    have fF:b∈p.1::p.2.toList:=by rcases hv b hw with rfl|e;exact bo;simp [e]
    have hu:b∈q.1::q.2.toList:=by rcases aj with rfl|e;exact bo;simp [e]
    exact Ij x.nodup ab aC qw fF hu
   exact(x.objs j q o aC aA).keeps K (λy e=>k _ _ e<|bu _<|.inl rfl) λd y bC e=>k _ _ e<|bu _<|.inr bC
def bJ.push(x:bJ w N au h M C)(hf:∀b∈foot [p],h.get? b=none)(tK:(foot [p]).Nodup)(k:∀b o,h.get? b=some o->aO.get? b=some o)(r:g4 h M aO (M++[p])->om w N aO (M++[p]) p o')(al:∀b∈foot M,∃o,h.get? b=some o):bJ w N au aO (M++[p]) (C++[o']):=by
 have K:g4 h M aO (M++[p]):=⟨⟨[p],rfl⟩,λb o e c B n=>⟨k b o e,by
  rw[oi,qv];rintro (q|q)
  ·exact n q
  ·rw[hf b q]at e;exact vp _ (iX e)⟩⟩
 refine⟨λb o e=>k b o<|x.keep b o e,λb aj=> ?_,by simp [x.len],?_,λj q o aC aA=> ?_⟩
 ·rw[oi,qv]at aj;rcases aj with q|q
  ·exact x.fR b q
  ·cases oq:au.get? b with
   |none=>rfl
   |some o=>have:=x.keep b o oq;rw[hf b q]at this;exact iX this
 ·rw[oi,kU];refine⟨x.nodup,tK,λa aU b aj e=> ?_⟩;subst e;obtain⟨o,aA⟩:=al a aU;rw[hf a aj]at aA;exact vp _<|iX aA
 ·by_cases aQ:j<M.length
  ·rw[no aQ]at aC;rw[no (by exact c7 aQ<|cM x.len)]at aA;exact(x.objs j q o aC aA).keeps K (λy e=>k _ _ e) λd y B e=>k _ _ e
  ·have Qq:j=M.length:=by have:=(h7 aC).1;simp at this;exact Nat.le_antisymm (pz this) (vm aQ)
   subst Qq;simp at aC;rw[x.len]at aA;simp at aA;subst aC;subst aA;exact r K
def bJ.alive(x:bJ w N au h M C):∀b∈foot M,∃o,h.get? b=some o:=by
 intro b aj;simp only[foot,List.mem_flatMap]at aj;obtain⟨p,ab,aj⟩:=aj;obtain⟨i,ah,rfl⟩:=List.mem_iff_getElem.mp ab;have aJ:i<C.length:=by refine eF x.len ?_;exact ah
 have r:=x.objs i M[i] C[i] (by simp [ah]) (by simp [aJ]);cases kW:C[i]with
 |list l=>rw[kW]at r;obtain⟨a,vs,n,q,B⟩:=r;rw[a]at aj;simp at aj;subst aj;exact⟨_,q⟩
 |dict l=>rw[kW]at r;obtain⟨a,vs,n,q,B⟩:=r;rw[a]at aj;simp at aj;subst aj;exact⟨_,q⟩
 |cR c F=>
  rw[kW]at r;obtain⟨aI,gK,aw,n,a,e,q,eW,B⟩:=r;rw[e]at aj;simp at aj;rcases aj with rfl|rfl
  ·exact⟨_,q⟩
  ·exact⟨_,eW⟩
end
end
variable{M bt tH:c6}{N:vo}
section
def vq(s aY:Shared):Prop:=∃aO tk,aY={s with heap:=aO,toks:=tk}/\∀b o,s.heap.get? b=some o->aO.get? b=some o
def vq.refl(s:Shared):vq s s:=⟨s.heap,s.toks,rfl,λB B e=>e⟩
def vq.jz(s:Shared)(t:Nat):vq s {s with toks:=t}:=⟨s.heap,t,rfl,λB B e=>e⟩
structure en(d:Nat)(A:Around):Prop where
 depth:A.depth+d<recursionLimit
 units:A.units+10*d+300<cLine
 handled:A.handled=none
def en.room(x:en d A):A.units+64<cLine:=by have:=x.units;exact HU (Nat.lt_add_one _)<|HT x.units
mutual
noncomputable def iY:I->PyData
 |.none=>.none
 |.bool b=>.bool b
 |.int i=>.int i
 |.str s=>.str s
 |.ak l=>.tuple<|iH l
 |.L B=>.none
noncomputable def iH:List I->List PyData
 |[]=>[]
 |a::as=>iY a::iH as
end
def vr{P:Nat->I->Prop}{Q:Nat->List I->Prop}(int:∀n i,P n<|.int i)(str:∀n s,e9 s->P n (.str s))(ak:∀n l,Q n l->P (n+1) (.ak l))(nil:∀n,Q n [])(cons:∀n a as,P n a->Q n as->Q n (a::as)):
  (∀x n,I.hr n x->P n x)/\∀l n,I.gR n l->Q n l:=
 have c:∀a l,(∀n,I.hr n a->P n a)->(∀n,I.gR n l->Q n l)->∀n,I.gR n (a::l)=true->Q n (a::l):=λB B h t n k=>cons n _ _ (h n<|bP k)<|t n<|cO k;have t:∀l,(∀n,I.gR n l->Q n l)->∀n,I.hr n (.ak l)=true->P n (.ak l):=λl h n=>n.casesOn (λk=>b7 k) λn k=>ak n l<|h n k
 ⟨λx=>I.rec (motive_1:=λx=>∀n,I.hr n x->P n x) (motive_2:=λl=>∀n,I.gR n l->Q n l) (λB k=>b7 k) (λB B k=>b7 k) (λi n B=>int n i) (λs n k=>str n s k) t (λB B k=>b7 k) (λn B=>nil n) c x,
  λl=>I.rec_1 (motive_1:=λx=>∀n,I.hr n x->P n x) (motive_2:=λl=>∀n,I.gR n l->Q n l) (λB k=>b7 k) (λB B k=>b7 k) (λi n B=>int n i) (λs n k=>str n s k) t (λB B k=>b7 k) (λn B=>nil n) c l⟩
def Ip:(∀x n,I.hr n x->∀v,bb h M v x->∃as,Reads h v (iY x) as)/\∀l n,I.gR n l->∀vs,b9 h M vs l->∃as,ReadsAll h vs (iH l) as:=
 vr (P:=λB x=>∀v,bb h M v x->∃as,Reads h v (iY x) as) (Q:=λB l=>∀vs,b9 h M vs l->∃as,ReadsAll h vs (iH l) as) (λB B B r=>by cases r;exact⟨[],.int _ _⟩) (λB B B B r=>by cases r;exact⟨[],.str _ _⟩)
  (λB B ay B r=>by
   cases r with
   |ak aP hn r=>exact let⟨_,aA,ag,_,bC⟩:=aP;(ay _ r).elim λas cb=>⟨as,.tuple aA ag bC cb⟩)
  (λB B r=>by cases r;exact⟨[],.nil⟩)
  (λB B B ay zO B r=>by
   cases r with
   |cons a r=>exact(ay _ a).elim λas cb=>(zO _ r).elim λbs dE=>⟨as++bs,.cons cb dE⟩)
def bb.reads{d:I}(n:Nat)(k:I.hr n d)(r:bb h M v d):∃as,Reads h v (iY d) as:=Ip.1 _ n k _ r
def b9.reads(n:Nat)(k:I.gR n l)(r:b9 h M vs l):∃as,ReadsAll h vs (iH l) as:=Ip.2 _ n k _ r
def Qr{s:Str}(h:e9 s):PyData.strOk s:=by unfold e9 at h;simp only[Bool.and_eq_true,decide_eq_true_eq,nt]at h;unfold PyData.strOk;rw[Array.all_eq_true];intro i ah;have:=h.2 s.cps[i] (by simp);simp;exact c7 this (by decide)
def Iq:(∀x n,I.hr n x->(iY x).canLay0=true)/\∀l n,I.gR n l->PyData.canLayAll0 (iH l)=true:=vr (P:=λB x=>(iY x).canLay0=true) (Q:=λB l=>PyData.canLayAll0 (iH l)=true) (λB B=>rfl) (λB B k=>Qr k) (λB B h=>h) (λB=>rfl) λB B B h k=>dI h k
def Ir:(∀x n,I.hr n x->(iY x).depth<=n+1)/\∀l n,I.gR n l->PyData.depthAll (iH l)<=n+1:=vr (P:=λn x=>(iY x).depth<=n+1) (Q:=λn l=>PyData.depthAll (iH l)<=n+1) (λB B=>jA _) (λB B B=>jA _) (λB B h=>kX h) (λB=>jA _) λB B B h k=>Nat.max_le.mpr ⟨h,k⟩
def It:(∀x n,I.hr n x->∀m y,I.hr m y->PyData.eqv (iY x) (iY y)=I.beq x y)/\∀l n,I.gR n l->∀m k,I.gR m k->PyData.eqvAll (iH l) (iH k)=I.rH l k:=
 vr (P:=λB x=>∀m y,I.hr m y->PyData.eqv (iY x) (iY y)=I.beq x y) (Q:=λB l=>∀m k,I.gR m k->PyData.eqvAll (iH l) (iH k)=I.rH l k)
  (λB B m y=>y.casesOn (λk=>b7 k) (λB k=>b7 k) (λB B=>rfl) (λB B=>rfl) (λB B=>rfl) λB k=>b7 k)
  (λB B B m y=>y.casesOn (λk=>b7 k) (λB k=>b7 k) (λB B=>rfl) (λB B=>rfl) (λB B=>rfl) λB k=>b7 k)
  (λB B h m y=>y.casesOn (λk=>b7 k) (λB k=>b7 k) (λB B=>rfl) (λB B=>rfl) (λl=>m.casesOn (λk=>b7 k) λm k=>h m l k) λB k=>b7 k)
  (λB m k=>k.casesOn (λB=>rfl) λB B B=>rfl)
  λB B B h aO m k=>k.casesOn (λB=>rfl) λa l k=>congr (ai and<|h m a<|bP k)<|aO m l<|cO k
def Qs(x y:I):I.beq x y=decide (x=y):=by
 by_cases h:x=y
 ·refine V (ck h)<|(I.C1 x y).mpr h
 ·refine V (cp h)<|mH.mpr λq=>h<|(I.C1 x y).mp q
def Qt(x y:List I):I.rH x y=decide (x=y):=by
 by_cases h:x=y
 ·refine V (ck h)<|(I.HP x y).mpr h
 ·refine V (cp h)<|mH.mpr λq=>h<|(I.HP x y).mp q
def xv(n:Nat)(d:I)(k:I.hr n d):(iY d).canLay0=true:=Iq.1 d n k
def Qu(n:Nat)(l:List I)(k:I.gR n l):PyData.canLayAll0 (iH l)=true:=Iq.2 l n k
def Qv(n:Nat)(d:I)(k:I.hr n d):(iY d).depth<=n+1:=Ir.1 d n k
def Qw(n:Nat)(l:List I)(k:I.gR n l):PyData.depthAll (iH l)<=n+1:=Ir.2 l n k
def zP(n m:Nat)(a b:I)(k:I.hr n a)(q:I.hr m b):PyData.eqv (iY a) (iY b)=decide (a=b):=(It.1 a n k m b q).trans<|Qs a b
def Iu(n m:Nat)(a b:List I)(k:I.gR n a)(q:I.gR m b):PyData.eqvAll (iH a) (iH b)=decide (a=b):=(It.2 a n k m b q).trans<|Qt a b
section
variable{a b:Value}{x:I}
def xw(k:I.key x):shaped (iY x)=true:=dI (xv 6 x k) (ck<|a3 (Qv 6 x k)<|by decide)
def zQ(k:I.iW l):shaped (.list<|iH l)=true:=dI (Qu 6 l k) (ck<|a3 (kX<|Qw 6 l k)<|by decide)
def Iv(cb:bb s.heap M a x)(dE:bb s.heap M b y)(kn:I.key x)(mI:I.key y)(bD:A.units+64<cLine):EqAt A s a b (decide<|x=y):=by obtain⟨as,bi⟩:=bb.reads 6 kn cb;obtain⟨bs,bg⟩:=bb.reads 6 mI dE;have:=eqAt_reads (iY x) (iY y) A s a b as bs bi bg (xv 6 x kn) (xv 6 y mI)<|room_of_shaped (xw kn) bD;rwa [zP 6 6 x y kn mI]at this
def Qx(cb:bb s.heap M a x)(dE:bb s.heap M b y)(kn:I.key x)(mI:I.key y)(bD:A.units+64<cLine)(h:Q (.bool<|decide<|x=y) s):
  wpAny (model prog w) A (compareOp .Eq a b) Q aB s:=by
 obtain⟨as,bi⟩:=bb.reads 6 kn cb;obtain⟨bs,bg⟩:=bb.reads 6 mI dE;exact eq_dataH bi bg (xw kn) (xw mI) bD (by refine V (zP 6 6 x y kn mI) ?_;exact h)
def Qy(cb:bb s.heap M a x)(dE:bb s.heap M b y)(kn:I.key x)(mI:I.key y)(bD:A.units+64<cLine)(h:Q (.bool<|!decide (x=y)) s):
  wpAny (model prog w) A (compareOp .NotEq a b) Q aB s:=by
 obtain⟨as,bi⟩:=bb.reads 6 kn cb;obtain⟨bs,bg⟩:=bb.reads 6 mI dE;exact ne_dataH bi bg (xw kn) (xw mI) bD (by refine V (zP 6 6 x y kn mI) ?_;exact h)
end
section
variable{au:Heap}{a b:Value}{x:I}
def bJ.list(O:bJ w N au s.heap M C){k:Nat}{l:List I}(e:C[k]? =some (.list l))(r:bb s.heap M v (.L k)):
  ∃(p:Addr×Option Addr) (vs:Array Value) (n:Nat),M[k]? =some p/\v=.ref p.1/\p.2=none/\s.heap.get? p.1=some {cls:=.type "list",data:=.seq vs n}/\b9 s.heap M vs.toList l/\l.length<=16000000/\vs.size=l.length:=by
 cases r with
 |L ab=>have R:=O.objs k _ _ ab e;obtain⟨a,vs,n,b,c,d⟩:=R;exact⟨_,vs,n,ab,rfl,a,b,c,d,by exact gq (Nat.add_zero _)<|b9.length c⟩
def bJ.dict(O:bJ w N au s.heap M C){l:List (I×I)}(e:C[k]? =some (.dict l))(r:bb s.heap M v (.L k)):
  ∃(p:Addr×Option Addr) (aw:Array DictEntry) (n:Nat),M[k]? =some p/\v=.ref p.1/\p.2=none/\s.heap.get? p.1=some {cls:=.type "dict",data:=.dict aw n}/\fa w s.heap M aw.toList l/\(l.map (·.1)).Nodup/\l.length<=16000000:=by
 cases r with
 |L ab=>have R:=O.objs k _ _ ab e;obtain⟨a,vs,n,b,c,d,f⟩:=R;exact⟨_,vs,n,ab,rfl,a,b,c,d,f⟩
def Iw{v:Array Value}(h:v.size=l.length):(!v.isEmpty)= !l.isEmpty:=by
 refine ai not ?_;cases l with
 |nil=>exact ck h
 |cons B cr=>exact cp<|V h<|qx _
def Iy{Q:Bool->Shared->Prop}(O:bJ w N au s.heap M C)(r:bb s.heap M v x)(e:h3 C x=some t)(h:∀aY,vq s aY->Q t aY):wpAny (model prog w) A (truthy v) Q aB s:=by
 cases r with
 |none=>exact bf e
 |str B cr=>exact bf e
 |bool c=>exact wpAny_truthy_bool<|bp e▸h _ (.refl s)
 |int i tk=>exact truthy_int<|V ((Bool.eq_iff_iff.mpr<|bne_iff_ne.trans decide_eq_true_iff.symm).trans<|bp e)<|h _<|.refl s
 |ak aP hn aV=>exact truthy_tuple aP (hd<|c1 (cM aV.length)<|c1 hn.2<|by decide)<|V ((Iw aV.length).trans<|bp e)<|h _<|.jz s _
 |@L k p ab=>
  have e:(match C[k]?with
   |some (.list l)=>some<|!l.isEmpty
   |_=>none)=some t:=e
  cases ao:C[k]?with
  |none=>rw[ao]at e;exact bf e
  |some o=>
   rw[ao]at e;cases o with
   |list l=>obtain⟨qy,vs,n,pA,aS,B,aA,aV,fs,Iz⟩:=bJ.list O ao<|bb.L ab;exact V aS (wpAny_truthy_list ⟨_,aA,rfl,n,rfl⟩ (hd<|c1 (cM Iz)<|c1 fs<|by decide)<|V ((Iw Iz).trans<|bp e)<|h _<|.jz s _)
   |_=>exact bf e
def en.qz(x:en d A):A.in1.units+64<cLine:=by have:=x.units;show A.units+1+64<cLine;exact HT x.units
def Dg{x:I}(n:Nat):I.gR n l->x∈l->I.hr n x:=by
 induction l with
 |nil=>exactλB h=>absurd h b5
 |cons a as ay=>exactλk h=>(cS h).elim (λe=>e▸bP k)<|ay<|cO k
def Qz{x d:I}{ds:List I}:(decide (d=x)||decide (x∈ds))=decide (x∈d::ds):=eF (Bool.decide_or _ _)<|decide_eq_decide.mpr ⟨λh=>pB.mpr<|h.imp_left iX,λh=>(cS h).imp_left iX⟩
def QA(e:Value->Bool)(r:b9 h M vs l):(∀y d,y∈vs->bb h M y d->d∈l->e y=decide (d=x))->vs.any e=decide (x∈l):=r.py (P:=λvs l=>(∀y d,y∈vs->bb h M y d->d∈l->e y=decide (d=x))->vs.any e=decide (x∈l)) (λB=>rfl) λv B d B a B ay he=>(congr (ai or<|he v d bo a bo)<|ay λy d a8 aH bC=>he y d (bQ _ a8) aH<|bQ _ bC).trans Qz
def bb.IA(n:Nat){x:I}(r:bb h M v x)(q:bb h M v y)(k:I.hr n x)(cy:I.hr n y):x=y:=by obtain⟨as,bi⟩:=bb.reads n k r;obtain⟨bs,bg⟩:=bb.reads n cy q;have:=Reads.unique (iY x) (iY y) v as bs (xv n x k) bi bg;have e:=zP n n x y k cy;rw[<-this,eqv_refl _<|xv n x k]at e;simpa using e.symm
def IB{Q:Value->Shared->Prop}(cb:bb s.heap M a x)(aV:b9 s.heap M vs l)(kn:I.key x)(lq:I.iW l)(bD:A.in1.units+64<cLine):
  ∃e:Value->Bool,(∀y,y∈vs->EqAt A.in1 s y a (e y))/\vs.any e=decide (x∈l):=by
 classical
 have same:∀{y d},bb s.heap M y d->I.key d->decide (bb s.heap M y x)=decide (d=x):=λr k=>decide_eq_decide.mpr ⟨λq=>bb.IA 6 r q k kn,λe=>e▸r⟩;exact⟨λy=>decide<|bb s.heap M y x,λy a8=>(List.getElem?_of_mem a8).elim λi ah=>(aV.Qk ah).elim λd q=>show EqAt A.in1 s y a (decide<|bb s.heap M y x)from V (same q.2<|Dg 6 lq<|dK q.1)<|Iv q.2 cb (Dg 6 lq<|dK q.1) kn bD,QA _ aV λy d B aH bC=>same aH<|Dg 6 lq bC⟩
def IC(e:tx C x y=some t)(da:∀p q,x=.bool p->y=.bool q->(p==q)=t->R)(lq:∀i j l m,x=.L i->y=.L j->C[i]? =some (.list l)->C[j]? =some (.list m)->I.iW l->I.iW m->decide (l=m)=t->R)(aq:I.key x->I.key y->decide (x=y)=t->R):R:=by
 have g:(if I.key x&&I.key y then some (decide<|x=y)else none)=some t->R:=λe=>dZ e λk q=>aq (bP k) (cO k)<|bp q;cases x with
 |bool p=>
  cases y with
  |bool q=>exact da p q rfl rfl<|bp e
  |_=>exact g e
 |L i=>
  cases y with
  |L j=>
   have e:(match C[i]?,C[j]?with
    |some (.list l),some (.list m)=>if I.iW l&&I.iW m then some (decide<|l=m)else none
    |B,cr=>none)=some t:=e
   cases ah:C[i]?with
   |none=>rw[ah]at e;exact bf e
   |some o=>
    cases aQ:C[j]?with
    |none=>rw[ah,aQ]at e;cases o<;>exact bf e
    |some o'=>
     rw[ah,aQ]at e;cases o with
     |list l=>
      cases o' with
      |list m=>exact dZ e λk q=>lq i j l m rfl rfl ah aQ (bP k) (cO k)<|bp q
      |_=>exact bf e
     |_=>exact bf e
  |_=>exact g e
 |_=>exact g e
def QB(K:en d A)(O:bJ w N au s.heap M C)(cb:bb s.heap M a x)(dE:bb s.heap M b y)(e:tx C x y=some t)(h:Q (.bool t) s):wpAny (model prog w) A (compareOp .Eq a b) Q aB s:=by
 refine IC e (λp q ac a8 aP=> ?_) (λi j l m ac a8 ao hm k cy aP=> ?_) λk cy aP=>Qx cb dE k cy K.room<|V aP h
 ·subst ac a8 aP;cases cb;cases dE;exact RcAt.bool_bool _ _ prog w aB Q h
 ·subst ac a8 aP;obtain⟨p,vs,n,ab,rfl,B,aA,aV,cr⟩:=bJ.list O ao cb;obtain⟨qy,ws,eH,pA,rfl,B,kY,xx,cr⟩:=bJ.list O hm dE;obtain⟨as,bi⟩:=b9.reads 6 k aV;obtain⟨bs,bg⟩:=b9.reads 6 cy xx;exact eq_dataH (.list aA rfl rfl bi) (.list kY rfl rfl bg) (zQ k) (zQ cy) K.room<|V (show PyData.eqv (.list<|iH l) (.list<|iH m)=_ from Iu 6 6 l m k cy) h
def QC(K:en d A)(O:bJ w N au s.heap M C)(cb:bb s.heap M a x)(dE:bb s.heap M b y)(e:tx C x y=some t)(h:Q (.bool<|!t) s):wpAny (model prog w) A (compareOp .NotEq a b) Q aB s:=by
 refine IC e (λp q ac a8 aP=> ?_) (λi j l m ac a8 ao hm k cy aP=> ?_) λk cy aP=>Qy cb dE k cy K.room<|V aP h
 ·subst ac a8 aP;cases cb;cases dE;exact RcNeAt.bool_bool _ _ prog w aB Q h
 ·subst ac a8 aP;obtain⟨p,vs,n,ab,rfl,B,aA,aV,cr⟩:=bJ.list O ao cb;obtain⟨qy,ws,eH,pA,rfl,B,kY,xx,cr⟩:=bJ.list O hm dE;obtain⟨as,bi⟩:=b9.reads 6 k aV;obtain⟨bs,bg⟩:=b9.reads 6 cy xx;exact ne_dataH (.list aA rfl rfl bi) (.list kY rfl rfl bg) (zQ k) (zQ cy) K.room<|V (show PyData.eqv (.list<|iH l) (.list<|iH m)=_ from Iu 6 6 l m k cy) h
end
end
mutual
noncomputable def ko:I->Nat
 |.ak l=>rQ l+1
 |_=>1
noncomputable def rQ:List I->Nat
 |[]=>0
 |a::as=>ko a+rQ as
end
def QD(l m:List I):rQ (l++m)=rQ l+rQ m:=by
 induction l with
 |nil=>exact(ot _).symm
 |cons a l ay=>exact(ai (ko a+·) ay).trans (iZ _ _ _).symm
def QE(w:World)(l m:List I):oj w (l++m)=oj w l++oj w m:=by
 induction l with
 |nil=>rfl
 |cons a l ay=>exact ai (kk w a::·) ay
section
def xy(prog:Program)(w:World)(M:c6)(n:Nat)(k:I):Prop:=∀{A:Around} {aB:Value->Shared->Prop} {s:Shared} {v:Value} {Q:Int->Shared->Prop},bb s.heap M v k->A.units+n<cLine->Q (kk w k) {s with toks:=s.toks+ko k}->wpAny (model prog w) A (pyHash v) Q aB s
def QF{n:Nat}(ay:∀k∈l,xy prog w M n k):xy prog w M (n+1) (.ak l):=by
 intro A aB s v Q r bD h;cases r with
 |ak aP hn aV=>
  obtain⟨o,aA,ag,m,bC⟩:=aP;have eD:s.TypeIs (.ref _) "tuple":=⟨o,aA,ag⟩;refine wpAny_bind (m:=cRoomFor _ _)<|wpAny_cRoomFor_or (.inr<|HY bD) ?_;refine wpAny_bind<|wpAny_specialOf eD F.slot_tuple_hash.lookup ?_;refine wpAny_bind<|wpAny_specialOf eD F.slot_tuple_hash.lookup ?_;refine wpAny_bind (m:=callSpecialIfBoundUnlessNone? _ "__hash__" _)<|wpAny_callSpecialIfBoundUnlessNone?_slot eD F.slot_tuple_hash<|wpAny_call_entry F.slot_tuple_hash eD F.entry_tuple_hash ?_<|F.args_tuple_hash_1 _;refine wpAny_bind (m:=Builtin.Tuple.tupleItemsOf _)<|wpAny_tupleItemsOf aA bC ?_;refine wpAny_bind (m:=forIn _ _ _)<|eF Array.forIn_toList ?_;refine wpAny_forIn_list _ (λrest (b:Array Int) aY=>∃done left,l=done++left/\b9 s.heap M rest left/\b.toList=oj w done/\aY={s with toks:=s.toks+rQ done}) _ ?_ ?_ _ _ ⟨[],l,rfl,aV,rfl,rfl⟩
  ·rintro x rest b aY ⟨done,left,e,ao,aj,rfl⟩;cases ao with
   |cons Y xz=>refine wpAny_bind (m:=pyHash _)<|ay _ (e▸i0 _ bo) (s:={s with toks:=s.toks+rQ done}) Y (show A.units+1+n<cLine from c1 (cM<|rR _ _ _) bD) ?_;exact wpAny_pure ⟨done++[_],_,e.trans (iG _ [_] _).symm,xz,V Array.toList_push<|V aj (QE w done [_]).symm,V (QD done [_])<|ai (λt=>({s with toks:=t}:Shared))<|iZ _ _ _⟩
  ·rintro b aY ⟨done,left,e,ao,aj,rfl⟩;cases ao;obtain rfl:=e.trans<|ew _;refine(show wpAny _ _ (retInt<|Builtin.Tuple.tupleHashOf b.toList) _ _ _ from V aj<|wpAny_ret_mkInt ?_);show wpAny _ _ (if(decide (-(2:Int)^63<=Builtin.Tuple.tupleHashOf (oj w l))&&decide (Builtin.Tuple.tupleHashOf (oj w l)<2^63))=true then _ else _) Q aB _;change Q (reduceHash<|Builtin.Tuple.tupleHashOf<|oj w l) {s with toks:=s.toks+(rQ l+1)}at h;delta reduceHash at h;by_cases aH:(decide (-(2:Int)^63<=Builtin.Tuple.tupleHashOf (oj w l))&&decide (Builtin.Tuple.tupleHashOf (oj w l)<2^63))=true
   ·rw[bh aH]at h;exact V (bh aH)<|wpAny_pure h
   ·rw[bH aH]at h;exact V (bH aH)<|wpAny_bind<|wpAny_rule<|wpAny_pure h
def zR(n:Nat){k:I}(an:I.hr n k):xy prog w M n k:=
 (vr (P:=λn k=>xy prog w M n k) (Q:=λn l=>∀k∈l,xy prog w M n k) (λB B B B B B B r B h=>by cases r;exact wpAny_pyHash_int h) (λB B B B B B B B r B h=>by cases r;exact wpAny_pyHash_str h)
  (λB B ay=>QF ay) (λB B h=>absurd h b5) λB B B h t=>mJ.mpr ⟨h,t⟩).1 k n an
def vt(prog:Program)(w:World)(M:c6)(n:Nat)(k:I):Prop:=∀{A:Around} {aB:Value->Shared->Prop} {s:Shared} {v:Value} {Q:Bool->Shared->Prop} (m:Nat),n<=m->bb s.heap M v k->Q true s->wpAny (model prog w) A (eqIsQuiet m v) Q aB s
def QG{n:Nat}(ay:∀k∈l,vt prog w M n k):vt prog w M (n+1) (.ak l):=by
 intro A aB s v Q m hm r h;cases r with
 |ak aP hn aV=>
  obtain⟨o,aA,ag,q,bC⟩:=aP;have eD:s.TypeIs (.ref _) "tuple":=⟨o,aA,ag⟩;cases m with
  |zero=>exact absurd hm<|vu n
  |succ m=>
   unfold eqIsQuiet;refine wpAny_bind<|wpAny_specialOf eD F.slot_tuple_eq.lookup ?_;refine wpAny_bind (m:=isInstance _ _)<|wpAny_isInstance eD isSubtype_tuple_tuple ?_;refine wpAny_bind (m:=seqItems? _)<|wpAny_seqItems aA bC ?_;refine wpAny_bind (m:=forIn _ _ _)<|eF Array.forIn_toList ?_;refine wpAny_forIn_list _ (λrest r aY=>r.1=none/\aY=s/\∃left,b9 s.heap M rest left/\∀k∈left,vt prog w M n k) _ ?_ ?_ _ _ ⟨rfl,rfl,l,aV,ay⟩
   ·rintro v rest r aY ⟨aH,rfl,left,ao,an⟩;cases ao with
    |cons Y xz=>exact wpAny_bind (m:=eqIsQuiet _ _)<|an _ bo m (Nat.le_of_succ_le_succ hm) Y<|wpAny_pure ⟨rfl,rfl,_,xz,λk q=>an k<|bQ _ q⟩
   ·rintro ⟨_,_⟩ aY ⟨rfl,rfl,_⟩;exact wpAny_pure h
def QH(n:Nat){k:I}(an:I.hr n k):vt prog w M n k:=
 (vr (P:=λn k=>vt prog w M n k) (Q:=λn l=>∀k∈l,vt prog w M n k) (λB B B B B B B B B r h=>by cases r;exact V (eqIsQuiet_byValue _ rfl)<|wpAny_pure h) (λB B B B B B B B B B r h=>by cases r;exact V (eqIsQuiet_byValue _ rfl)<|wpAny_pure h)
  (λB B ay=>QG ay) (λB B h=>absurd h b5) λB B B h t=>mJ.mpr ⟨h,t⟩).1 k n an
def QI{a b:Value}{x:I}{Q:Bool->Shared->Prop}(bD:A.units+64<cLine)(cb:bb s.heap M a x)(dE:bb s.heap M b y)(kn:I.key x)(mI:I.key y)(h:Q (decide<|x=y) s):wpAny (model prog w) A (eqBool a b) Q aB s:=Iv cb dE kn mI bD prog w aB Q h
noncomputable def Dh(prog:Program)(w:World)(M:c6):HeapKind prog w I where
 is:=λh k a=>bb h M (.ref a) k/\I.key k=true
 hash:=kk w
 draws:=ko
 room:=λA=>A.units+64<cLine
 inj:=λac a8=>bb.IA 6 ac.1 a8.1 ac.2 a8.2
 keeps:=λ{h aO k a d o aw ep} x aA bC aJ=>by
  refine⟨bb.keep ⟨⟨[],by simp⟩,λb o' e c q n=>⟨?_,n⟩⟩ x.1,x.2⟩;have gr:b≠d:=by rintro rfl;rw[aA]at e;cases e;obtain⟨dP,m,aC⟩:=q;rw[bC]at aC;cases aC
  rw[aJ.2 b gr];exact e
 pyHash:=λbD an h=>zR 6 an.2 an.1 (by lia) h
 eqBool:=λbD ac a8 h=>QI bD ac.1 a8.1 ac.2 a8.2 h
 quiet:=λan h=>QH 6 an.2 8 (by decide) an.1 h
def fa.at{l:List (I×I)}{p:I×I}(r:fa w h M aw l):l[i]? =some p->∃e,aw[i]? =some e/\e.hash=kk w p.1/\I.key p.1/\bb h M e.key p.1/\bb h M e.val p.2:=r.rec (motive:=λaw l B=>∀i,l[i]? =some p->∃e,aw[i]? =some e/\e.hash=kk w p.1/\I.key p.1/\bb h M e.key p.1/\bb h M e.val p.2) (λB e=>bf e) (λ{e} B B B B a b c d B ay i=>i.casesOn (λq=>⟨e,rfl,bp q▸⟨a,b,c,d⟩⟩) ay) i
def fa.d0{l:List (I×I)}{e:DictEntry}(r:fa w h M aw l):aw[i]? =some e->∃p,l[i]? =some p/\e.hash=kk w p.1/\I.key p.1/\bb h M e.key p.1/\bb h M e.val p.2:=r.rec (motive:=λaw l B=>∀i,aw[i]? =some e->∃p,l[i]? =some p/\e.hash=kk w p.1/\I.key p.1/\bb h M e.key p.1/\bb h M e.val p.2) (λB e=>bf e) (λ{_ _ k v _} a b c d B ay i=>i.casesOn (λq=>⟨(k,v),rfl,bp q▸⟨a,b,c,d⟩⟩) ay) i
noncomputable def QJ:Value->Addr
 |.ref a=>a
 |_=>0
noncomputable def zS(aw:List DictEntry)(l:List (I×I)):List (I×Addr×Value):=List.zipWith (λe p=>(p.1,QJ e.key,e.val)) aw l
def QK{l:List (I×I)}(r:fa w h M aw l):(∀p∈l,nf p.1=2)->
  aw=(zS aw l).map (entryOfKey<|Dh prog w M)/\(∀x∈zS aw l,(Dh prog w M).is h x.1 x.2.1)/\(zS aw l).map (·.1)=l.map (·.1):=by
 induction r with
 |nil=>exactλB=>⟨rfl,λB ac=>absurd ac b5,rfl⟩
 |@cons e aw k v l a b c d r ay=>
  intro ag;have i:=ay λp ab=>ag p<|bQ _ ab;have q:∀v,bb h M v k->∃x,v=.ref x:=λv c=>by
   have ae:=ag _ bo;cases c with
   |ak B cr eE=>exact⟨_,rfl⟩
   |L B=>exact⟨_,rfl⟩
   |_=>exact absurd ae nofun
  obtain⟨dp,aq,QL⟩:=e;obtain⟨x,rfl⟩:=q aq c;exact⟨congr (ai List.cons<|ai (λt=>(⟨t,.ref x,QL⟩:DictEntry)) a) i.1,λy a8=>(cS a8).elim (λe=>e▸⟨c,b⟩)<|i.2.1 y,ai (k::·) i.2.2⟩
def QM{β:Type}{l:List (I×β)}{k:I}{v:β}(hn:(l.map (·.1)).Nodup)(h:l[i]? =some (k,v)):l.findIdx? (λp=>decide<|p.1=k)=some i:=by have ah:=(h7 h).1;have he:=(h7 h).2;rw[xA];refine⟨ah,ck (ai (·.1) he),λj aQ=> ?_⟩;refine V decide_eq_true_eq λe=>dU aQ ?_;have ae:(l.map (·.1))[i]? =some k:=V ou<|V h rfl;have ID:=ea aQ ah;have Y:(l.map (·.1))[j]? =some k:=V ou<|V (jh ID)<|ai some e;exact(List.getElem?_inj (V (c2 _) ID) hn).mp<|Y.trans ae.symm
def IE{K:Type}[DecidableEq K]{knd:KeyKind prog w K}{mk:K->I}{i:K}{c:Nat}(inj:∀{a b},mk a=mk b->a=b){d:Addr}{aw:Array DictEntry}{l:List (I×I)}{Q:Option Nat->Shared->Prop}(an:∀e p,bb s.heap M e p->nf p=c->∃m,p=mk m/\knd.is m e)(dp:∀m,kk w (mk m)=knd.hash m)(ag:∀p∈l,nf p.1=c)(aS:knd.is i v)(aA:s.heap.get? d=some o)(bC:o.data=.dict aw ep)(eb:fa w s.heap M aw.toList l)(h:Q (l.findIdx? λp=>decide<|p.1=mk i) s):wpAny (model prog w) A (dictFind d v<|kk w<|mk i) Q aB s:=by
 have lr:KeysOf knd aw:=λe he=>by
  obtain⟨j,aQ⟩:=List.getElem?_of_mem<|Array.mem_toList_iff.mpr he;obtain⟨p,ab,Y,B,ba,cr⟩:=eb.d0 aQ;obtain⟨m,hm,aJ⟩:=an _ _ ba<|ag p<|dK ab;exact⟨m,aJ,Y.trans<|hm▸dp m⟩
 have ah:∀{e k},bb s.heap M e k->nf k=c->knd.is i e=decide (k=mk i):=λ{e k} r q=>by
  obtain⟨m,rfl,aJ⟩:=an _ _ r q;cases ac:knd.is i e with
  |true=>exact(ck<|ai mk<|knd.inj _ _ _ aJ ac).symm
  |false=>exact(cp λq=>Bool.noConfusion<|br ac<|inj q▸aJ).symm
 have ac:aw.findIdx? (λe=>knd.is i e.key)=l.findIdx? λp=>decide (p.1=mk i):=(List.findIdx?_toArray _ aw.toList).trans
  (eb.rec (motive:=λaw l B=>(∀p∈l,nf p.1=c)->aw.findIdx? (λe=>knd.is i e.key)=l.findIdx? λp=>decide<|p.1=mk i) (λB=>rfl)
   (λB B ba B B ay ag=>V List.findIdx?_cons (V List.findIdx?_cons (V (ay λp ab=>ag p (bQ _ ab)) (V (ah ba (ag _ bo)) rfl)))) ag)
 exact V (dp i)<|wpAny_dictFind_of (knd:=knd) aS aA bC lr<|V ac h
def Di{d:Addr}{aw:Array DictEntry}{l:List (I×I)}{k:I}{Q:Option Nat->Shared->Prop}(bD:A.units+64<cLine)(r:bb s.heap M v k)(an:e3 l k)(aA:s.heap.get? d=some o)(bC:o.data=.dict aw ep)(eb:fa w s.heap M aw.toList l)(hn:(l.map (·.1)).Nodup)(h:Q (l.findIdx? λp=>decide<|p.1=k) s):wpAny (model prog w) A (dictFind d v<|kk w k) Q aB s:=by
 have aq:=bP an;have ag:∀p∈l,nf p.1=nf k:=λp ab=>beq_iff_eq.mp<|hg (cO an) p ab;cases r with
 |none=>exact b7 aq
 |bool b=>exact b7 aq
 |L B=>exact b7 aq
 |int i t=>
  exact IE (knd:=intKind prog w) (mk:=.int) (c:=0) (λe=>I.int.inj e) (λe p r q=>by
   cases r with
   |int m t=>exact⟨m,rfl,intKind_is prog w m t⟩
   |_=>exact Nat.noConfusion q) (λB=>rfl) ag (intKind_is prog w i t) aA bC eb h
 |str x t=>
  exact IE (knd:=PySem.strKind prog w) (mk:=.str) (c:=1) (λe=>I.str.inj e) (λe p r q=>by
   cases r with
   |str m t=>exact⟨m,rfl,PySem.strKind_is prog w m t⟩
   |int B cr=>exact absurd q Nat.zero_ne_one
   |_=>exact Nat.noConfusion (nl q)) (λB=>rfl) ag (PySem.strKind_is prog w x t) aA bC eb h
 |@ak a vs t aP zT aV=>
  obtain⟨ia,gE,kp⟩:=QK (prog:=prog) eb ag;have ac:l.findIdx? (λp=>decide<|p.1=I.ak t)=(zS aw.toList l).findIdx? λp=>decide (p.1=I.ak t):=(List.findIdx?_map (f:=λx:I×I=>x.1) (p:=λx=>decide<|x=I.ak t)).symm.trans<|(ai (List.findIdx? λx=>decide<|x=I.ak t) kp.symm).trans List.findIdx?_map
  rw[ac]at h;refine wpAny_dictFind_heap (knd:=Dh prog w M) (k:=.ak t) bD ⟨.ak aP zT aV,aq⟩ aA bC ia gE (kp▸hn) (λrS=> ?_) λj p aQ=>QM (kp▸hn) aQ▸h;refine V (List.findIdx?_eq_none_iff.mpr λp ab=>cp λe=> ?_).symm h;obtain⟨j,aQ⟩:=List.getElem?_of_mem ab;exact rS j p.2<|e▸aQ
end
section
def Dj{l:List (I×I)}{k:I}(h:l.findIdx? (λp=>decide<|p.1=k)=none):cE l k=none:=ai (Option.map λp:I×I=>p.2)<|List.find?_eq_none.mpr λp ab=>mH.mp<|List.findIdx?_eq_none_iff.mp h p ab
def Dk{l:List (I×I)}{k:I}(h:l.findIdx? (λp=>decide<|p.1=k)=some i):∃v,l[i]? =some (k,v)/\cE l k=some v:=
 (xA.mp h).elim λah q=>⟨l[i].2,(jh ah).trans<|ai some<|Prod.ext (dx q.1) rfl,
  ai (Option.map λp:I×I=>p.2) ((List.find?_eq_some_iff_getElem (p:=λp:I×I=>decide (p.1=k))).mpr ⟨q.1,i,ah,rfl,λj aQ=>ai not (mH.mpr (q.2 j aQ))⟩)⟩
def QN{d:Addr}{aw:Array DictEntry}{n:Nat}{c:Value}{f:Array DictEntry->Array DictEntry}(aA:h.get? d=some {cls:=c,data:=.dict aw n}):
  (h.update d<|Obj.mapDict f).get? d=some {cls:=c,data:=.dict (f aw) n}/\Heap.SameBut d h (h.update d<|Obj.mapDict f):=
 ⟨Heap.get?_update_self _ aA rfl,Heap.SameBut.update ..⟩
def IF{d:Addr}{aw:Array DictEntry}{n:Nat}{c:Value}{f:Array DictEntry->Array DictEntry}(aA:h.get? d=some {cls:=c,data:=.dict aw n}):
  (h.update d<|Obj.mapDictKeys f).get? d=some {cls:=c,data:=.dict (f aw)<|n+1}/\Heap.SameBut d h (h.update d<|Obj.mapDictKeys f):=
 ⟨Heap.get?_update_self _ aA rfl,Heap.SameBut.update ..⟩
def fa.zN{e:DictEntry}{k v:I}{l:List (I×I)}(r:fa w h M aw l)(a:e.hash=kk w k)(b:I.key k)(c:bb h M e.key k)(d:bb h M e.val v):fa w h M (aw++[e]) (l++[(k,v)]):=r.rec (motive:=λaw l B=>fa w h M (aw++[e])<|l++[(k,v)]) (.cons a b c d .nil) λa b c d B ay=>.cons a b c d ay
def zU{k v:I}{l:List (I×I)}(hn:(((k,v)::l).map (·.1)).Nodup):∀p∈l,p.1≠k:=λB ab e=>(hH hn).1<|i1 ⟨_,ab,e⟩
def IG{α β:Type}{f:α->β}{a:α}{b:β}{l:List α}{m:List β}(h:f a=b)(k:l.map f=m):(a::l).map f=b::m:=congr (ai List.cons h) k
def fa.modify{x:Value}{k v u:I}{l:List (I×I)}(r:fa w h M aw l):∀{i:Nat},l[i]? =some (k,u)->(l.map (·.1)).Nodup->bb h M x v->
  fa w h M (aw.modify i λe=>{e with val:=x}) (l.map λp=>if p.1=k then(p.1,v)else p):=by
 induction r with
 |nil=>exactλe=>bf e
 |@cons e aw cy kq l a b c d r ay=>
  intro i e hn q;cases i with
  |zero=>obtain⟨rfl,rfl⟩:=kO<|bp e;have aD:((cy,kq)::l).map (λp=>if p.1=cy then(p.1,v)else p)=(cy,v)::l:=IG (show(if cy=cy then(cy,v)else(cy,kq))=_ from bh rfl)<|(tL (g:=id) λp ab=>bH<|zU hn p ab).trans<|List.map_id _;exact V aD<|.cons a b c q r
  |succ i=>
   have aD:((cy,kq)::l).map (λp=>if p.1=k then(p.1,v)else p)=(cy,kq)::l.map λp=>if p.1=k then(p.1,v)else p:=IG (show(if cy=k then(cy,v)else(cy,kq))=_ from bH λe'=>zU hn _ (dK e) e'.symm) rfl
   exact V aD<|.cons a b c d<|ay e (hH hn).2 q
def fa.erase{k u:I}{l:List (I×I)}(r:fa w h M aw l):∀{i:Nat},l[i]? =some (k,u)->(l.map (·.1)).Nodup->fa w h M (aw.eraseIdx i) (mE l k):=by
 induction r with
 |nil=>exactλe=>bf e
 |@cons e aw cy kq l a b c d r ay=>
  intro i e hn;cases i with
  |zero=>obtain⟨rfl,rfl⟩:=kO<|bp e;exact V (show mE ((cy,kq)::l) cy=l from(vv (p:=λp:I×I=>decide<|p.1≠cy) λe=>(dx e:cy≠cy) rfl).trans<|List.filter_eq_self.mpr λp ab=>ck<|zU hn p ab) r
  |succ i=>exact V (show mE ((cy,kq)::l) k=(cy,kq)::mE l k from xB<|ck (p:=cy≠k) λe'=>zU hn _ (dK e) e'.symm)<|.cons a b c d<|ay e (hH hn).2
def QO{l:List (I×I)}{k v:I}(hn:(l.map (·.1)).Nodup):((fB l k v).map (·.1)).Nodup:=by
 by_cases dp:(cE l k).isSome=true
 ·refine V (show fB l k v=_ from bh dp)<|V jB<|V (tL λp B=> ?_) hn;by_cases e:p.1=k
  ·show(if p.1=k then(p.1,v)else p).1=p.1;rw[bh e]
  ·show(if p.1=k then(p.1,v)else p).1=p.1;rw[bH e]
 ·refine V (show fB l k v=_ from bH dp)<|V (iI)<|kU.mpr ⟨hn,tM _ _,λa aU b aj e=>dp ?_⟩;obtain⟨p,ab,rfl⟩:=e4 aU;exact V Option.isSome_map<|List.find?_isSome.mpr ⟨p,ab,ck<|e.trans<|bR aj⟩
def QP{l:List (I×I)}{k:I}(hn:(l.map (·.1)).Nodup):((mE l k).map (·.1)).Nodup:=((List.filter_sublist).map _).nodup hn
def QQ(l:List (I×I))(k v:I):(fB l k v).length<=l.length+1:=by
 by_cases dp:(cE l k).isSome=true
 ·exact V (show fB l k v=_ from bh dp)<|V (c2 _)<|cT _ _
 ·exact V (show fB l k v=_ from bH dp)<|cM eo
def QR(l:List (I×I))(k:I):(mE l k).length<=l.length:=List.length_filter_le ..
section
variable{au:Heap}{a b:Value}{x k:I}{D:Addr}{aw:Array DictEntry}{l:List (I×I)}
def zV(h:e3 l k):I.key k:=bP h
def IH{fC:DictEntry}(h:aw.toList[i]? =some fC):aw[i]? =some fC:=br Array.getElem?_toList h
def vw(h:A.units+65<cLine):A.in1.units+64<cLine:=show A.units+1+64<cLine from h
def zW{Q:Option Value->Shared->Prop}(bD:A.units+64<cLine)(r:bb s.heap M v k)(an:e3 l k)(aA:s.heap.get? D=some o)(bC:o.data=.dict aw ep)(eb:fa w s.heap M aw.toList l)(hn:(l.map (·.1)).Nodup)(h:∀u,lo s.heap M u (cE l k)->Q u {s with toks:=s.toks+ko k}):wpAny (model prog w) A (dictGet D v) Q aB s:=by
 refine wpAny_holding (vs:=[v])<|wpAny_bind<|zR 6 (zV an) r (C6 bD)<|wpAny_bind<|Di (s:={s with toks:=s.toks+ko k}) bD r an aA bC eb hn ?_;cases ah:l.findIdx? λp=>decide (p.1=k)with
 |none=>exact wpAny_pure<|h none<|V (Dj ah) trivial
 |some i=>obtain⟨q,aC,e⟩:=Dk ah;obtain⟨fC,he,B,cr,eE,aS⟩:=eb.at aC;exact wpAny_bind<|wpAny_dictEntries (s:={s with toks:=s.toks+ko k}) aA bC<|V (IH he)<|wpAny_pure<|h (some fC.val)<|V e aS
def zX{au:Heap}(aJ:∃o,au.get? sysModules=some o)(h:au.get? D=none):(D==sysModules)=false:=aJ.elim λB aA=>beq_eq_false_iff_ne.mpr λe=>bf<|br h<|e▸aA
def II{Q:Prop}{o:Option I}{u:Option Value}(r:lo h M u o)(dO:∀v x,u=some v->o=some x->bb h M v x->Q)(bz:u=none->o=none->Q):Q:=by
 cases u with
 |none=>
  cases o with
  |none=>exact bz rfl rfl
  |some B=>exact r.elim
 |some v=>
  cases o with
  |none=>exact r.elim
  |some x=>exact dO v x rfl rfl r
def IJ{Q:Bool->Shared->Prop}(bD:A.units+65<cLine)(r:bb s.heap M v k)(an:e3 l k)(bC:(D==sysModules)=false)(aA:s.heap.get? D=some {cls:=.type "dict",data:=.dict aw ep})(eb:fa w s.heap M aw.toList l)(hn:(l.map (·.1)).Nodup)(h:Q (cE l k).isSome {s with toks:=s.toks+ko k}):
  wpAny (model prog w) A (contains (.ref D) v) Q aB s:=by
 have eD:s.TypeIs (.ref D) "dict":=⟨_,aA,rfl⟩;refine wpAny_holding (vs:=[_,_])<|wpAny_bind<|wpAny_specialOf eD slot_dict_contains.lookup ?_;refine wpAny_bind (m:=callSpecialUnlessNone? _ _ _ _) (wpAny_callSpecialUnlessNone?_slot (name:=aa "__contains__") eD slot_dict_contains
  (wpAny_call_entry slot_dict_contains eD entry_dict_contains ?_ (args_dict_contains _ _)))
 refine wpAny_bind (m:=dictGet D v)<|zW (A:=A.in1) (vw bD) r an aA rfl eb hn λu qA=> ?_;refine II qA (λB B e aF B=> ?_) λe aF=> ?_
 ·subst e;rw[aF]at h;exact wpAny_pure ⟨_,rfl,wpAny_truthy_bool h⟩
 ·subst e;rw[aF]at h;exact wpAny_bind (m:=Builtin.Dict.pendingKey? D v)<|wpAny_pendingKey_other bC<|wpAny_pure ⟨_,rfl,wpAny_truthy_bool h⟩
def QS(bD:A.units+65<cLine)(r:bb s.heap M v k)(an:e3 l k)(aA:s.heap.get? D=some {cls:=.type "dict",data:=.dict aw ep})(eb:fa w s.heap M aw.toList l)(hn:(l.map (·.1)).Nodup)(bA:cE l k=some x)(h:∀u,bb s.heap M u x->Q u {s with toks:=s.toks+ko k}):
  wpAny (model prog w) A (getItem (.ref D) v) Q aB s:=by
 have eD:s.TypeIs (.ref D) "dict":=⟨_,aA,rfl⟩;refine wpAny_holding (vs:=[_,_])<|wpAny_bind<|wpAny_sequenceKey eD rfl ?_;refine wpAny_bind (m:=callSpecial? _ _ _) (wpAny_callSpecial?_slot (name:=aa "__getitem__") eD slot_dict_getitem
  (wpAny_call_entry slot_dict_getitem eD entry_dict_getitem ?_ (args_dict_getitem _ _)))
 refine wpAny_bind (m:=dictGet D v)<|zW (A:=A.in1) (vw bD) r an aA rfl eb hn λu qA=> ?_;obtain⟨Dl,rfl,aH⟩:=(bA▸qA).Df;exact wpAny_pure ⟨Dl,rfl,wpAny_pure<|h Dl aH⟩
def QT(bC:(D==sysModules)=false):MeetsIn prog w (Builtin.«dict.get» ⟨[.ref D,v],[]⟩) (λA R s=>A.units+65<cLine/\∃(M:c6) (k:I) (l:List (I×I)) (aw:Array DictEntry) (ep:Nat),
   bb s.heap M v k/\e3 l k/\s.heap.get? D=some {cls:=.type "dict",data:=.dict aw ep}/\fa w s.heap M aw.toList l/\(l.map (·.1)).Nodup/\
   ∀u,lo s.heap M u (cE l k)->R (.ok (.ret (u.getD .none))) {s with toks:=s.toks+ko k}):=
 .of_wp λA R s ⟨bD,M,k,l,aw,ep,q⟩=>wpAny_bind (m:=dictGet D v) (zW (A:=A.in1) (vw bD) q.1 q.2.1 q.2.2.1 rfl q.2.2.2.1 q.2.2.2.2.1 λu qA=>by
  cases u with
  |some u=>exact wpAny_pure ⟨u,rfl,q.2.2.2.2.2 (some u) qA⟩
  |none=>exact wpAny_bind (m:=Builtin.Dict.missed D v) (wpAny_missed_other bC (wpAny_pure ⟨.none,rfl,q.2.2.2.2.2 none qA⟩)))
def QU(bC:(D==sysModules)=false):MeetsIn prog w (Builtin.«dict.get» ⟨[.ref D,v,b],[]⟩) (λA R s=>A.units+65<cLine/\∃(M:c6) (k:I) (l:List (I×I)) (aw:Array DictEntry) (ep:Nat),
   bb s.heap M v k/\e3 l k/\s.heap.get? D=some {cls:=.type "dict",data:=.dict aw ep}/\fa w s.heap M aw.toList l/\(l.map (·.1)).Nodup/\
   ∀u,lo s.heap M u (cE l k)->R (.ok (.ret (u.getD b))) {s with toks:=s.toks+ko k}):=
 .of_wp λA R s ⟨bD,M,k,l,aw,ep,q⟩=>wpAny_bind (m:=dictGet D v) (zW (A:=A.in1) (vw bD) q.1 q.2.1 q.2.2.1 rfl q.2.2.2.1 q.2.2.2.2.1 λu qA=>by
  cases u with
  |some u=>exact wpAny_pure ⟨u,rfl,q.2.2.2.2.2 (some u) qA⟩
  |none=>exact wpAny_bind (m:=Builtin.Dict.missed D v) (wpAny_missed_other bC (wpAny_pure ⟨b,rfl,q.2.2.2.2.2 none qA⟩)))
def Dm(aA:h.get? D=some {cls:=.type "dict",data:=.dict aw ep})(aJ:Heap.SameBut D h aO):g4 h M aO M:=⟨⟨[],(ew _).symm⟩,λb o e c B n=>⟨(aJ.2 b λq=>(show¬Value.type "dict"=.type "tuple" by decide)<|(ai Obj.cls<|bp<|br aA<|q▸e).trans c).trans e,n⟩⟩
def IK(eb:fa w s.heap M aw.toList l):aw.size=l.length:=eb.length
def IL:16000000<=sizeLine:=by decide
def QV{Q:Unit->Shared->Prop}(bD:A.units+64<cLine)(r:bb s.heap M v k)(tN:bb s.heap M u x)(an:e3 l k)(aA:s.heap.get? D=some {cls:=.type "dict",data:=.dict aw ep})(eb:fa w s.heap M aw.toList l)(hn:(l.map (·.1)).Nodup)(ao:l.length<16000000)(h:∀aO ji ls t,aO.get? D=some {cls:=.type "dict",data:=.dict ji ls}->fa w aO M ji.toList (fB l k x)->Heap.SameBut D s.heap aO->Q () {s with heap:=aO,toks:=t}):
  wpAny (model prog w) A (dictSet D v u) Q aB s:=by
 refine wpAny_holding (vs:=[_,_])<|wpAny_bind<|zR 6 (zV an) r (C6 bD) ?_;refine wpAny_holding (vs:=[_,_])<|wpAny_bind<|Di (s:={s with toks:=s.toks+ko k}) bD r an aA rfl eb hn ?_;cases ah:l.findIdx? λp=>decide (p.1=k)with
 |none=>obtain⟨aD,aF⟩:=IF (f:=λaw=>aw.push ⟨kk w k,v,u⟩) aA;have K:=Dm (M:=M) aA aF;refine wpAny_bind<|wpAny_rule<|wpAny_updateDictKeys (hz:=Qe (IK eb) ao IL) (s:={s with toks:=s.toks+ko k}) aA rfl<|h _ _ _ _ aD ?_ aF;exact V (show fB l k x=_ from bH (by rw[Dj ah];exact nofun))<|V Array.toList_push<|(eb.keep K).zN rfl (zV an) (r.keep K)<|tN.keep K
 |some i=>obtain⟨q,aC,e⟩:=Dk ah;obtain⟨aD,aF⟩:=QN (f:=λaw=>aw.modify i λe=>{e with val:=u}) aA;have K:=Dm (M:=M) aA aF;refine wpAny_bind<|wpAny_rule<|wpAny_bind<|wpAny_updateDict (s:={s with toks:=s.toks+ko k}) aA rfl<|wpAny_point<|h _ _ _ _ aD ?_ aF;exact V (show fB l k x=_ from bh<|V e rfl)<|V Array.toList_modify<|(eb.keep K).modify aC hn<|tN.keep K
def QW{Q:Unit->Shared->Prop}(bD:A.units+65<cLine)(r:bb s.heap M v k)(tN:bb s.heap M u x)(an:e3 l k)(aA:s.heap.get? D=some {cls:=.type "dict",data:=.dict aw ep})(eb:fa w s.heap M aw.toList l)(hn:(l.map (·.1)).Nodup)(ao:l.length<16000000)(h:∀aO ji ls t,aO.get? D=some {cls:=.type "dict",data:=.dict ji ls}->fa w aO M ji.toList (fB l k x)->Heap.SameBut D s.heap aO->Q () {s with heap:=aO,toks:=t}):
  wpAny (model prog w) A (setItem (.ref D) v u) Q aB s:=by
 have eD:s.TypeIs (.ref D) "dict":=⟨_,aA,rfl⟩;refine wpAny_holding (vs:=[_,_,_])<|wpAny_bind<|wpAny_sequenceKey eD rfl ?_;refine wpAny_bind (m:=callSpecial? _ _ _) (wpAny_callSpecial?_slot (name:=aa "__setitem__") eD slot_dict_setitem
  (wpAny_call_entry slot_dict_setitem eD entry_dict_setitem ?_ (args_dict_setitem _ _ _)))
 refine wpAny_bind (m:=Builtin.Dict.notOrdered "__setitem__" ⟨[.ref D,v,u],[]⟩)<|wpAny_notOrdered_dict eD ?_;exact wpAny_bind (m:=dictSet D v u)<|QV (A:=A.in1) (vw bD) r tN an aA eb hn ao λaO ji ls t Y ae ba=>wpAny_pure ⟨.none,rfl,wpAny_pure<|h aO ji ls t Y ae ba⟩
def QX{Q:Option DictEntry->Shared->Prop}(bD:A.units+64<cLine)(r:bb s.heap M v k)(an:e3 l k)(bA:(cE l k).isSome=true)(aA:s.heap.get? D=some {cls:=.type "dict",data:=.dict aw ep})(eb:fa w s.heap M aw.toList l)(hn:(l.map (·.1)).Nodup)(ao:l.length<=16000000)(h:∀aO ji ls t e,aO.get? D=some {cls:=.type "dict",data:=.dict ji ls}->fa w aO M ji.toList (mE l k)->Heap.SameBut D s.heap aO->Q (some e) {s with heap:=aO,toks:=t}):
  wpAny (model prog w) A (Builtin.Dict.takeOut D v) Q aB s:=by
 refine wpAny_holding (vs:=[_])<|wpAny_bind<|zR 6 (zV an) r (C6 bD)<|wpAny_bind<|Di (s:={s with toks:=s.toks+ko k}) bD r an aA rfl eb hn ?_;cases ah:l.findIdx? λp=>decide (p.1=k)with
 |none=>rw[Dj ah]at bA;exact Bool.noConfusion bA
 |some i=>obtain⟨q,aC,e⟩:=Dk ah;obtain⟨fC,he,B⟩:=eb.at aC;obtain⟨aD,aF⟩:=IF (f:=λaw=>aw.eraseIdxIfInBounds i) aA;refine wpAny_bind<|wpAny_dictEntries (s:={s with toks:=s.toks+ko k}) aA rfl<|V (IH he) ?_;refine wpAny_bind<|wpAny_updateDictKeys (hz:=tB (IK eb) ao IL) (s:={s with toks:=s.toks+ko k}) aA rfl<|wpAny_pure<|h _ _ _ _ fC aD ?_ aF;exact V Array.toList_eraseIdxIfInBounds<|(eb.keep<|Dm (M:=M) aA aF).erase aC hn
def QY{Q:Unit->Shared->Prop}(bD:A.units+65<cLine)(r:bb s.heap M v k)(an:e3 l k)(bA:(cE l k).isSome=true)(aA:s.heap.get? D=some {cls:=.type "dict",data:=.dict aw ep})(eb:fa w s.heap M aw.toList l)(hn:(l.map (·.1)).Nodup)(ao:l.length<=16000000)(h:∀aO ji ls t,aO.get? D=some {cls:=.type "dict",data:=.dict ji ls}->fa w aO M ji.toList (mE l k)->Heap.SameBut D s.heap aO->Q () {s with heap:=aO,toks:=t}):
  wpAny (model prog w) A (delItem (.ref D) v) Q aB s:=by
 have eD:s.TypeIs (.ref D) "dict":=⟨_,aA,rfl⟩;refine wpAny_delItem_slot eD rfl F.slot_dict_delitem<|wpAny_call_entry F.slot_dict_delitem eD F.entry_dict_delitem ?_<|F.args_dict_delitem_2 _ _;refine wpAny_bind (m:=Builtin.Dict.dictSlotArgs "__delitem__" ⟨[.ref D,v],[]⟩)<|wpAny_bind<|wpAny_notOrdered_dict eD<|wpAny_pure ?_;exact wpAny_bind (m:=Builtin.Dict.takeOut D v)<|QX (A:=A.in1) (vw bD) r an bA aA eb hn ao λaO ji ls t e Y ae ba=>wpAny_bind<|wpAny_letGo<|wpAny_pure ⟨.none,rfl,h aO ji ls t Y ae ba⟩
end
end
section
structure Ctx where
 prog:Program
 w:World
 N:vo
 au:Heap
structure bY(c:Ctx)(W:List Addr)(s:Shared)(M:c6)(aY:Shared)(bt:c6)(S:St):Prop where
 tr:h8 W s.heap M aY.heap bt
 ok:bJ c.w c.N c.au aY.heap bt S
 gens:aY.gens=s.gens
 drawn:aY.drawn=s.drawn
 os:aY.os=s.os
section
variable{c:Ctx}
def bY.refl(O:bJ c.w c.N c.au s.heap M C):bY c W s M s M C:=⟨.refl ..,O,rfl,rfl,rfl⟩
def bY.trans(x:bY c W s M aY bt S)(y:bY c W aY bt zY tH ov):bY c W s M zY tH ov:=⟨x.tr.trans y.tr,y.ok,y.gens.trans x.gens,y.drawn.trans x.drawn,y.os.trans x.os⟩
def bY.cj(x:bY c W s M aY bt S)(h:∀b∈W,b∈km):bY c km s M aY bt S:=⟨x.tr.cj h,x.ok,x.gens,x.drawn,x.os⟩
def bY.ib(x:bY c [] s M aY bt S):bY c W s M aY bt S:=x.cj λB h=>nomatch h
def bY.tI(x:bY c W s M aY bt S)(hv:∀b∈W,s.heap.get? b=none):bY c [] s M aY bt S:=⟨x.tr.tI hv,x.ok,x.gens,x.drawn,x.os⟩
def bY.keep(x:bY c [] s M aY bt S):g4 s.heap M aY.heap bt:=x.tr.Qp
def bY.oo(O:bJ c.w c.N c.au s.heap M C)(g:vq s aY):bY c W s M aY M C:=by obtain⟨aO,tk,rfl,k⟩:=g;exact⟨.h9 k,O.oo k,rfl,rfl,rfl⟩
def bY.jz(O:bJ c.w c.N c.au s.heap M C)(t:Nat):bY c W s M {s with toks:=t} M C:=.oo O<|.jz s t
def bY.push(O:bJ c.w c.N c.au s.heap M C)(o:Obj)(t:Nat):bY c W s M {s with heap:=s.heap.push o,toks:=t} M C:=.oo O ⟨_,t,rfl,λb x e=>Heap.get?_push_of_some o e⟩
def zZ{b:Addr}(k:h.objs.size<=b):h.get? b=none:=by
 cases e:h.get? b with
 |none=>rfl
 |some o=>exact absurd (Heap.lt_size e)<|lu k
def rT(h:Heap):h.get? h.objs.size=none:=zZ<|gF _
def bJ.tO{au:Heap}(x:bJ w N au h M C){b:Addr}(k:h.get? b=none):b∉foot M/\au.get? b=none:=by
 refine⟨λhm=>(x.alive _ hm).elim λo aA=>bf<|br k aA,?_⟩;cases q:au.get? b with
 |none=>rfl
 |some o=>exact bf<|br k<|x.keep _ _ q
def bY.new(O:bJ c.w c.N c.au s.heap M C){x:b3}(hf:o.isFreed=false){t:Nat}(r:g4 s.heap M (s.heap.push o) (M++[(s.heap.objs.size,none)])->om c.w c.N (s.heap.push o) (M++[(s.heap.objs.size,none)]) (s.heap.objs.size,none) x):
  bY c W s M {s with heap:=s.heap.push o,toks:=t} (M++[(s.heap.objs.size,none)]) (C++[x]):=by
 have k:∀b y,s.heap.get? b=some y->(s.heap.push o).get? b=some y:=λb y e=>Heap.get?_push_of_some o e;have hn:∀b∈foot [(s.heap.objs.size,(none:Option Addr))],s.heap.get? b=none:=λb aj=>V (bR aj)<|rT _;exact⟨⟨⟨_,rfl,λb aj=>.inl<|hn b aj⟩,λb y e B B=>k b y e,λb y e B=>⟨y,k b y e⟩,λB b y B B e=>k b y e⟩,O.push hn (tM _ _) k r O.alive,rfl,rfl,rfl⟩
def bb.last(O:bJ c.w c.N c.au s.heap M C):bb h (M++[p]) (.ref p.1) (.L C.length):=.L<|O.len▸List.getElem?_concat_length
def IM{d:Addr}(h:d=p.1\/p.2=some d):d∈p.1::p.2.toList:=h.elim (λe=>e▸bo) λe=>bQ _<|Option.mem_toList.mpr e
def bY.de(O:bJ c.w c.N c.au s.heap M C){qB:b3}{d:Addr}{t:Nat}(ab:M[i]? =some p)(QZ:i≠0)(bC:d=p.1\/p.2=some d)(aJ:Heap.SameBut d s.heap aO)(hex:∃o,aO.get? d=some o)(fL:∀o,s.heap.get? d=some o->o.cls≠.type "tuple")(r:g4 s.heap M aO M->om c.w c.N aO M p qB):
  bY c W s M {s with heap:=aO,toks:=t} M (C.set i qB):=by
 have hm:d∈foot M:=zM ab<|IM bC;exact⟨⟨⟨[],(ew _).symm,λB h=>absurd h b5⟩,λb o e n B=>(aJ.2 b λq=>n<|q▸hm).trans e,
  λb o e B=>if aj:b=d then aj▸hex else⟨o,(aJ.2 b aj).trans e⟩,
  λq b o aC aj e=>(aJ.2 b λw=>Ij O.nodup ab aC QZ (w▸IM bC) aj).trans e⟩,
  O.set ab (W:=[d]) (λb aj=>bR aj▸bC) (λb aj o e c B=>fL o (bR aj▸e) c) (λb o e n=>(aJ.2 b λq=>n (vx.mpr q)).trans e) r,rfl,rfl,rfl⟩
end
section
variable{c:Ctx}{a b:Value}{x:I}
abbrev eN(c:Ctx)(s:Shared)(M:c6)(S:St)(z:I)(Q:Value->Shared->Prop):Prop:=∀aY bt v,bY c [] s M aY bt S->bb aY.heap bt v z->Q v aY
def jY:(16000000:Nat)<=sizeLine:=by decide
theorem IN{i:Int}(h: -lim<i/\i<lim)(h0:i≠0):i.natAbs.log2<63:=(Nat.log2_lt<|by lia).mpr (by delta lim at h;lia)
def Q0{i:Int}(h: -lim<i/\i<lim):Builtin.Int.intBits i<=64:=by
 delta Builtin.Int.intBits
 split
 ·decide
 ·rename_i h0
  exact Nat.succ_le_of_lt<|ow<|IN h λe=>h0<|beq_iff_eq.mpr e
def bb.ox(r:bb h M v (.ak l)):∃t vs,v=.ref t/\h.IsTuple t vs.toArray/\t∉foot M/\l.length<=16000000/\b9 h M vs l/\vs.length=l.length:=by
 cases r with
 |ak aP hn aV=>exact⟨_,_,rfl,aP,hn.1,hn.2,aV,aV.length⟩
def z0(O:bJ c.w c.N c.au s.heap M C)(aV:b9 s.heap M vs l)(ao:l.length<=16000000)(t n:Nat)(aA:o={cls:=.type "tuple",data:=.seq vs.toArray n}):
  bY c W s M {s with heap:=s.heap.push o,toks:=t} M C/\bb (s.heap.push o) M (.ref s.heap.objs.size) (.ak l):=by
 subst aA;have k:∀b y,s.heap.get? b=some y->(s.heap.push {cls:=.type "tuple",data:=.seq vs.toArray n}).get? b=some y:=λb y e=>Heap.get?_push_of_some _ e;exact⟨.push O _ t,.ak ⟨_,Heap.get?_push_size _ rfl,rfl,n,rfl⟩ ⟨(O.tO<|rT _).1,ao⟩<|aV.keep ⟨⟨[],(ew _).symm⟩,λb y e B B q=>⟨k b y e,q⟩⟩⟩
def Dn(O:bJ c.w c.N c.au s.heap M C)(aV:b9 s.heap M vs l)(ao:l.length<=16000000)(t n:Nat)(aA:o={cls:=.type "list",data:=.seq vs.toArray n}):
  bY c W s M {s with heap:=s.heap.push o,toks:=t} (M++[(s.heap.objs.size,none)]) (C++[.list l])/\bb (s.heap.push o) (M++[(s.heap.objs.size,none)]) (.ref s.heap.objs.size) (.L C.length):=by
 subst aA;refine⟨.new O rfl λK=>⟨rfl,vs.toArray,n,Heap.get?_push_size _ rfl,aV.keep K,ao⟩,bb.last (p:=(s.heap.objs.size,none)) O⟩
noncomputable def Q1:ob->Operator
 |.add=>.Add|.sub=>.Sub|.mul=>.Mult|.fdiv=>.FloorDiv|.mD=>.Mod|.dj=>.BitAnd|.ip=>.BitOr|.oc=>.RShift
def IO{o:Operator}(aA:tC o=some op):o=Q1 op:=by
 cases o<;>cases aA<;>rfl
def IP{a:Nat}(h:vi C a=some l):C[a]? =some (.list l):=by
 delta vi at h;cases e:C[a]?with
 |none=>rw[e]at h;exact bf h
 |some o=>
  rw[e]at h;cases o with
  |list m=>exact ai (λl=>some<|b3.list l)<|bp h
  |_=>exact bf h
def z1{x:Option (I×St)}{r:I×St}(h:C2 op x=some r):op=.add/\x=some r:=by
 cases op<;>first|exact⟨rfl,h⟩|contradiction
def Q2{x:I}{r:I×St}(e:iF op x y C=some r)(dJ:∀a b,x=.int a->y=.int b->HQ op a b C=some r->R)(fi:∀a b,x=.ak a->y=.ak b->op=.add->(if a.length+b.length<=16000000 then some (I.ak<|a++b,C)else none)=some r->R)(og:∀a b l m,x=.L a->y=.L b->op=.add->C[a]? =some (.list l)->C[b]? =some (.list m)->(if l.length+m.length<=16000000 then some (I.L C.length,C++[b3.list<|l++m])else none)=some r->R):R:=by
 cases x with
 |int a=>cases y with
  |int b=>exact dJ a b rfl rfl e
  |_=>contradiction
 |ak a=>cases y with
  |ak b=>exact fi a b rfl rfl (z1 e).1 (z1 e).2
  |_=>contradiction
 |L a=>cases y with
  |L b=>exact bX (z1 e).2 λl ao aD=>bX aD λm hm aF=>og a b l m rfl rfl (z1 e).1 (IP ao) (IP hm) aF
  |_=>contradiction
 |_=>contradiction
def IQ{t:Addr}{a:Array Value}(x:h.IsTuple t a):∃kV m eS,h.get? t=some ⟨.type "tuple",kV,.seq a m,eS⟩:=by obtain⟨⟨B,kV,cr,eS⟩,aA,ag,m,bC⟩:=x;cases ag;cases bC;exact⟨kV,m,eS,aA⟩
def IR(r:b9 h M vs l)(e:vs.toArray.isEmpty):l=[]:=xu<|br r.length<|dx e
def Q3{m:List I}(O:bJ c.w c.N c.au s.heap M C)(cb:bb s.heap M a (.ak l))(dE:bb s.heap M b (.ak m))(hz:l.length+m.length<=16000000)(h:eN c s M C (.ak<|l++m) Q):wpAny (model c.prog c.w) A (binaryOp .Add a b) Q aB s:=by
 obtain⟨g5,vs,rfl,Do,du,dV,bi,aD⟩:=cb.ox;obtain⟨gu,ws,rfl,jC,n2,d1,bg,aF⟩:=dE.ox;obtain⟨Dp,er,Dq,hh⟩:=IQ Do;obtain⟨Dr,cU,Ds,vy⟩:=IQ jC;have go:∀{a9:PySem.Spec},Meets (Builtin.«tuple.__add__» ⟨[.ref g5,.ref gu],[]⟩) a9->a9 A (wants Q aB) s->wpAny (model c.prog c.w) A (binaryOp .Add (.ref g5)<|.ref gu) Q aB s:=λg xC=>concat_meets ⟨_,hh,rfl⟩ ⟨_,vy,rfl⟩ noFill_tuple_add seq_tuple_add PySem.F.slot_tuple_add PySem.F.entry_tuple_add (PySem.F.args_tuple_add_2 _ _) g xC
 by_cases z2:vs.toArray.isEmpty=true
 ·exact go (tuple_addW0 g5 gu vs.toArray ws.toArray er cU Dp Dr Dq Ds z2) ⟨hh,vy,h _ M _ (.refl O) (V (ai (·++m)<|IR bi z2) dE)⟩
 ·by_cases Dt:ws.toArray.isEmpty=true
  ·exact go (tuple_addW1 g5 gu vs.toArray ws.toArray er cU Dp Dr Dq Ds z2 Dt) ⟨hh,vy,h _ M _ (.refl O) (V (ai (l++·)<|IR bg Dt)<|V (ew l) cb)⟩
  ·have N:=z0 (W:=[]) O (bi.append bg) (V eo hz) s.toks 0 (o:={cls:=.type "tuple",data:=.seq<|vs.toArray++ws.toArray}) (by simp);exact go (tuple_addW2 g5 gu vs.toArray ws.toArray er cU Dp Dr Dq Ds z2 Dt<|H0 aD aF hz jY) ⟨hh,vy,h _ M _ N.1 N.2⟩
theorem Q4{o:Operator}(K:en d A)(O:bJ c.w c.N c.au s.heap M C)(cb:bb s.heap M a x)(dE:bb s.heap M b y)(e:iF op x y C=some (z,S))(aA:tC o=some op)(h:eN c s M S z Q):wpAny (model c.prog c.w) A (binaryOp o a b) Q aB s:=by
 rw[IO aA];refine Q2 e (λi j ac a8 e=> ?_) (λl m ac a8 i2 e=> ?_) λi j l m ac a8 i2 ao hm e'=> ?_
 ·subst ac a8;have fG:∀{n:Int} {tk:Tok} {t:Nat},some (I.int n,C)=some (z,S)->Q (.int n tk) {s with toks:=t}:=λe=>h _ M _ ((dD e).2▸.jz O _) ((dD e).1▸.int _ _)
  clear h
  cases cb;cases dE;cases op with
  |add=>exact add_int<|fG e
  |sub=>exact sub_int<|fG e
  |mul=>exact dZ e λaj e=>PyProof.Rows.mul_int (fG e)<|.of_left<|Q0 ⟨aj.1,aj.2.1⟩
  |fdiv=>exact dZ e λaj e=>PyProof.Rows.floordiv_int (by lia) (fG e) (.inl<|PyProof.noPylong_of_log2<|c7 (IN ⟨by delta lim;lia,aj.2⟩<|by lia)<|by decide)
  |mD=>exact dZ e λaj e=>PyProof.Rows.mod_int' (by lia)<|fG e
  |dj=>exact and_int<|fG e
  |ip=>exact or_int<|fG e
  |oc=>exact dZ e λaj e=>rshift_int aj<|fG e
 ·subst ac a8 i2;refine dZ e λhz e=> ?_;obtain⟨rfl,rfl⟩:=dD e;exact Q3 O cb dE hz h
 ·subst ac a8 i2;refine dZ e' λfs e=> ?_;obtain⟨rfl,rfl⟩:=dD e;obtain⟨p,vs,n,ab,rfl,B,hh,aV,cr,aD⟩:=bJ.list O ao cb;obtain⟨qy,ws,eH,pA,rfl,B,vy,xx,cr,aF⟩:=bJ.list O hm dE;have N:=Dn (W:=[]) O (vs:=vs.toList++ws.toList) (l:=l++m) (aV.append xx) (V eo fs) s.toks 0 (o:={cls:=.type "list",data:=.seq<|vs++ws}) (by simp);exact P.add_list (n:=n) (n2:=eH) hh vy (h _ _ _ N.1 N.2)<|H0 aD aF fs jY
end
end
variable{c:Ctx}
section
section
variable{a b:Value}{x:I}
def Q5{i:Int}(O:bJ c.w c.N c.au s.heap M C)(cb:bb s.heap M a (.int i))(h:eN c s M C (.int<|-i) Q):wpAny (model c.prog c.w) A (unaryOp .USub a) Q aB s:=by
 cases cb;exact PyProof.Rows.neg_int<|h _ M _ (.jz O _)<|.int _ _
def Q6{i:Int}(O:bJ c.w c.N c.au s.heap M C)(cb:bb s.heap M a (.int i))(h:eN c s M C (.int<|PySem.Builtin.bitNot i) Q):wpAny (model c.prog c.w) A (unaryOp .Invert a) Q aB s:=by
 cases cb;exact invert_int<|h _ M _ (.jz O _)<|.int _ _
def tP{Q:Bool->Shared->Prop}(O:bJ c.w c.N c.au s.heap M C)(r:bb s.heap M v x)(e:h3 C x=some t)(h:∀aY bt,bY c [] s M aY bt C->Q t aY):wpAny (model c.prog c.w) A (truthy v) Q aB s:=Iy O r e λaY g=>h aY M<|.oo O g
def Q7(O:bJ c.w c.N c.au s.heap M C)(r:bb s.heap M v x)(e:h3 C x=some t)(h:eN c s M C (.bool<|!t) Q):wpAny (model c.prog c.w) A (unaryOp .Not v) Q aB s:=not_of<|Iy O r e λaY g=>h aY M _ (.oo O g)<|.bool _
def IS{o:Operator}{i j:Int}(O:bJ c.w c.N c.au s.heap M C)(cb:bb s.heap M a (.int i))(dE:bb s.heap M b (.int j))(aU:op=.add\/op=.sub)(e:iF op (.int i) (.int j) C=some (z,S))(aA:tC o=some op)(h:eN c s M S z Q):wpAny (model c.prog c.w) A (inplaceOp o a b) Q aB s:=by
 rw[IO aA];have fG:∀{n:Int} {tk:Tok} {t:Nat},some (I.int n,C)=some (z,S)->Q (.int n tk) {s with toks:=t}:=λe=>h _ M _ ((dD e).2▸.jz O _)<|(dD e).1▸.int _ _
 clear h
 cases cb;cases dE;rcases aU with rfl|rfl
 ·exact AutoIntOps.iadd_0<|fG e
 ·exact AutoIntOps.isub_0<|fG e
def IT{e:Value->Bool}:vs.toArray.any e=vs.any e:=by simp
def z3{β:Type}{o:Option b3}{f:List I->Option β}{r:β}(e:(match o with|some (.list l)=>f l|_=>none)=some r)(k:∀l,o=some (.list l)->f l=some r->R):R:=by
 cases o with
 |none=>exact bf e
 |some o=>
  cases o with
  |list l=>exact k l rfl e
  |_=>exact bf e
def Du{β:Type}{o:Option b3}{f:List I->Option β}{g:List (I×I)->Option β}{r:β}(e:(match o with|some (.list l)=>f l|some (.dict l)=>g l|_=>none)=some r)(k:∀l,o=some (.list l)->f l=some r->R)(fi:∀l,o=some (.dict l)->g l=some r->R):R:=by
 cases o with
 |none=>exact bf e
 |some o=>
  cases o with
  |list l=>exact k l rfl e
  |dict l=>exact fi l rfl e
  |cR B cr=>exact bf e
def xD{β:Type}{f:List I->Option β}{g:Nat->List I->Option β}{r:β}(e:(match x with|.ak l=>f l|.L a=>(match C[a]?with|some (.list l)=>g a l|_=>none)|_=>none)=some r)(kt:∀l,x=.ak l->f l=some r->R)(lq:∀a l,x=.L a->C[a]? =some (.list l)->g a l=some r->R):R:=by
 cases x with
 |ak l=>exact kt l rfl e
 |L a=>exact z3 e λl ao e=>lq a l rfl ao e
 |_=>exact bf e
def Q8(e:l3 C x y=some t)(kt:∀l,y=.ak l->I.key x->I.iW l->decide (x∈l)=t->R)(lq:∀k l,y=.L k->C[k]? =some (.list l)->I.key x->I.iW l->decide (x∈l)=t->R)(kr:∀k l,y=.L k->C[k]? =some (.dict l)->e3 l x->(cE l x).isSome=t->R):R:=by
 cases y with
 |ak l=>exact dZ e λk q=>kt l rfl (bP k) (cO k)<|bp q
 |L k=>exact Du e (λl ao e=>dZ e λq w=>lq k l rfl ao (bP q) (cO q)<|bp w) λl ao e=>dZ e λq w=>kr k l rfl ao q<|bp w
 |_=>exact bf e
def IU{o:CmpOp}(aJ:∃o,c.au.get? sysModules=some o)(K:en d A)(O:bJ c.w c.N c.au s.heap M C)(cb:bb s.heap M a x)(dE:bb s.heap M b y)(e:l3 C x y=some t)(aA:o=.In\/o=.NotIn)(h:eN c s M C (.bool<|if o=.In then t else !t) Q):wpAny (model c.prog c.w) A (compareOp o a b) Q aB s:=by
 refine Q8 e (λl a8 k cy aP=> ?_) (λi l a8 ao k cy aP=> ?_) λi l a8 ao k aP=> ?_
 ·subst a8 aP;obtain⟨gu,vs,rfl,jC,n2,d1,bg,aF⟩:=dE.ox;obtain⟨e,Y,ae⟩:=IB (A:=A) (Q:=Q) cb bg k cy K.qz;have ah:∀y,y∈vs.toArray->EqAt A.in1 s y a (e y):=λy a8=>Y y<|List.mem_toArray.mp a8;rcases aA with rfl|rfl
  ·exact in_tupleAt e jC ah<|V IT<|V ae<|h _ M _ (.refl O)<|.bool _
  ·exact notIn_tupleAt e jC ah<|V IT<|V ae<|h _ M _ (.refl O)<|.bool _
 ·subst a8 aP;obtain⟨p,vs,n,ab,rfl,B,hh,aV,cr⟩:=bJ.list O ao dE;obtain⟨e,Y,ae⟩:=IB (A:=A) (Q:=Q) cb aV k cy K.qz;have ah:∀y,y∈vs->EqAt A.in1 s y a (e y):=λy a8=>Y y<|Array.mem_toList_iff.mpr a8;rw[Array.any_toList]at ae;rcases aA with rfl|rfl
  ·exact in_listAt e ⟨_,hh,rfl,n,rfl⟩ ah<|V ae<|h _ M _ (.refl O)<|.bool _
  ·exact notIn_listAt e ⟨_,hh,rfl,n,rfl⟩ ah<|V ae<|h _ M _ (.refl O)<|.bool _
 ·subst a8 aP;obtain⟨p,aw,n,ab,rfl,B,hh,eb,hn,cr⟩:=bJ.dict O ao dE;have bC:=zX aJ<|O.fR _<|tF ab;rcases aA with rfl|rfl
  ·exact wpAny_bind (m:=contains _ _)<|IJ (en.qz K) cb k bC hh eb hn<|wpAny_pure<|h _ M _ (.jz O _)<|.bool _
  ·exact wpAny_bind (m:=contains _ _)<|IJ (en.qz K) cb k bC hh eb hn<|wpAny_pure<|h _ M _ (.jz O _)<|.bool _
noncomputable def Q9:tu->CmpOp
 |.eq=>.Eq|.bu=>.NotEq|.lt=>.Lt|.le=>.LtE|.gt=>.Gt|.ge=>.GtE|.is=>.Is|.xh=>.IsNot|.dT=>.In|.jd=>.NotIn
def Ra{o:CmpOp}{op:tu}(aA:xq o=some op):o=Q9 op:=by
 cases o<;>exact bp aA▸rfl
def z4{f:Int->Int->Bool}(e:(match x,y with|.int a,.int b=>some (f a b)|_,_=>none)=some t)(k:∀i j,x=.int i->y=.int j->f i j=t->R):R:=by
 cases x with
 |int i=>
  cases y with
  |int j=>exact k i j rfl rfl<|bp e
  |_=>exact bf e
 |_=>exact bf e
def xE{p:Bool}(e:(match y with|.none=>some p|_=>none)=some t)(k:y=.none->p=t->R):R:=by
 cases y with
 |none=>exact k rfl<|bp e
 |_=>exact bf e
def vz{op:tu}{o:CmpOp}(aJ:∃o,c.au.get? sysModules=some o)(K:en d A)(O:bJ c.w c.N c.au s.heap M C)(cb:bb s.heap M a x)(dE:bb s.heap M b y)(e:eh C op x y=some t)(aA:xq o=some op)(h:eN c s M C (.bool t) Q):wpAny (model c.prog c.w) A (compareOp o a b) Q aB s:=by
 have d0:∀{ic},ic=t->Q (.bool ic) s:=λe=>V e<|h _ M _ (.refl O)<|.bool _;rw[Ra aA];cases op with
 |eq=>exact QB K O cb dE e<|d0 rfl
 |bu=>exact dt e λic e e'=>QC K O cb dE e<|d0 e'
 |dT=>exact IU aJ K O cb dE e (.inl rfl) h
 |jd=>exact dt e λic e e'=>IU aJ K O cb dE e (.inr rfl)<|e'▸h
 |lt=>exact z4 e λi j ac a8 aP=>by subst ac a8;clear h;cases cb;cases dE;exact PyProof.Rows.lt_int<|d0 aP
 |le=>exact z4 e λi j ac a8 aP=>by subst ac a8;clear h;cases cb;cases dE;exact PyProof.Rows.le_int<|d0 aP
 |gt=>exact z4 e λi j ac a8 aP=>by subst ac a8;clear h;cases cb;cases dE;exact PyProof.Rows.gt_int<|d0 aP
 |ge=>exact z4 e λi j ac a8 aP=>by subst ac a8;clear h;cases cb;cases dE;exact PyProof.Rows.ge_int<|d0 aP
 |is=>
  exact xE e λa8 aP=>by
   subst a8;clear h;cases dE;cases cb with
   |none=>exact is_none_gen<|d0 aP
   |_=>exact is_none_ne nofun (d0 aP)
 |xh=>
  exact xE e λa8 aP=>by
   subst a8;clear h;cases dE;refine isNot_none ?_;cases cb<;>exact d0 aP
theorem IV(i:Int)(n:Nat):seqIndex? i n=jX i n:=by
 delta seqIndex? jX;by_cases h:i<0
 ·simp only[h,if_true];by_cases ae:0<=i+n
  ·have:¬(0<=i/\i<(n:Int)):=by exactλae=>HX h ae.1
   simp only[this,if_false,ae,true_and,if_true,decide_true,Bool.true_and];exact V (bh (by simp;lia)) rfl
  ·have:¬(0<=i/\i<(n:Int)):=by exactλae=>HX h ae.1
   simp [this,ae]
 ·simp only[h,if_false,false_and];by_cases ae:i<(n:Int)
  ·have:0<=i:=by lia
   simp [this,ae]
  ·simp [ae]
def IW{i:Int}{n:Nat}(h:jX i n=some k):(0<=i/\i<n/\k=i.toNat)\/i<0/\0<=i+n/\k=(i+n).toNat:=by
 delta jX at h;by_cases q:0<=i/\i<n
 ·rw[bh q]at h;exact .inl ⟨q.1,q.2,(bp h).symm⟩
 ·rw[bH q]at h;exact dZ h λq e=>.inr ⟨q.1,q.2,(bp e).symm⟩
def IX(e:fq C x y=some z)(kt:∀l i,x=.ak l->y=.int i->(jX i l.length).bind (l[·]?)=some z->R)(dO:∀(s:Str) (i:Int),x=.str s->y=.int i->0<=i/\i<s.cps.size/\i<16000000->(s.cps[i.toNat]?).map (λc=>I.str ⟨#[c]⟩)=some z->R)(lq:∀k l i,x=.L k->C[k]? =some (.list l)->y=.int i->(jX i l.length).bind (l[·]?)=some z->R)(kr:∀k l,x=.L k->C[k]? =some (.dict l)->e3 l y->cE l y=some z->R):R:=by
 cases x with
 |ak l=>
  cases y with
  |int i=>exact kt l i rfl rfl e
  |_=>exact bf e
 |str s=>
  cases y with
  |int i=>exact dZ e λq e=>dO s i rfl rfl q e
  |_=>exact bf e
 |L k=>
  refine Du e (λl ao e=> ?_) λl ao e=>dZ e λq w=>kr k l rfl ao q w;cases y with
  |int i=>exact lq k l i rfl ao rfl e
  |_=>exact bf e
 |_=>exact bf e
theorem Rb(K:en d A)(O:bJ c.w c.N c.au s.heap M C)(cb:bb s.heap M a x)(dE:bb s.heap M b y)(e:fq C x y=some z)(h:eN c s M C z Q):wpAny (model c.prog c.w) A (getItem a b) Q aB s:=by
 refine IX e (λl i ac a8 e'=> ?_) (λt i ac a8 q e'=> ?_) (λk l i ac ao a8 e'=> ?_) λk l ac ao q e'=> ?_
 ·subst ac a8
  clear e;refine bX e' λk an hz=> ?_
  obtain⟨gu,vs,rfl,jC,n2,d1,bg,aF⟩:=cb.ox;cases dE;obtain⟨v,aS,aH⟩:=bg.get hz;have p:=IW an;have jY:=jY;exact PyProof.Rows.getItem_tuple (j:=k) (x:=v) jC (by lia) (by lia) (V (IV _ _)<|(ai (jX i) aF).trans an) ((List.getElem?_toArray).trans aS)<|h _ M _ (.refl O) aH
 ·subst ac a8
  clear e;refine dt e' λr aH e=> ?_
  subst e;cases cb;cases dE;exact PyProof.Rows.getItem_str (c:=r) (Bool.or_eq_false_iff.mpr ⟨cp<|by lia,cp<|by lia⟩) (V ((IV i t.length).trans<|bh ⟨q.1,q.2.1⟩) aH)<|h _ M _ (.jz O _)<|.str _ _
 ·subst ac a8
  clear e;refine bX e' λcy an hz=> ?_
  obtain⟨p,vs,n,ab,rfl,B,hh,aV,fs,aD⟩:=bJ.list O ao cb;cases dE;obtain⟨v,aS,aH⟩:=aV.get hz;have aS:vs[cy]? =some v:=br Array.getElem?_toList aS;have xF:s.heap.IsList p.1 vs:=⟨_,hh,rfl,n,rfl⟩;rcases IW an with q|q
  ·exact wpAny_getItem_list xF q.1 (by lia) (q.2.2▸aS)<|h _ M _ (.refl O) aH
  ·exact wpAny_getItem_list_neg xF q.1 (by lia) (by lia) (by rw[aD,<-q.2.2];exact aS)<|h _ M _ (.refl O) aH
 ·subst ac;obtain⟨p,aw,n,ab,rfl,B,hh,eb,hn,cr⟩:=bJ.dict O ao cb;exact QS (en.qz K) dE q hh eb hn e' λu aH=>h _ M _ (.jz O _) aH
end
end
section
section
variable{a b:Value}{x:I}
def tQ(h:Heap)(M:c6)(v:Value):Option I->Prop
 |none=>v=.none
 |some p=>bb h M v p
def tQ.keep(k:g4 h M aO bt){p:Option I}(r:tQ h M v p):tQ aO bt v p:=by
 cases p with
 |none=>exact r
 |some B=>exact bb.keep k r
def z5{cf:Option I}{i:Option Int}(e:l4 cf=some i)(r:tQ h M v cf):IsPart v i:=by
 cases cf with
 |none=>exact bp e▸(show v=.none from r)▸.none
 |some p=>
  cases p with
  |int j=>exact dZ e λB e=>by cases e;cases(show bb h M v _ from r);exact .int _ _
  |_=>exact bf e
def Dv{i:Option Int}{Q:Option Int->Shared->Prop}(aS:IsPart v i)(h:Q i s):wpAny (model c.prog c.w) A (Builtin.Slice.slicePartIndex v) Q aB s:=by
 cases aS with
 |none=>exact wpAny_pure h
 |int i t=>refine(show wpAny _ _ (if(Value.int i t==Value.none)=true then _ else _) _ _ _ from V (bH Bool.false_ne_true)<|wpAny_bind<|wpAny_specialOf (T:="int") (typeIs_int s i t) int_index ?_);exact wpAny_bind<|wpAny_of_eq (a:=i) rfl<|wpAny_pure h
noncomputable def kZ(cf:Option Int)(n:Nat):Nat:=match cf with|none=>0|some i=>ng i n
noncomputable def l5(ah:Option Int)(n:Nat):Nat:=match ah with|none=>n|some i=>ng i n
def IY(i:Int)(n:Nat):(if i<0 then max (i+n) 0 else min i n)=(ng i n:Int):=by
 delta ng;by_cases h:i<0
 ·exact V (bh h)<|V (bh h) (Int.ofNat_toNat _).symm
 ·refine V (bH h)<|V (bH h) ?_;obtain⟨k,rfl⟩:=xG<|Int.not_lt.mp h;exact(Lean.Omega.Int.ofNat_min k n).symm
def Rc(cf ah:Option Int)(n:Nat):Builtin.Slice.sliceAdjust cf ah 1 n=((kZ cf n:Int),(l5 ah n:Int)):=Prod.ext (by
  cases cf with
  |none=>rfl
  |some i=>exact IY i n) (by
  cases ah with
  |none=>rfl
  |some i=>exact IY i n)
theorem Rd(a b:Nat):Builtin.Slice.slicePlaces (a:Int) (b:Int) 1=b-a:=by
 unfold Builtin.Slice.slicePlaces;have Y:(1:Int)>0:=by exact by decide
 simp only[Y,if_true,Int.ediv_one]
 split<;>lia
def Re{eS:Addr}{n:Nat}{cf ah:Option Int}{Q:Int×Int×Nat->Shared->Prop}(aJ:s.heap.IsSliceOf eS qC tR .none)(f7:IsPart qC cf)(pu:IsPart tR ah)(h:Q ((kZ cf n:Int),1,l5 ah n-kZ cf n) s):
  wpAny (model c.prog c.w) A (Builtin.Slice.sliceApplied (.ref eS)<|pure (n:Int)) Q aB s:=by
 obtain⟨os,pC,z6,oy⟩:=aJ;refine wpAny_bind (m:=Builtin.Slice.sliceFields _)<|wpAny_bind<|wpAny_field pC oy (x:=qC) rfl<|wpAny_bind<|wpAny_field pC oy (x:=tR) rfl<|wpAny_bind<|wpAny_field pC oy (x:=.none) rfl<|wpAny_pure ?_;refine wpAny_bind (m:=Builtin.Slice.slicePartIndex _)<|Dv .none ?_;refine(show wpAny _ _ (if((1:Int)==0)=true then _ else _) _ _ s from V (bH<|by decide) ?_);refine wpAny_bind (m:=Builtin.Slice.slicePartIndex _)<|Dv f7<|wpAny_bind (m:=Builtin.Slice.slicePartIndex _)<|Dv pu<|wpAny_bind<|wpAny_pure ?_;show wpAny _ _ (match Builtin.Slice.sliceAdjust cf ah 1 (n:Int)with|(cf,ah)=>pure (cf,(1:Int),Builtin.Slice.slicePlaces cf ah 1)) _ _ s;refine V (Rc _ _ _)<|show wpAny _ _ (pure ((kZ cf n:Int),(1:Int),Builtin.Slice.slicePlaces (kZ cf n:Int) (l5 ah n:Int) 1)) _ _ s from V (Rd _ _)<|wpAny_pure h
theorem Rf(xs:Array Value)(a b:Nat):((List.range<|b-a).filterMap λ(k:Nat)=>xs[((a:Int)+(k:Int)*1).toNat]?)=(xs.toList.take b).drop a:=by
 have e:(λ(k:Nat)=>xs[((a:Int)+(k:Int)*1).toNat]?)=λk=>xs[a+k]? :=by
  funext k
  have:((a:Int)+(k:Int)*1).toNat=a+k:=by lia
  exact V this rfl
 refine V e ?_;have:=pick_run xs a<|b-a;rw[List.filterMap_map]at this;have aF:((λx=>xs[x]?)∘λx=>a+x)=λk=>xs[a+k]? :=rfl;rw[aF]at this;exact V this<|V List.drop_take rfl
def Rg{t eS:Addr}{cf ah:Option Int}(aP:s.heap.IsTuple t vs.toArray)(fs:vs.length<=sizeLine)(aJ:s.heap.IsSliceOf eS qC tR .none)(f7:IsPart qC cf)(pu:IsPart tR ah)(Y:kZ cf vs.length=0->l5 ah vs.length=vs.length->Q (.ref t) s)(h:Q (.ref s.heap.objs.size) {s with heap:=s.heap.push {cls:=.type "tuple",data:=.seq ((vs.take<|l5 ah vs.length).drop<|kZ cf vs.length).toArray}}):wpAny (model c.prog c.w) A (getItem (.ref t)<|.ref eS) Q aB s:=by
 obtain⟨os,pC,z6,oy⟩:=id aJ;obtain⟨mK,rU,Dw,fL,Rh⟩:=id aP;have eD:s.TypeIs (.ref t) "tuple":=⟨mK,rU,Dw⟩;refine wpAny_holding (vs:=[_,_])<|wpAny_bind<|wpAny_sequenceKey eD rfl ?_;refine wpAny_bind (m:=callSpecial? _ _ _) (wpAny_callSpecial?_slot (name:=aa "__getitem__") eD F.slot_tuple_getitem
  (wpAny_call_entry F.slot_tuple_getitem eD F.entry_tuple_getitem ?_ (F.args_tuple_getitem_2 _ _)))
 refine wpAny_bind (m:=Builtin.Tuple.tupleItemsOf _)<|wpAny_tupleItemsOf rU Rh ?_;refine wpAny_bind (m:=typeOf _)<|wpAny_typeOf ⟨os,pC,z6⟩ ?_;refine V (bh<|by decide)<|wpAny_bind<|Re aJ f7 pu ?_;have key:wpAny (model c.prog c.w) A.in1 (Builtin.Tuple.tupleExact (List.filterMap (λ(k:Nat)=>vs.toArray[((kZ cf vs.length:Int)+(k:Int)*1).toNat]?)<|List.range<|l5 ah vs.length-kZ cf vs.length).toArray>>=λr=>ret r)
   (λfin aY=>∃v,fin=.done (.ret v)/\wpAny (model c.prog c.w) A (pure v) Q aB aY) aB s:=
  V (Rf _ _ _) (wpAny_bind (m:=Builtin.Tuple.tupleExact _)<|wpAny_newObj_type (wpAny_pure ⟨_,rfl,wpAny_pure h⟩)<|show((vs.take _).drop _).length<=sizeLine from V List.length_drop<|a3 (Nat.sub_le _ _)<|a3 (vA _ _) fs)
 dsimp only[List.size_toArray]
 split
 ·rename_i hw
  have IZ:kZ cf vs.length=0:=k0<|eq_of_beq<|bP<|bP hw;have dV:l5 ah vs.length-kZ cf vs.length=vs.length:=eq_of_beq<|cO hw;refine wpAny_bind (m:=Builtin.Tuple.tupleIsExact _)<|wpAny_bind (m:=typeOf _)<|wpAny_typeOf eD<|wpAny_pure ?_;exact V (bh<|by decide)<|wpAny_bind<|wpAny_rule<|wpAny_pure ⟨_,rfl,wpAny_pure<|Y IZ<|(IZ▸dV:l5 ah vs.length-0=vs.length)⟩
 ·exact key
def I0(i:Int)(n:Nat):clipAt n i=ng i n:=by
 have t:∀x:Int,(max 0 x).toNat=x.toNat:=λx=>(Int.le_total 0 x).elim (λh=>ai Int.toNat<|Int.max_eq_right h) λh=>(ai Int.toNat<|Int.max_eq_left h).trans (Int.toNat_of_nonpos h).symm;delta clipAt ng;refine(t _).trans ?_;by_cases h:i<0
 ·exact V (bh h)<|V (bh h)<|ai Int.toNat<|Int.min_eq_left<|Int.le_trans (Int.add_le_add_right (Int.le_of_lt h) n)<|Int.le_of_eq<|Int.zero_add _
 ·refine V (bH h)<|V (bH h) ?_;obtain⟨k,rfl⟩:=xG<|Int.not_lt.mp h;exact ai Int.toNat (Lean.Omega.Int.ofNat_min k n).symm
def Ri(i:Option Int)(n:Nat):i.elim 0 (clipAt n)=kZ i n:=by
 cases i with
 |none=>rfl
 |some i=>exact I0 i n
def Rj(i:Option Int)(n:Nat):i.elim n (clipAt n)=l5 i n:=by
 cases i with
 |none=>rfl
 |some i=>exact I0 i n
def I1{n:Nat}{i j:Option Int}(r:b9 h M vs l)(e:n=l.length):b9 h M ((vs.take<|l5 j n).drop<|kZ i n) (px l i j):=e▸(r.take _).drop _
def I2{i j:Option Int}{n:Nat}(h:l.length<=n):(px l i j).length<=n:=a3 (a3 (show((l.take<|l5 j l.length).drop<|kZ i l.length).length<=(l.take<|l5 j l.length).length from V List.length_drop<|Nat.sub_le _ _)<|vA _ _) h
def I3{cf ah:Option I}{r:I×St}(e:nh x cf ah C=some r)(kt:∀l i j,x=.ak l->l4 cf=some i->l4 ah=some j->some (I.ak<|px l i j,C)=some r->R)(lq:∀o l i j,x=.L o->C[o]? =some (.list l)->l4 cf=some i->l4 ah=some j->some (I.L C.length,C++[b3.list<|px l i j])=some r->R):R:=by
 delta nh at e;cases ks:l4 cf with
 |none=>rw[ks]at e;exact bf e
 |some i=>
  cases aQ:l4 ah with
  |none=>rw[ks,aQ]at e;exact bf e
  |some j=>rw[ks,aQ]at e;exact xD e (λl ac e=>kt l i j ac ks aQ e) λo l ac ao e=>lq o l i j ac ao ks aQ e
def Rk{cf ah:Option I}{eS:Addr}(O:bJ c.w c.N c.au s.heap M C)(cb:bb s.heap M a x)(aJ:s.heap.IsSliceOf eS qC tR .none)(rV:tQ s.heap M qC cf)(tN:tQ s.heap M tR ah)(e:nh x cf ah C=some (z,S))(h:eN c s M S z Q):wpAny (model c.prog c.w) A (getItem a<|.ref eS) Q aB s:=by
 refine I3 e (λl i j ac ks Dx e'=> ?_) λo l i j ac ao ks Dx e'=> ?_
 ·clear e;subst ac
  obtain⟨rfl,rfl⟩:=dD e';obtain⟨gu,vs,rfl,jC,n2,d1,bg,aF⟩:=cb.ox;refine Rg jC (tB aF d1 jY) aJ (z5 ks rV) (z5 Dx tN) (λh0 Y=>h _ M _ (.refl O) ?_) ?_
  ·refine V (ai I.ak<|show px l i j=l from ?_) cb;show(l.take<|l5 j l.length).drop (kZ i l.length)=l;rw[<-aF,h0,Y,aF,List.take_length,List.drop_zero]
  ·have N:=z0 (W:=[]) O (I1 (i:=i) (j:=j) bg aF) (I2 d1) s.toks 0 rfl;exact h _ _ _ N.1 N.2
 ·clear e;subst ac
  obtain⟨rfl,rfl⟩:=dD e';obtain⟨p,vs,n,ab,rfl,B,hh,bg,fs,aF⟩:=bJ.list O ao cb;refine wpAny_getItem_list_slice ⟨_,hh,rfl,n,rfl⟩ aJ (z5 ks rV) (z5 Dx tN) .none (by decide) ?_<|tB aF fs jY;have eq:slicePick vs i j none=((vs.toList.take<|l5 j vs.size).drop<|kZ i vs.size).toArray:=(slicePick_plain _ _ _).trans<|V (Ri i _)<|V (Rj j _)<|V List.drop_take rfl;have N:=Dn (W:=[]) O (I1 (i:=i) (j:=j) bg aF) (I2 fs) s.toks 0 rfl;exact V eq<|h _ _ _ N.1 N.2
def Rl(O:bJ c.w c.N c.au s.heap M C)(cb:bb s.heap M a x)(e:kQ .len x C=some (z,S))(h:eN c s M S z Q):wpAny (model c.prog c.w) A (call (.builtin "len") [a]) Q aB s:=by
 refine xD e (λl ac e'=> ?_) λo l ac ao e'=> ?_
 ·clear e;subst ac
  obtain⟨rfl,rfl⟩:=dD e';obtain⟨gu,vs,rfl,jC,n2,d1,bg,aF⟩:=cb.ox;exact PyProof.Rows.len_tuple jC (hd<|c1 (cM aF)<|c1 d1<|by decide)<|h _ M _ (.jz O _)<|V (ai (λn:Nat=>I.int n) aF.symm)<|.int _ _
 ·clear e;subst ac
  obtain⟨rfl,rfl⟩:=dD e';obtain⟨p,vs,n,ab,rfl,B,hh,bg,fs,aF⟩:=bJ.list O ao cb;exact Calls.call_len_list ⟨_,hh,rfl,n,rfl⟩ (hd<|c1 (cM aF)<|c1 fs<|by decide)<|h _ M _ (.jz O _)<|V (ai (λn:Nat=>I.int n) aF.symm)<|.int _ _
def Rm(O:bJ c.w c.N c.au s.heap M C)(cb:bb s.heap M a x)(e:kQ .tuple x C=some (z,S))(h:eN c s M S z Q):wpAny (model c.prog c.w) A (call (.type "tuple") [a]) Q aB s:=by
 refine xD e (λl ac e'=> ?_) λo l ac ao e'=> ?_
 ·clear e;subst ac
  obtain⟨rfl,rfl⟩:=dD e';obtain⟨gu,vs,rfl,jC,n2,d1,bg,aF⟩:=cb.ox;exact call_tuple_same jC<|h _ M _ (.refl O)<|.ak jC ⟨n2,d1⟩ bg
 ·clear e;subst ac
  obtain⟨rfl,rfl⟩:=dD e';obtain⟨p,vs,n,ab,rfl,B,hh,bg,fs,aF⟩:=bJ.list O ao cb;refine call_tuple_list ⟨_,hh,rfl,n,rfl⟩ (λaO an=> ?_)<|tB aF fs jY;have g:=bY.oo (W:=[]) O ⟨aO,s.toks,rfl,an⟩;have N:=z0 (c:=c) (s:={s with heap:=aO}) (W:=[]) g.ok (bg.keep g.keep) fs s.toks 0 (o:={cls:=.type "tuple",data:=.seq vs}) rfl;exact h _ _ _ (g.trans N.1) N.2
end
end
section
def Rn{α β:Type}(f:α->β){l:List α}(h:(l.map f).Nodup):l.Nodup:=(List.pairwise_map.mp h).imp λn e=>n<|ai f e
def I4(x:Int)(l:List Int):(qq x l).Perm (x::l):=by
 induction l with
 |nil=>exact .refl _
 |cons y r ay=>
  by_cases h:x<=y
  ·exact V (show qq x (y::r)=_ from bh h)<|.refl _
  ·exact V (show qq x (y::r)=_ from bH h)<|(ay.cons y).trans<|.swap ..
def I5(l:List Int):(vj l).Perm l:=by
 induction l with
 |nil=>exact .refl _
 |cons x r ay=>exact(I4 x _).trans<|ay.cons x
def Ro(x:Int){l:List Int}:l.Pairwise (·<=·)->(qq x l).Pairwise (·<=·):=by
 induction l with
 |nil=>exactλB=>tM _ _
 |cons y r ay=>
  intro h;have q:=List.pairwise_cons.mp h;by_cases ac:x<=y
  ·exact V (show qq x (y::r)=_ from bh ac)<|List.pairwise_cons.mpr ⟨mJ.mpr ⟨ac,λz hz=>Int.le_trans ac<|q.1 z hz⟩,h⟩
  ·exact V (show qq x (y::r)=_ from bH ac)<|List.pairwise_cons.mpr ⟨λz hz=>(cS<|(I4 x r).mem_iff.mp hz).elim (λe=>e▸Int.le_of_lt (pD.mp ac))<|q.1 z,ay q.2⟩
def Rp(l:List Int):(vj l).Pairwise (·<=·):=by
 induction l with
 |nil=>exact .nil
 |cons x r ay=>exact Ro x ay
def Rq{z7:List Int}(ab:z7.Perm ns)(aJ:z7.Pairwise (·<=·)):z7=vj ns:=List.Perm.eq_of_pairwise (λB B B B a b=>Int.le_antisymm a b) aJ (Rp ns)<|ab.trans (I5 ns).symm
def oz(a b:Str):Prop:=¬b.cps.toList<a.cps.toList
def Rr{a b c:Str}(h:oz a b)(k:oz b c):oz a c:=List.not_lt.mpr<|List.le_trans (List.not_lt.mp h)<|List.not_lt.mp k
def Rs{a b:Str}(h:oz a b)(k:oz b a):a=b:=ai Str.mk<|Array.toList_inj.mp<|List.le_antisymm (List.not_lt.mp h)<|List.not_lt.mp k
def I6{a b:Str}{r:List Str}(h:oz a b)(k:(b::r).Pairwise oz):(a::b::r).Pairwise oz:=List.pairwise_cons.mpr ⟨mJ.mpr ⟨h,λz hz=>Rr h<|List.rel_of_pairwise_cons k hz⟩,k⟩
def Rt{l:List Str}:∀a,risingS a l->(a::l).Pairwise oz:=by
 induction l with
 |nil=>exactλB B=>tM _ _
 |cons b r ay=>exactλa h=>I6 (of_decide_eq_false<|(PyProof.Rows.ltCps_eq _ _).symm.trans<|(oA _).mp<|bP h)<|ay b<|cO h
def Ru{l:List Str}(h:sortedS l):l.Pairwise oz:=by
 cases l with
 |nil=>exact .nil
 |cons a r=>exact Rt a h
def Rv{l:List Str}:∀a,zB (a::l)=true->(a::l).Pairwise oz:=by
 induction l with
 |nil=>exactλB B=>tM _ _
 |cons b r ay=>exactλa h=>I6 (List.not_lt.mpr<|List.le_of_lt<|dx<|bP h)<|ay b<|cO h
def Rw{ss z8:List Str}(ab:z8.Perm ss)(aJ:sortedS z8)(aH:zB ss):z8=ss:=
 List.Perm.eq_of_pairwise (λB B B B a b=>Rs a b) (Ru aJ) (by
  cases ss with
  |nil=>exact .nil
  |cons a r=>exact Rv a aH) ab
def Rx:∀{is:List Int},xm l=some is->l=is.map .int:=by
 induction l with
 |nil=>exactλe=>bp e▸rfl
 |cons x r ay=>
  intro is e;cases x with
  |int i=>exact dt e λqD aQ e=>e▸ai (I.int i::·) (ay aQ)
  |_=>exact bf e
def Ry:∀{is:List Str},C3 l=some is->l=is.map .str:=by
 induction l with
 |nil=>exactλe=>bp e▸rfl
 |cons x r ay=>
  intro is e;cases x with
  |str i=>exact dt e λqD aQ e=>e▸ai (I.str i::·) (ay aQ)
  |_=>exact bf e
def b9.Rz{is:List Int}:∀{vs:List Value},b9 h M vs (is.map .int)->IntsAre vs is:=by
 induction is with
 |nil=>intro vs r;cases r;exact .nil
 |cons i is ay=>
  intro vs r;cases r with
  |cons a r=>cases a;exact .cons _ _<|ay r
def b9.RA{is:List Int}(r:IntsAre vs is):b9 h M vs (is.map .int):=by
 induction r with
 |nil=>exact .nil
 |cons B cr eE ay=>exact .cons (.int _ _) ay
def b9.RB{is:List Str}:∀{vs:List Value},b9 h M vs (is.map .str)->StrsAre vs is:=by
 induction is with
 |nil=>intro vs r;cases r;exact .nil
 |cons i is ay=>
  intro vs r;cases r with
  |cons a r=>cases a;exact .cons _ _<|ay r
def b9.RC{is:List Str}(r:StrsAre vs is):b9 h M vs (is.map .str):=by
 induction r with
 |nil=>exact .nil
 |cons B cr eE ay=>exact .cons (.str _ _) ay
section
variable{a b:Value}{x:I}
def bY.add(O:bJ c.w c.N c.au s.heap M C){D:Addr}{x:b3}{t:Nat}(k:∀b y,s.heap.get? b=some y->aO.get? b=some y)(nu:s.heap.get? D=none)(r:g4 s.heap M aO (M++[(D,none)])->om c.w c.N aO (M++[(D,none)]) (D,none) x):
  bY c W s M {s with heap:=aO,toks:=t} (M++[(D,none)]) (C++[x]):=by
 have hn:∀b∈foot [(D,(none:Option Addr))],s.heap.get? b=none:=λb aj=>V (bR aj) nu;exact⟨⟨⟨_,rfl,λb aj=>.inl<|hn b aj⟩,λb y e B B=>k b y e,λb y e B=>⟨y,k b y e⟩,λB b y B B e=>k b y e⟩,O.push hn (tM _ _) k r O.alive,rfl,rfl,rfl⟩
def RD{K:Type}[DecidableEq K]{knd:KeyKind prog w K}{mk:K->I}(an:∀{v k},bb h M v (mk k)->knd.is k v)(dp:∀m,kk w (mk m)=knd.hash m){l:List (I×I)}(r:fa w h M aw l):
  ∀dO:List K,l.map (·.1)=dO.map mk->∃kvs:List (K×Value),Pairs knd aw kvs/\kvs.map (·.1)=dO/\∀e∈aw,∃k,knd.is k e.key/\e.hash=knd.hash k:=by
 induction r with
 |nil=>
  intro dO e;cases dO with
  |nil=>exact⟨[],.nil,rfl,λB h=>absurd h b5⟩
  |cons B cr=>exact absurd e nofun
 |@cons fC aw k v l Y B ba cr r ay=>
  intro dO e;cases dO with
  |nil=>exact absurd e nofun
  |cons i dO=>obtain⟨aD,aF⟩:=List.cons.inj e;obtain⟨kvs,p,q,f⟩:=ay dO aF;have ah:knd.is i fC.key:=an<|show bb h M fC.key (mk i)from(show k=mk i from aD)▸ba;exact⟨(i,fC.val)::kvs,.cons ah rfl p,ai (i::·) q,mJ.mpr ⟨⟨i,ah,Y.trans<|(ai (kk w) aD).trans<|dp i⟩,f⟩⟩
def RE{r:Addr}{n:Nat}{P:Nat->Value->Prop}{I7:Heap->Prop}(K:KdlSrc c.prog c.w "dict" r r n P I7)(dp:A.handled=none)(qE:I7 s.heap)(hn:n<=sizeLine)(tS:n<64)(h:∀(aO:Heap) (tk:Nat) (vs:List Value),(∀b o,s.heap.get? b=some o->aO.get? b=some o)->vs.length=n->(∀(j:Nat) (v:Value),vs[j]? =some v->P j v)->
   wpAny (model c.prog c.w) A.in1.in1 (Builtin.«list.sort» ⟨[.ref aO.objs.size],[]⟩) (λfin aY=>fin=.done (.ret .none)/\Q (.ref aO.objs.size) aY) aB {s with heap:=aO.push (seqObj "list" vs.toArray 0),toks:=tk}):
  wpAny (model c.prog c.w) A (call (.builtin "sorted") [.ref r]) Q aB s:=by
 refine Calls.call_function_entry kind_sorted plain_sorted entry_sorted (args_sorted1 _)<|wpAny_bind (m:=checkCount "sorted" 1 1 _)<|wpAny_pure ?_;refine wpAny_bind<|kdu_collect (A:=A.in1) K dp qE hn λaO tk acc an I8=> ?_;have ao:acc.toList.length=n:=I8.1;refine wpAny_bind<|wpAny_newList ?_<|Qb ao hn;refine wpAny_bind<|wpAny_holding<|wpAny_call_entry slot_list_sort ⟨_,Heap.get?_push_size _ rfl,rfl⟩ entry_list_sort (wpAny_mono (h aO tk acc.toList an ao λj v e=>I8.2 j v<|br Array.getElem?_toList e) (λfin aY x=> ?_) λB B e=>e)<|args_list_sort _;exact⟨_,x.1,wpAny_pure ⟨_,rfl,x.2⟩⟩
def I9{aw:Array DictEntry}{n:Nat}{l:List (I×I)}{K:Type}[DecidableEq K](knd:KeyKind c.prog c.w K)(mk:K->I){dO:List K}(aX:A.handled=none)(bC:(p.1==sysModules)=false)(aA:s.heap.get? p.1=some {cls:=.type "dict",data:=.dict aw n})(eb:fa c.w s.heap M aw.toList l)(hn:(l.map (·.1)).Nodup)(oB:l.map (·.1)=dO.map mk)(tS:l.length<64)(an:∀{v k},bb s.heap M v (mk k)->knd.is k v)(aj:∀{v k},knd.is k v->bb s.heap M v (mk k))(dp:∀m,kk c.w (mk m)=knd.hash m)(h:∀(aO:Heap) (tk:Nat) (vs:List Value),(∀b o,s.heap.get? b=some o->aO.get? b=some o)->vs.length<64->b9 s.heap M vs (dO.map mk)->
   wpAny (model c.prog c.w) A.in1.in1 (Builtin.«list.sort» ⟨[.ref aO.objs.size],[]⟩) (λfin aY=>fin=.done (.ret .none)/\Q (.ref aO.objs.size) aY) aB {s with heap:=aO.push (seqObj "list" vs.toArray 0),toks:=tk}):
  wpAny (model c.prog c.w) A (call (.builtin "sorted") [.ref p.1]) Q aB s:=by
 obtain⟨kvs,vB,z9,RF⟩:=RD an dp eb dO oB;have hlen:kvs.length=l.length:=(c2 (f:=(·.1)) (as:=kvs)).symm.trans<|(ai List.length z9).trans<|(c2 mk).symm.trans<|(ai List.length oB).symm.trans<|c2 _;have RG:s.heap.DictAt knd p.1 kvs n:=⟨_,aw,aA,⟨rfl,rfl,rfl⟩,rfl,λe he=>RF e<|Array.mem_toList_iff.mpr he,vB,z9▸Rn mk (oB▸hn)⟩;have Dy:kvs.length<64:=hlen▸tS;refine RE (kdl_dict (knd:=knd) (kvs:=kvs) (ep:=n) bC) aX RG (a3 (hi Dy)<|by decide) Dy λaO tk vs an oC aS=>h aO tk vs an (oC▸Dy)<|b9.Ql ?_ λj v d aQ vC=> ?_
 ·exact oC.trans ((c2 (f:=(·.1)) (as:=kvs)).symm.trans<|(ai List.length z9).trans (c2 mk).symm)
 ·obtain⟨k,qB,RH,i3⟩:=aS j v aQ;have q:(dO.map mk)[j]? =some (mk k):=V ou<|z9▸V ou (V RH rfl);exact bp (br q vC)▸aj i3
def Ja{r:List I}(O:bJ c.w c.N c.au s.heap M C)(h:eN c s M (C++[.list r]) (.L C.length) Q){out:Array Value}(an:∀b o,s.heap.get? b=some o->aO.get? b=some o)(aV:b9 (sortedHeap (aO.push<|seqObj "list" vs.toArray 0) aO.objs.size vs out) (M++[(aO.objs.size,none)]) out.toList r)(RI:r.length<=16000000):
  Q (.ref aO.objs.size) {s with heap:=sortedHeap (aO.push<|seqObj "list" vs.toArray 0) aO.objs.size vs out,toks:=tk}:=by
 obtain⟨aF,he⟩:=sortedHeap_at (a:=aO.objs.size) (vs:=vs) (out:=out) (h:=aO.push<|seqObj "list" vs.toArray 0) (n:=0)<|Heap.get?_push_size _ rfl;have k:∀b y,s.heap.get? b=some y->(sortedHeap (aO.push<|seqObj "list" vs.toArray 0) aO.objs.size vs out).get? b=some y:=λb y e=>(sortedHeap_old (dU<|Heap.lt_size<|an b y e)<|V (size_push' _ _)<|ow<|Heap.lt_size<|an b y e).trans<|Heap.get?_push_of_some _<|an b y e
 have nu:s.heap.get? aO.objs.size=none:=by
  cases q:s.heap.get? aO.objs.size with
  |none=>rfl
  |some o=>exact absurd (Heap.lt_size<|an _ _ q)<|Nat.lt_irrefl _
 exact h _ (M++[(aO.objs.size,none)]) _ (bY.add O (D:=aO.objs.size) k nu λK=>⟨rfl,out,aF,he,aV,RI⟩)<|bb.last (p:=(aO.objs.size,none)) O
def Dz{β:Type}{o:Option b3}{f:List (I×I)->Option β}{r:β}(e:(match o with|some (.dict l)=>f l|_=>none)=some r)(k:∀l,o=some (.dict l)->f l=some r->R):R:=by
 cases o with
 |none=>exact bf e
 |some o=>
  cases o with
  |dict l=>exact k l rfl e
  |_=>exact bf e
def RJ(aJ:∃o,c.au.get? sysModules=some o)(K:en d A)(O:bJ c.w c.N c.au s.heap M C)(cb:bb s.heap M a x)(e:kQ .sorted x C=some (z,S))(h:eN c s M S z Q):
  wpAny (model c.prog c.w) A (call (.builtin "sorted") [a]) Q aB s:=by
 cases x with
 |L o=>
  refine Dz e λl ao e=> ?_;refine dt e λr aH e=> ?_;obtain⟨rfl,rfl⟩:=kO e;obtain⟨p,aw,n,ab,rfl,B,hh,eb,hn,fs⟩:=bJ.dict O ao cb;have bC:=zX aJ<|O.fR _<|tF ab;refine dZ aH λtS aH=> ?_;have tS:l.length<64:=(c2 (f:=(·.1)) (as:=l))▸tS;cases ah:xm (l.map (·.1))with
  |some is=>rw[ah]at aH;cases aH;have oB:=Rx ah;refine I9 (intKind c.prog c.w) .int K.handled bC hh eb hn oB tS (λr=>by cases r;exact intKind_is _ _ _ _) (λq=>(Value.isInt_shape q).elim λt e=>e▸.int _ _) (λB=>rfl) λaO tk vs an oC aV=> ?_;refine list_sort_tree (Heap.get?_push_size _ rfl) aV.Rz oC λout z7 Y ae ba=>⟨rfl,Ja O h an (Rq ae ba▸b9.RA Y) ?_⟩;refine a3 (cM ?_) fs;exact(c2 _).trans<|(I5 is).length_eq.trans<|(c2 I.int).symm.trans<|(ai List.length oB).symm.trans<|c2 _
  |none=>rw[ah]at aH;refine bX aH λss RK aH=>dZ aH λRL aH=> ?_;cases aH;have oB:=Ry RK;refine I9 (PySem.strKind c.prog c.w) .str K.handled bC hh eb hn oB tS (λr=>by cases r;exact PySem.strKind_is _ _ _ _) (λq=>(Value.isStrOf_shape q).elim λt e=>e▸.str _ _) (λB=>rfl) λaO tk vs an oC aV=> ?_;have fG:=aV.RB;refine list_sort_treeK strKind_oneLt (Heap.get?_push_size _ rfl) fG.keysOf (λacw acx rest e=>keyKind_strs<|e▸fG) oC λacy pA xH=>⟨rfl,?_⟩;obtain⟨z8,Y,ae,ba⟩:=sorted_out_str fG pA xH;exact Ja O h an (oB▸Rw ae ba RL▸b9.RC Y)<|V (c2 _) fs
 |_=>exact bf e
end
end
section
section
variable{a b:Value}{x:I}
def RM(b:Bool):decide (I.bool b=.bool true)=b:=by
 cases b with
 |true=>exact ck rfl
 |false=>exact cp λe=>Bool.noConfusion<|I.bool.inj e
def b9.RN(r:b9 h M vs l):(l.all λv=>match v with|.bool _=>true|_=>false)=true->LSm.BoolsAre vs (l.map λv=>decide<|v=.bool true):=
 r.py (P:=λvs l=>(l.all λv=>match v with|.bool _=>true|_=>false)=true->LSm.BoolsAre vs (l.map λv=>decide<|v=.bool true)) (λB=>.nil) λv vs d ds a B ay e=>by
  have cH:=ay<|cO e;have aD:=bP e;cases a with
  |bool b=>exact V (show(I.bool b::ds).map (λv=>decide<|v=.bool true)=b::ds.map (λv=>decide<|v=.bool true)from ai (·::_)<|RM b)<|.cons _ cH
  |_=>exact b7 aD
def RO(K:en d A)(O:bJ c.w c.N c.au s.heap M C)(cb:bb s.heap M a x)(e:kQ .all x C=some (z,S))(h:eN c s M S z Q):
  wpAny (model c.prog c.w) A (call (.builtin "all") [a]) Q aB s:=by
 cases x with
 |L o=>
  refine z3 e λl ao e=>dZ e λaj e=> ?_;obtain⟨rfl,rfl⟩:=dD e;obtain⟨p,vs,n,ab,rfl,B,hh,bg,fs,aF⟩:=bJ.list O ao cb;have fG:s.heap.IsList p.1 vs.toList.toArray:=⟨_,hh,rfl,n,rfl⟩;have pE:=bg.RN aj;refine call_all_walk<|wpAny_pyIter_list fG ?_;refine⟨s.heap.objs.size,[s.heap.objs.size,p.1],[s.heap.objs.size],vs.toList.toArray.size,_,_,λi=>((l.map λv=>decide<|v=.bool true)[i]?).getD true,rfl,Walks.list (A:=A.in1) K.handled _ p.1 (dU<|Heap.lt_size hh) vs.toList.toArray,
   ⟨⟨_,Heap.get?_push_size _ rfl,rfl,rfl⟩,fG.push _⟩,λi v aY tT rW vB es=> ?_,λaO tk an=> ?_⟩
  ·obtain⟨b,e,rfl⟩:=pE.get i v<|br List.getElem?_toArray vB;dsimp only at es;rw[e]at es;exact wpAny_truthy_bool es
  ·have e:((List.range vs.toList.toArray.size).all λi=>((l.map λv=>decide<|v=.bool true)[i]?).getD true)=l.all λv=>v==.bool true:=V (show vs.toList.toArray.size=(l.map λv=>decide<|v=.bool true).length from aF.trans (c2 _).symm) ((LSm.range_all<|l.map λv=>decide<|v=I.bool true).trans List.all_map)
   exact V e<|h _ M _ (bY.oo O ⟨aO,tk,rfl,LSm.kept_iter an⟩)<|.bool _
 |_=>exact bf e
def DA{p:Addr}{vs:Array Value}{n:Nat}{id:String}{Q:Value×List Value->Shared->Prop}(aA:s.heap.get? p=some {cls:=.type "list",data:=.seq vs n})(slot:Slot "list" name id)(DB:typeOf (.builtin id)=pure (.type "method_descriptor"))(h:Q (.builtin id,[.ref p]) s):wpAny (model c.prog c.w) A (getMethod (.ref p) name f7) Q aB s:=getMethod_builtin ⟨_,aA,rfl⟩ PySem.F.plainAttrs_list slot DB (λa e=>by cases e;exact⟨_,aA,rfl⟩) h
def RP{p:Addr}{aw:Array DictEntry}{n:Nat}{id:String}{Q:Value×List Value->Shared->Prop}(aA:s.heap.get? p=some {cls:=.type "dict",data:=.dict aw n})(slot:Slot "dict" name id)(DB:typeOf (.builtin id)=pure (.type "method_descriptor"))(h:Q (.builtin id,[.ref p]) s):wpAny (model c.prog c.w) A (getMethod (.ref p) name f7) Q aB s:=getMethod_builtin ⟨_,aA,rfl⟩ PySem.F.plainAttrs_dict slot DB (λa e=>by cases e;exact⟨_,aA,rfl⟩) h
def vD{d:Addr}{vs:Array Value}{n:Nat}{f:Array Value->Array Value}(aA:h.get? d=some {cls:=.type "list",data:=.seq vs n}):
  (∃eH,(h.update d<|Obj.mapSeq f).get? d=some {cls:=.type "list",data:=.seq (f vs) eH})/\Heap.SameBut d h (h.update d<|Obj.mapSeq f):=
 ⟨⟨_,get?_update_seq aA f⟩,Heap.SameBut.update ..⟩
def bY.xI(O:bJ c.w c.N c.au s.heap M C){o:Nat}{vs ws:Array Value}{n:Nat}(ab:M[o]? =some p)(RQ:o≠0)(ae:p.2=none)(aA:s.heap.get? p.1=some {cls:=.type "list",data:=.seq vs n})(he:aO.get? p.1=some {cls:=.type "list",data:=.seq ws eH})(aJ:Heap.SameBut p.1 s.heap aO)(r:g4 s.heap M aO M->b9 aO M ws.toList l)(ao:l.length<=16000000)(t:Nat):
  bY c W s M {s with heap:=aO,toks:=t} M (C.set o<|.list l):=
 bY.de O ab RQ (.inl rfl) aJ ⟨_,he⟩ (λq aC=>bp (br aA aC)▸(show¬Value.type "list"=.type "tuple" by decide)) λK=>⟨ae,ws,eH,he,r K,ao⟩
def RR{o:Nat}(O:bJ c.w c.N c.au s.heap M C)(cb:bb s.heap M a (.L o))(ao:C[o]? =some (.list l))(dE:bb s.heap M b y)(oD:o≠0)(hz:l.length<16000000)(h:eN c s M (C.set o<|.list<|l++[y]) .none Q):
  wpAny (model c.prog c.w) A (call (.builtin "list.append") [a,b]) Q aB s:=by
 obtain⟨p,vs,n,ab,rfl,lv,aA,bg,fs,aF⟩:=bJ.list O ao cb;obtain⟨⟨eH,aD⟩,aJ⟩:=vD (f:=(·.push b)) aA;have qF:(l++[y]).length<=16000000:=a3 (cM eo) hz;refine wpAny_call_entry slot_list_append ⟨_,aA,rfl⟩ entry_list_append ?_<|args_list_append _ _;exact wpAny_bind (m:=updateSeq p.1 (·.push b)) (wpAny_updateSeq aA rfl (hz:=tB aF fs jY) (_hz':=a3 (cM ((Array.size_push _).trans (ai (·+1) aF)))<|rX<|a3 hz jY)<|wpAny_pure ⟨.none,rfl,h _ M _ (bY.xI O ab oD lv aA aD aJ (λK=>V Array.toList_push<|b9.keep K<|b9.zN bg dE) qF _) .none⟩)
def b9.dropLast(r:b9 h M vs l):b9 h M vs.dropLast l.dropLast:=V List.dropLast_eq_take<|V List.dropLast_eq_take<|V r.length<|r.take _
def RS{o:Nat}(O:bJ c.w c.N c.au s.heap M C)(cb:bb s.heap M a (.L o))(ao:C[o]? =some (.list l))(oD:o≠0)(hz:l.getLast?=some z)(h:eN c s M (C.set o<|.list l.dropLast) z Q):
  wpAny (model c.prog c.w) A (call (.builtin "list.pop") [a]) Q aB s:=by
 obtain⟨p,vs,n,ab,rfl,lv,aA,bg,fs,aF⟩:=bJ.list O ao cb;obtain⟨v,aS,aH⟩:=bg.get<|br List.getLast?_eq_getElem? hz;obtain⟨⟨eH,aD⟩,aJ⟩:=vD (f:=λxs=>xs.eraseIdxIfInBounds<|vs.size-1) aA;have K:g4 s.heap M (s.heap.update p.1<|Obj.mapSeq λxs=>xs.eraseIdxIfInBounds<|vs.size-1) M:=⟨⟨[],(ew _).symm⟩,λb o e c B n=>⟨(aJ.2 b λq=>n<|q▸tF ab).trans e,n⟩⟩
 exact call_meets F.slot_list_pop ⟨_,aA,rfl⟩ F.entry_list_pop (F.args_list_pop_1 _) (MeetsSeq.list_pop_last p.1 vs n v (V aF<|br Array.getElem?_toList aS)<|tB aF fs jY) ⟨aA,h _ M _ (bY.xI O ab oD lv aA aD aJ
  (λK=>V Array.toList_eraseIdxIfInBounds<|V (show vs.toList.eraseIdx (vs.size-1)=_ from List.eraseIdx_length_sub_one) (bg.keep K).dropLast)
  (a3 (cM List.length_dropLast) (a3 (Nat.sub_le _ _) fs)) _) (aH.keep K)⟩
theorem RT{o o':Nat}{r:List I}(O:bJ c.w c.N c.au s.heap M C)(cb:bb s.heap M a (.L o))(ao:C[o]? =some (.list l))(dE:bb s.heap M b (.L o'))(aH:C[o']? =some (.list r))(oD:o≠0)(gr:o≠o')(hz:l.length+r.length<16000000)(h:eN c s M (C.set o<|.list<|l++r) .none Q):wpAny (model c.prog c.w) A (call (.builtin "list.extend") [a,b]) Q aB s:=by
 obtain⟨p,vs,n,ab,rfl,lv,aA,bg,fs,aF⟩:=bJ.list O ao cb;obtain⟨qy,ws,eH,pA,rfl,acz,kY,RU,acA,DC⟩:=bJ.list O aH dE;obtain⟨⟨Jb,aD⟩,aJ⟩:=vD (f:=λx=>x++ws) aA;have jY:=jY;refine call_meets F.slot_list_extend ⟨_,aA,rfl⟩ F.entry_list_extend (F.args_list_extend_2 _ _) (AutoSeq1.list_extend_list_list_0 p.1 vs n qy.1 ws eH (λq=> ?_) (tB aF fs jY)<|by lia)
  ⟨aA,kY,h _ M _ (bY.xI O ab oD lv aA aD aJ (λK=>V Array.toList_append<|(bg.keep K).append<|RU.keep K) (a3 (cM eo)<|hi hz) _) .none⟩
 have eW:(decide _)=true:=cO q;have eW:=dx eW;lia
def RV(e:qt C y z x=some S)(lq:∀o l i,x=.L o->C[o]? =some (.list l)->y=.int i->o≠0/\0<=i/\i<l.length->C.set o (.list<|l.set i.toNat z)=S->R)(kr:∀o l,x=.L o->C[o]? =some (.dict l)->e3 l y->l.length<16000000->o≠0->C.set o (.dict<|fB l y z)=S->R):R:=by
 cases x with
 |L o=>
  refine Du e (λl ao e=> ?_) λl ao e=>dZ e λq w=>kr o l rfl ao (bP<|bP q) (dx<|cO<|bP q) (dx<|cO q)<|bp w;cases y with
  |int i=>exact dZ e λq w=>lq o l i rfl ao rfl q<|bp w
  |_=>exact bf e
 |_=>exact bf e
theorem RW{p:Addr}{vs:Array Value}{n:Nat}{i:Int}{t:Tok}{Q:Unit->Shared->Prop}(aA:s.heap.get? p=some {cls:=.type "list",data:=.seq vs n})(ef:0<=i)(ah:i<vs.size)(hz:vs.size<=16000000)(h:∀eH,(s.heap.update p (Obj.mapSeq (·.setIfInBounds i.toNat v))).get? p=some {cls:=.type "list",data:=.seq (vs.setIfInBounds i.toNat v) eH}->Heap.SameBut p s.heap (s.heap.update p (Obj.mapSeq (·.setIfInBounds i.toNat v)))->Q () {s with heap:=s.heap.update p (Obj.mapSeq (·.setIfInBounds i.toNat v))}):
  wpAny (model c.prog c.w) A (setItem (.ref p) (.int i t) v) Q aB s:=by
 have eD:s.TypeIs (.ref p) "list":=⟨_,aA,rfl⟩;obtain⟨⟨eH,aD⟩,aJ⟩:=vD (f:=(·.setIfInBounds i.toNat v)) aA;have h:=h eH aD aJ
 clear aD aJ
 refine wpAny_holding (vs:=[_,_,_])<|wpAny_bind<|wpAny_sequenceKey eD rfl ?_;refine wpAny_bind<|wpAny_callSpecial?_slot (name:=aa "__setitem__") eD slot_list_setitem<|wpAny_call_entry slot_list_setitem eD entry_list_setitem ?_<|args_list_setitem _ _ _;show wpAny _ _ (Builtin.List.listSubscript? (.int i _)>>=_) _ _ s;refine wpAny_bind (wpAny_listSubscript_int (fitsIndex_of ef<|by lia) ?_);obtain⟨j,rfl⟩:=xG ef;show wpAny _ _ ((seqItemAt p j>>=λr=>pure (r.map (j,·)))>>=_) _ _ s;refine wpAny_bind<|wpAny_bind<|wpAny_seqItemAt aA rfl<|wpAny_pure<|V (Array.getElem?_eq_getElem<|qG.mp ah) ?_;exact wpAny_bind (m:=setSeqItemAt p j v)<|wpAny_setSeqItemAt aA rfl<|wpAny_pure ⟨.none,rfl,wpAny_pure h⟩
def RX{Q:Unit->Shared->Prop}(K:en d A)(O:bJ c.w c.N c.au s.heap M C)(cb:bb s.heap M a x)(dE:bb s.heap M b y)(jD:bb s.heap M v z)(e:qt C y z x=some S)(h:∀aY bt,bY c [] s M aY bt S->Q () aY):
  wpAny (model c.prog c.w) A (setItem a b v) Q aB s:=by
 refine RV e (λo l i ac ao a8 q e'=> ?_) λo l ac ao k fi gh e'=> ?_
 ·clear e;subst ac a8 e'
  obtain⟨p,vs,n,ab,rfl,lv,aA,bg,fs,aF⟩:=bJ.list O ao cb;cases dE;exact RW aA q.2.1 (V aF q.2.2) (V aF fs) λeH aD aJ=>h _ M<|bY.xI (t:=s.toks) O ab q.1 lv aA aD aJ (l:=l.set i.toNat z) (λK=>V Array.toList_setIfInBounds<|b9.keep K<|b9.set _ bg jD)<|a3 (cM List.length_set) fs
 ·clear e;subst ac e'
  obtain⟨p,aw,n,ab,rfl,lv,aA,eb,hn,fs⟩:=bJ.dict O ao cb;exact QW (en.qz K) dE jD k aA eb hn fi λaO ji ls t Y ae ba=>h _ M (bY.de O ab gh (.inl rfl) ba ⟨_,Y⟩ (λq aC=>bp (br aA aC)▸(show¬Value.type "dict"=.type "tuple" by decide)) λK=>⟨lv,ji,ls,Y,ae,QO hn,a3 (QQ l y z) fi⟩)
def RY{Q:Unit->Shared->Prop}(K:en d A)(O:bJ c.w c.N c.au s.heap M C)(cb:bb s.heap M a x)(dE:bb s.heap M b y)(e:vk C y x=some S)(h:∀aY bt,bY c [] s M aY bt S->Q () aY):
  wpAny (model c.prog c.w) A (delItem a b) Q aB s:=by
 cases x with
 |L o=>refine Dz e λl ao e=>dZ e λq e=> ?_;obtain rfl:=bp e;obtain⟨p,aw,n,ab,rfl,lv,aA,eb,hn,fs⟩:=bJ.dict O ao cb;exact QY (en.qz K) dE (bP<|bP q) (cO<|bP q) aA eb hn fs λaO ji ls t Y ae ba=>h _ M (bY.de O ab (dx<|cO q) (.inl rfl) ba ⟨_,Y⟩ (λq aC=>bp (br aA aC)▸(show¬Value.type "dict"=.type "tuple" by decide)) λK=>⟨lv,ji,ls,Y,ae,QP hn,a3 (QR l y) fs⟩)
 |_=>exact bf e
noncomputable def nv(start stop step:Int)(i:Nat):Bool:=
 if step>0 then start<=i&&i<stop&&(i-start)%step==0
 else stop<i&&i<=start&&(start-i)%(-step)==0
def Jc(h:k<i):i-k=(i-(k+1))+1:=(Nat.succ_pred_eq_of_pos<|Nat.sub_pos_of_lt h).symm
def RZ(i:Nat)(n:Nat){l:List Value}:∀(k:Nat),k+l.length=n->(l.zipIdx k).filterMap (λ(x,k)=>if nv i n 1 k then none else some x)=l.take (i-k):=by
 induction l with
 |nil=>exactλB B=>(List.take_nil).symm
 |cons x r ay=>
  intro k h;have ay:=ay (k+1)<|(vE k r.length).trans h;have an:nv i n 1 k=decide (i<=k):=by delta nv;have:((k:Int)<(n:Int)):=hd<|h▸nw (pF _);simp [this,Int.emod_one]
  refine V List.zipIdx_cons<|V List.filterMap_cons ?_;by_cases xJ:i<=k
  ·simp only[an,xJ,decide_true,if_true];refine V ay<|V (Nat.sub_eq_zero_of_le xJ)<|V (Nat.sub_eq_zero_of_le<|rX xJ) rfl
  ·simp only[an,xJ,decide_false,Bool.false_eq_true,if_false];exact V ay<|V (Jc<|Nat.not_le.mp xJ) rfl
theorem R0{p:Addr}{vs:Array Value}{n:Nat}{t:Tok}{eS:Addr}{Q:Unit->Shared->Prop}(aA:s.heap.get? p=some {cls:=.type "list",data:=.seq vs n})(aJ:s.heap.IsSliceOf eS (.int k t) .none .none)(an:k<=vs.size)(hz:vs.size<=16000000)(h:∀aO eH,aO.get? p=some {cls:=.type "list",data:=.seq (vs.toList.take k).toArray eH}->Heap.SameBut p s.heap aO->Q () {s with heap:=aO}):wpAny (model c.prog c.w) A (delItem (.ref p)<|.ref eS) Q aB s:=by
 obtain⟨os,pC,z6,oy⟩:=aJ;have Jd:s.TypeIs (.ref eS) "slice":=⟨os,pC,z6⟩;refine wpAny_delItem_slot (T:="list") ⟨_,aA,rfl⟩ rfl F.slot_list_delitem<|wpAny_call_entry F.slot_list_delitem ⟨_,aA,rfl⟩ F.entry_list_delitem ?_<|F.args_list_delitem_2 _ _;refine wpAny_bind (m:=Builtin.List.listSubscript?<|.ref eS)<|wpAny_bind<|wpAny_specialOf Jd slice_no_index<|wpAny_pure ?_;refine wpAny_bind (m:=typeOf<|.ref eS) (wpAny_typeOf Jd<|V (bH<|by decide)<|V (listSliceParts_eq _) ?_);refine wpAny_bind<|wpAny_bind<|wpAny_field pC oy (x:=.none) rfl<|wpAny_bind<|wpAny_listPart .none<|V (bH<|show¬((rawPart none==rawInt 0)=true)from Bool.false_ne_true) ?_;refine wpAny_bind<|wpAny_field pC oy (x:=.int k t) rfl<|wpAny_bind<|wpAny_listPart (.int _ _) ?_;refine wpAny_bind<|wpAny_field pC oy (x:=.none) rfl<|wpAny_bind<|wpAny_listPart .none<|wpAny_pure ?_;refine wpAny_bind (m:=Builtin.List.listItems<|.ref p)<|wpAny_bind<|wpAny_seqItems aA rfl<|wpAny_pure ?_;refine wpAny_bind (wpAny_of_eq (sliceIndices_raw (some (k:Int)) none none vs.size<|by decide) ?_);have DD:sliceBounds (some (k:Int)) none none vs.size=((k:Int),(vs.size:Int),1):=by simp only[sliceBounds,Option.getD_none];refine V (bh<|show(1:Int)>0 by decide) (V (bH<|by lia) ?_);exact Prod.ext (show max 0 (min (k:Int) vs.size)=k by lia) rfl
 refine V DD<|wpAny_bind<|wpAny_rule ?_;have hf:(vs.toList.zipIdx.filterMap<|λ(x,j)=>if nv k vs.size 1 j then none else some x).toArray=(vs.toList.take k).toArray:=ai List.toArray<|RZ k vs.size 0<|ot _;obtain⟨⟨eH,aD⟩,xH⟩:=vD (f:=λxs=>(xs.toList.zipIdx.filterMap<|λ(x,j)=>if nv k vs.size 1 j then none else some x).toArray) aA;refine wpAny_bind (m:=Builtin.List.listUpdate (.ref p) _) ?_;show wpAny _ _ (updateSeq p λxs=>(xs.toList.zipIdx.filterMap<|λ(x,j)=>if nv k vs.size 1 j then none else some x).toArray) _ _ s;exact wpAny_updateSeq aA rfl (hz:=a3 hz jY) (_hz':=V hf<|a3 (vA _ _)<|a3 hz<|rX jY)<|wpAny_bind<|wpAny_letGo<|wpAny_pure ⟨.none,rfl,h _ eH (hf▸aD) xH⟩
def R1(e:tz C z x=some S)(k:∀o l i,x=.L o->C[o]? =some (.list l)->z=.int i->o≠0/\0<=i/\i<=l.length->C.set o (.list<|l.take i.toNat)=S->R):R:=by
 cases x with
 |L o=>
  delta tz at e;dsimp only at e;cases ao:C[o]?with
  |none=>rw[ao]at e;exact bf e
  |some q=>
   rw[ao]at e;cases q with
   |list l=>
    cases z with
    |int i=>exact dZ e λq w=>k o l i rfl ao rfl q<|bp w
    |_=>exact bf e
   |_=>exact bf e
 |_=>exact bf e
def R2{Q:Unit->Shared->Prop}{eS:Addr}(O:bJ c.w c.N c.au s.heap M C)(cb:bb s.heap M a x)(aJ:s.heap.IsSliceOf eS v .none .none)(jD:bb s.heap M v z)(e:tz C z x=some S)(h:∀aY bt,bY c [] s M aY bt S->Q () aY):
  wpAny (model c.prog c.w) A (delItem a<|.ref eS) Q aB s:=by
 refine R1 e λo l i ac ao hz ah e'=> ?_
 clear e
 subst ac hz e';obtain⟨p,vs,n,ab,rfl,lv,aA,bg,fs,aF⟩:=bJ.list O ao cb;obtain⟨oD,ef,ia⟩:=ah;obtain⟨k,rfl⟩:=xG ef;cases jD;exact R0 aA aJ (V aF<|Int.ofNat_le.mp ia) (V aF fs) λaO eH aD xH=>h _ M<|bY.xI (t:=s.toks) O ab oD lv aA aD xH (λK=>(bg.keep K).take k)<|a3 (vA _ _) fs
structure DE(K:Frag)(aI:Addr):Prop where
 get:plainGet K aI ""=true
 bC:hasDictIn K aI=true
 set:findIn K (.ref aI) "__setattr__"=some (some<|.builtin "object.__setattr__")
 R3:plainOver K aI=true
def vF{l:List Str}{x y:Str}(Y:l.idxOf? x=some i)(ae:l.idxOf? y=some i):x=y:=by rw[List.idxOf?,xA]at Y ae;obtain⟨a,b,B⟩:=Y;obtain⟨B,d,cr⟩:=ae;simp only[beq_iff_eq]at b d;exact eF b<|eF d rfl
def R4{l:List Str}{x:Str}(Y:l.idxOf? x=some i):i<l.length:=by rw[List.idxOf?,xA]at Y;exact Y.1
def Aa{e:DictEntry}{r:List DictEntry}{y:Str}(h:e.key.isStr y):lp y (e::r)=some e.val:=ai (Option.map λe:DictEntry=>e.val)<|vG (p:=λe:DictEntry=>e.key.isStr y) h
def tU{e:DictEntry}{r:List DictEntry}{y:Str}(h:e.key.isStr y=false):lp y (e::r)=lp y r:=ai (Option.map λe:DictEntry=>e.val)<|List.find?_cons_of_neg (p:=λe:DictEntry=>e.key.isStr y)<|mH.mp h
def Je{x y:Str}(h:v.isStr x)(n:y≠x):v.isStr y=false:=by
 cases v with
 |str z B=>exact beq_eq_false_iff_ne.mpr λe=>n<|br e<|eq_of_beq h
 |_=>exact b7 h
section
variable{t:Tok}
def xK{e:DictEntry}(h:e.key.isStr name):putL name oE (.str name t) v (e::aw)=⟨e.hash,e.key,v⟩::aw:=bh h
def xL{e:DictEntry}(h:e.key.isStr name=false):putL name oE (.str name t) v (e::aw)=e::putL name oE (.str name t) v aw:=bH<|mH.mp h
def R5:lp name (putL name oE (.str name t) v aw)=some v:=by
 induction aw with
 |nil=>exact Aa (e:=⟨oE,.str name t,v⟩)<|beq_self_eq_true name
 |cons e r ay=>
  cases an:e.key.isStr name with
  |true=>exact V (xK an)<|Aa (e:=⟨e.hash,e.key,v⟩) an
  |false=>exact V (xL an)<|(tU an).trans ay
def Jf{y:Str}(n:y≠name):lp y (putL name oE (.str name t) v aw)=lp y aw:=by
 induction aw with
 |nil=>exact tU (e:=⟨oE,.str name t,v⟩)<|beq_eq_false_iff_ne.mpr n.symm
 |cons e r ay=>
  cases an:e.key.isStr name with
  |true=>exact V (xK an)<|(tU (e:=⟨e.hash,e.key,v⟩)<|Je an n).trans (tU<|Je an n).symm
  |false=>
   refine V (xL an) ?_;cases a8:e.key.isStr y with
   |true=>exact(Aa a8).trans (Aa a8).symm
   |false=>exact(tU a8).trans<|ay.trans (tU a8).symm
def R6(h:rO aw):rO (putL name oE (.str name t) v aw):=by
 induction aw with
 |nil=>exactλe he=>bR he▸⟨_,_,rfl⟩
 |cons e r ay=>
  have q:=mJ.mp h;cases an:e.key.isStr name with
  |true=>exact V (xK an)<|mJ.mpr ⟨q.1,q.2⟩
  |false=>exact V (xL an)<|mJ.mpr ⟨q.1,ay q.2⟩
def Jg:(putL name oE (.str name t) v aw).length<=aw.length+1:=by
 induction aw with
 |nil=>exact gF _
 |cons e r ay=>
  cases an:e.key.isStr name with
  |true=>exact V (xK an)<|jZ _
  |false=>exact V (xL an)<|kX ay
def R7(h:lp name aw=some u):(putL name oE (.str name t) v aw).length=aw.length:=by
 induction aw with
 |nil=>exact bf h
 |cons e r ay=>
  cases an:e.key.isStr name with
  |true=>exact V (xK an) rfl
  |false=>exact V (xL an) (ai (·+1)<|ay<|(tU an).symm.trans h)
end
def R8{p q:Nat->Bool}(h:∀x,p x->q x){f:Nat}(ab:p f=false)(aC:q f){l:List Nat}:f∈l->l.countP p<l.countP q:=by
 induction l with
 |nil=>exactλh=>absurd h b5
 |cons x r ay=>
  intro hm;have cj:r.countP p<=r.countP q:=List.countP_mono_left λx B=>h x;refine V List.countP_cons<|V List.countP_cons ?_;rcases cS hm with rfl|hm
  ·rw[ab,aC];exact pG cj
  ·cases ac:p x with
   |true=>rw[h x ac];exact tV<|ay hm
   |false=>exact c7 (ay hm)<|cT _ _
def Jh{F:Nat->Option I}{f:Nat}{v:I}(i:Nat)(h:(F i).isSome=true):(ar F f v i).isSome=true:=by
 delta ar
 split
 ·rfl
 ·exact h
def R9{n f:Nat}{F:Nat->Option I}{v:I}:rN n F<=rN n (ar F f v):=List.countP_mono_left λi B=>Jh i
def Sa{n f:Nat}{F:Nat->Option I}{v:I}(hf:f<n)(h:F f=none):rN n F+1<=rN n (ar F f v):=R8 (p:=λi=>(F i).isSome) (q:=λi=>(ar F f v i).isSome) Jh (ai Option.isSome h) (ai Option.isSome<|bh rfl)<|pH.mpr hf
def Sb(n:Nat)(F:Nat->Option I):rN n F<=n:=a3 List.countP_le_length<|cM tW
def bJ.cR(O:bJ c.w c.N c.au s.heap M C){F:Nat->Option I}(e:C[k]? =some (.cR cl F))(r:bb s.heap M v (.L k)):
  ∃(p:Addr×Option Addr) (aI gK:Addr) (aw:List DictEntry) (n:Nat),M[k]? =some p/\v=.ref p.1/\c.N.ca[cl]? =some aI/\p.2=some gK/\s.heap.get? p.1=some (instObj aI gK)/\s.heap.get? gK=some (dictOf aw n)/\rO aw/\aw.length<=rN c.N.fr.length F/\
   (∀x,lo s.heap M (lp x aw)<|(c.N.fr.idxOf? x).bind F)/\(∀x,(lp x aw).isSome=true->(c.N.fr.idxOf? x).isSome=true):=by
 cases r with
 |L ab=>have R:=O.objs k _ _ ab e;obtain⟨aI,gK,aw,n,h⟩:=R;exact⟨_,aI,gK,aw,n,ab,rfl,h⟩
structure Ab(c:Ctx)(K:Frag)(b1:Nat->Nat->Option Nat):Prop where
 xM:K.In c.au
 cls:∀(k:Nat) (aI:Addr),c.N.ca[k]? =some aI->DE K aI
 Ji:∀(k:Nat) (aI:Addr) (x:Str) (i:Nat),c.N.ca[k]? =some aI->c.N.fr.idxOf? x=some i->b1 k i=none->findIn K (.ref aI) x=some none
def bb.Sd(r:bb h M v z):handedIn v:=by cases r<;>rfl
def Ac{p:Addr}{n:Nat}(Y:h.get? p=some (instObj aI gK))(ae:h.get? gK=some (dictOf aw n)):InstAt h p (instObj aI gK) aI (some<|dictOf aw n):=⟨Y,rfl,rfl,ae⟩
def Jj{β:Type}{o:Option b3}{f:Nat->(Nat->Option I)->Option β}{r:β}(e:(match o with|some (.cR c F)=>f c F|_=>none)=some r)(k:∀c F,o=some (.cR c F)->f c F=some r->R):R:=by
 cases o with
 |none=>exact bf e
 |some o=>
  cases o with
  |cR c F=>exact k c F rfl e
  |_=>exact bf e
def Jk{f:Nat}{expr:Bool}(T:Ab c K b1)(O:bJ c.w c.N c.au s.heap M C)(cb:bb s.heap M a x)(hf:c.N.fr.idxOf? name=some f)(e:hs b1 C f x=some z)(h:eN c s M C z Q):wpAny (model c.prog c.w) A (getAttr a name expr) Q aB s:=by
 cases x with
 |L o=>refine Jj e λcl F kW e=>dZ e λhm e=> ?_;obtain⟨p,aI,gK,aw,n,ab,rfl,eX,bC,Y,ae,an,ao,aH,ac⟩:=bJ.cR O kW cb;have R:=aH name;rw[hf,Option.bind_some,e]at R;obtain⟨u,bD,Jl⟩:=R.Df;exact get_value (T.xM.keeps O.keep) (Ac Y ae) (plainGet_of (T.cls _ _ eX).get).1 (findObj_own (T.cls _ _ eX).bC (T.Ji _ _ _ _ eX hf hm) rfl<|bD▸Il an) Jl.Sd<|h _ M _ (.jz O _) Jl
 |_=>exact bf e
def Se{m:Nat}{F:Nat->Option I}{cV:Addr}{Q:Value×List Value->Shared->Prop}{o:Nat}(T:Ab c K b1)(O:bJ c.w c.N c.au s.heap M C)(cb:bb s.heap M a (.L o))(kW:C[o]? =some (.cR cl F))(hf:c.N.fr.idxOf? name=some m)(hR:F m=none)(eX:c.N.ca[cl]? =some aI)(rY:findIn K (.ref aI) name=some (some<|.ref cV))(rZ:isFn K (.ref cV)=true)(h:Q (.ref cV,[a]) s):
  wpAny (model c.prog c.w) A (getMethod a name f7) Q aB s:=by
 obtain⟨p,gG,gK,aw,n,ab,rfl,Sf,bC,Y,ae,an,ao,aH,ac⟩:=bJ.cR O kW cb;obtain rfl:=bp<|br eX Sf;have R:=aH name;rw[hf,Option.bind_some,hR]at R;exact method_fn (T.xM.keeps O.keep) (Ac Y ae) (plainGet_of (T.cls _ _ eX).get).1 (plainGet_of (T.cls _ _ eX).get).2 rY (beq_iff_eq.mp rZ) (show(lookIn name<|dictOf aw n).map _=_ from V (lookIn_dict _ _ _)<|V (Il an)<|V R.Qn rfl) h
def Sg{f:Nat}{F:Nat->Option I}{t:Tok}(eX:N.ca[cl]? =some aI)(bC:p.2=some gK)(Y:aO.get? p.1=some (instObj aI gK))(ae:aO.get? gK=some (dictOf (putL name oE (.str name t) v aw) eH))(an:rO aw)(ao:aw.length<=rN N.fr.length F)(aH:∀x,lo h M (lp x aw)<|(N.fr.idxOf? x).bind F)(ac:∀x,(lp x aw).isSome=true->(N.fr.idxOf? x).isSome=true)(hf:N.fr.idxOf? name=some f)(K:g4 h M aO M)(jD:bb h M v z):om w N aO M p (.cR cl<|ar F f z):=by
 refine⟨aI,gK,_,_,eX,bC,Y,ae,R6 an,?_,λy=> ?_,λy a8=> ?_⟩
 ·have R:=aH name;rw[hf,Option.bind_some]at R;cases Jm:F f with
  |none=>exact a3 Jg<|a3 (kX ao)<|Sa (R4 hf) Jm
  |some q=>rw[Jm]at R;obtain⟨u,bD,B⟩:=R.Df;exact a3 (cM<|R7 bD)<|a3 ao R9
 ·by_cases a8:y=name
  ·subst a8;exact V R5 (V (show(N.fr.idxOf? y).bind (ar F f z)=some z from(ai (·.bind (ar F f z)) hf).trans<|bh rfl)<|jD.keep K)
  ·have e:(N.fr.idxOf? y).bind (ar F f z)=(N.fr.idxOf? y).bind F:=by
    cases ah:N.fr.idxOf? y with
    |none=>rfl
    |some i=>exact bH λq=>a8<|vF (q▸ah) hf
   exact V (Jf a8)<|V e<|(aH y).keep K
 ·by_cases Jn:y=name
  ·subst Jn;exact V hf rfl
  ·exact ac y<|Jf Jn▸a8
def Sh{p:Addr}{n:Nat}{Q:Unit->Shared->Prop}(a4:K.In s.heap)(DF:DE K aI)(aP:takerIn K aI name=some none)(Y:s.heap.get? p=some (instObj aI gK))(ae:s.heap.get? gK=some (dictOf aw n))(an:rO aw)(ao:aw.length<=1000)(h:∀aO t ic,aO.get? gK=some (dictOf (putL name (PyData.keyHash c.w.params name) (.str name ic) v aw)<|putN name aw n)->Heap.SameBut gK s.heap aO->Q () {s with heap:=aO,toks:=t}):wpAny (model c.prog c.w) A (setAttr (.ref p) name v) Q aB s:=by
 refine set_plain a4 (Ac Y ae) DF.set<|osa_open (s:={s with toks:=s.toks+1}) a4 (Ac Y ae) DF.R3 aP λb=> ?_;obtain⟨cd,ag,Ad⟩:=any_some DF.bC;have xN:(s.heap.update gK<|Obj.putName name (PyData.keyHash c.w.params name) (.str name<|s.toks+1) v).get? gK=some (dictOf (putL name (PyData.keyHash c.w.params name) (.str name<|s.toks+1) v aw)<|putN name aw n):=by rw[<-putName_dict];exact Heap.get?_update_self _ ae (by rw[putName_dict];rfl)
 refine wpAny_bind<|wpAny_pure<|wpAny_bind<|wpAny_bind<|wpAny_loadPart Y<|wpAny_bind<|(looks_clsIn a4 ag).at (V Ad ?_);refine wpAny_pure (a:=some gK)<|wpAny_bind<|wpAny_pure<|wpAny_bind (m:=nsSet _ _ _) ?_;refine wpAny_bind<|wpAny_bind<|wpAny_askSetting<|wpAny_pure<|wpAny_bind<|wpAny_mkText<|wpAny_bind<|wpAny_loadPart ae ?_;dsimp only;have rS:aw.toArray.any (·.refKey)=false:=by rw[Array.any_toList.symm];exact List.any_eq_false.mpr λe he q=>(an e he).elim λn eW=>eW.elim λt nx=>by simp [DictEntry.refKey,nx]at q
 refine V (aRefKeyMayBeTheName_at _ _) (V (show(!aw.toArray.any (·.key.isStr name)&&aw.toArray.any (·.refKey))=false from V rS<|Bool.and_false _) ?_);exact wpAny_updatePart ae (wpAny_bind<|wpAny_lookBehind xN (pastItsLine_dict<|a3 Jg<|kX<|a3 ao<|by decide)<|wpAny_pure<|h _ _ _ xN<|Heap.SameBut.update ..)
def Jo{f:Nat}{Q:Unit->Shared->Prop}(T:Ab c K b1)(Si:c.N.fr.length<=1000)(O:bJ c.w c.N c.au s.heap M C)(cb:bb s.heap M a x)(jD:bb s.heap M v z)(hf:c.N.fr.idxOf? name=some f)(e:kj b1 C f z x=some S)(h:∀aY bt,bY c [] s M aY bt S->Q () aY):wpAny (model c.prog c.w) A (setAttr a name v) Q aB s:=by
 cases x with
 |L o=>
  refine Jj e λcl F kW e=>dZ e λhm e=> ?_;obtain rfl:=bp e;obtain⟨p,aI,gK,aw,n,ab,rfl,eX,bC,Y,ae,an,ao,aH,ac⟩:=bJ.cR O kW cb;have aP:takerIn K aI name=some none:=by delta takerIn;exact V (T.Ji _ _ _ _ eX hf hm.2) rfl
  refine Sh (T.xM.keeps O.keep) (T.cls _ _ eX) aP Y ae an (a3 ao<|a3 (Sb _ _) Si) λaO t ic xN vH=> ?_;refine h _ M (bY.de O ab hm.1 (.inr bC) vH ⟨_,xN⟩ (λq aC=>bp (br ae aC)▸(show¬Value.type "dict"=.type "tuple" by decide)) λdQ=> ?_);exact Sg eX bC ((vH.2 _ λq=>absurd (show Value.ref aI=.type "dict" from ai Obj.cls<|bp<|br Y<|(ai s.heap.get? q).trans ae) nofun).trans Y) xN an ao aH ac hf dQ jD
 |_=>exact bf e
end
end
section
structure dR(c:Ctx)(W:List Addr)(aW:Nat)(aL:jy)(sc:Sc)(aN:Env)(h:Heap)(M:c6)(H:bT):Prop where
 kind:aN.scope.kind=.function
 glob:aN.globals=mainGlobals
 blt:aN.builtins=builtinsNs
 kinds:∀x k,sc.lookup x=some k->aN.kindOf x=some k\/(k=.free/\aN.kindOf x=some .cell)
 nodict:∀x k,sc.lookup x=some k->(x==("__classdict__":Str))=false
 lt:∀x i,aL.lookup x=some i->i<aW
 top:∀i,aW<=i->H i=none
 dot:aL.lookup (".0":Str)=none
 inj:∀x y i,aL.lookup x=some i->aL.lookup y=some i->x=y
 ns:∃m,h.Ns aN.locals m/\∀x i d,sc.lookup x=some .local->aL.lookup x=some i->H i=some d->∃v,m x=some v/\bb h M v d
 cells:∀x i,sc.lookup x=some .cell\/sc.lookup x=some .free->aL.lookup x=some i->∃ca u,aN.cells.lookup x=some ca/\h.IsCell ca u/\∀d,H i=some d->∃v,u=some v/\bb h M v d
 r0:aN.locals∉foot M/\c.au.get? aN.locals=none
 ny:∀x ca,aN.cells.lookup x=some ca->ca∉foot M/\c.au.get? ca=none/\ca≠aN.locals
 lw:∀x ca,aN.cells.lookup x=some ca->∃u,h.IsCell ca u
 apart:∀x y ca,aN.cells.lookup x=some ca->aN.cells.lookup y=some ca->x=y
 xO:aN.locals∈W
 DG:∀x ca,sc.lookup x=some .cell->aN.cells.lookup x=some ca->ca∈W
 lx:∀b∈W,b∉foot M/\c.au.get? b=none/\∃o,h.get? b=some o/\¬∃dP n,o.data=.seq dP n
section
variable{a b:Value}{x:I}
def Heap.Ns.Jp{a:Addr}(n:h.Ns a m)(e:∀o,h.get? a=some o->aO.get? a=some o):aO.Ns a m:=let⟨o,aw,ep,aA,r⟩:=n;⟨o,aw,ep,e _ aA,r⟩
def dR.xP(F:dR c W aW aL sc aN s.heap M H)(g:bY c km s M aY bt S)(fL:nq s.heap km)(bC:∀b∈km,b≠aN.locals/\b∉W/\∀x ca,aN.cells.lookup x=some ca->ca≠b):dR c W aW aL sc aN aY.heap bt H:=by
 have K:=g.tr.keep fL;have Jq:aN.locals∉km:=λq=>(bC _ q).1 rfl;have Ae:∀{x ca},aN.cells.lookup x=some ca->ca∉km:=λh q=>(bC _ q).2.2 _ _ h rfl;have cell:∀{x ca u},aN.cells.lookup x=some ca->s.heap.IsCell ca u->aY.heap.IsCell ca u:=λh ⟨o,q⟩=>⟨o,g.tr.kl _ _ q.1 (F.ny _ _ h).1<|Ae h,q.2⟩;obtain⟨m,hm,aS⟩:=F.ns;obtain⟨Sj,B,cr,DH,eE⟩:=id hm;exact{F with
  ns:=⟨m,Heap.Ns.Jp hm λo e=>g.tr.kl _ _ e F.r0.1 Jq,λx i d Y ae ba=>(aS x i d Y ae ba).elim λv q=>⟨v,q.1,q.2.keep K⟩⟩
  cells:=λx i Y ae=>(F.cells x i Y ae).elim λca q=>q.elim λu q=>⟨ca,u,q.1,cell q.1 q.2.1,λd vC=>(q.2.2 d vC).elim λv r=>⟨v,r.1,r.2.keep K⟩⟩
  r0:=⟨g.tr.fR DH F.r0.1 Jq,F.r0.2⟩
  ny:=λx ca h=>(F.lw x ca h).elim λu q=>q.elim λo q=>⟨g.tr.fR q.1 (F.ny _ _ h).1<|Ae h,(F.ny _ _ h).2⟩
  lw:=λx ca h=>(F.lw x ca h).elim λu q=>⟨u,cell h q⟩
  lx:=λb aj=>have nb:b∉km:=λq=>(bC _ q).2.1 aj
   (F.lx b aj).2.2.elim λo q=>⟨g.tr.fR q.1 (F.lx b aj).1 nb,(F.lx b aj).2.1,o,g.tr.kl _ _ q.1 (F.lx b aj).1 nb,q.2⟩}
def dR.step(F:dR c W aW aL sc aN s.heap M H)(g:bY c [] s M aY bt S):dR c W aW aL sc aN aY.heap bt H:=F.xP g (λB h=>absurd h b5) λB h=>absurd h b5
def dR.nz(F:dR c W aW aL sc aN s.heap M H):nq s.heap W:=λb aj o e B q=>(F.lx b aj).2.2.elim λo' r=>r.2<|bp (br e r.1)▸q
def bY.ext(O:bJ c.w c.N c.au s.heap M C){a:Addr}{t:Nat}(aU:a∉foot M/\c.au.get? a=none)(k:∀b o,s.heap.get? b=some o->b≠a->aO.get? b=some o)(fL:∀o,s.heap.get? a=some o->o.cls=.type "tuple"->(∃dP n,o.data=.seq dP n)->False):
  bY c [a] s M {s with heap:=aO,toks:=t} M C/\g4 s.heap M aO M:=
 have bu:∀{b},b∈foot M->b≠a:=λaj q=>aU.1<|q▸aj;have aD:∀{b},b∈[a]->b=a:=λh=>bR h
 ⟨⟨⟨⟨[],(ew _).symm,λB h=>absurd h b5⟩,λb o e B m=>k b o e λq=>m<|q▸qH _,λb o e aj=>⟨o,k b o e<|bu aj⟩,λp b o ab aj e=>k b o e<|bu<|zM ab aj⟩,
  O.tJ (W:=[a]) (λb aj o e cl q=>fL o (aD aj▸e) cl q) (λb aj=>aD aj▸aU) λb o e m=>k b o e λq=>m (q▸qH _),rfl,rfl,rfl⟩,⟨⟨[],(ew _).symm⟩,λb o e cl q n=>⟨k b o e λm=>fL o (m▸e) cl q,n⟩⟩⟩
def bY.cell(O:bJ c.w c.N c.au s.heap M C){a:Addr}{t:Nat}(aU:a∉foot M/\c.au.get? a=none)(aJ:Heap.SameBut a s.heap aO)(fL:∀o,s.heap.get? a=some o->o.cls=.type "tuple"->(∃dP n,o.data=.seq dP n)->False):
  bY c [a] s M {s with heap:=aO,toks:=t} M C/\g4 s.heap M aO M:=bY.ext O aU (λb B e n=>(aJ.2 b n).trans e) fL
def xQ{x:Str}(h:oe aL sc x=some i):(sc.lookup x=some .local\/sc.lookup x=some .cell)/\aL.lookup x=some i:=by
 delta oe at h;cases q:sc.lookup x with
 |none=>rw[q]at h;exact bf h
 |some k=>
  rw[q]at h;cases k with
  |«local»=>exact⟨.inl rfl,h⟩
  |cell=>exact⟨.inr rfl,h⟩
  |_=>exact bf h
def Jr{j:Nat}{d:I}{o:Option I}(h:j≠i)(e:H j=o):ar H i d j=o:=(bH h).trans e
def dR.Js{x:Str}{d:I}(F:dR c W aW aL sc aN s.heap M H)(aS:aL.lookup x=some i):∀j,aW<=j->ar H i d j=none:=λj aQ=>Jr (dd<|c7 (F.lt _ _ aS) aQ)<|F.top j aQ
def dR.Jt{a:Addr}(F:dR c W aW aL sc aN s.heap M H)(aJ:Heap.SameBut a s.heap aO)(aU:∃o,aO.get? a=some o/\¬∃dP n,o.data=.seq dP n):∀b∈W,b∉foot M/\c.au.get? b=none/\∃o,aO.get? b=some o/\¬∃dP n,o.data=.seq dP n:=λb aj=>⟨(F.lx b aj).1,(F.lx b aj).2.1,if e:b=a then e▸aU else(F.lx b aj).2.2.elim λo aA=>⟨o,(aJ.2 _ e).trans aA.1,aA.2⟩⟩
def Af{a:Addr}{u:Option Value}(aJ:Heap.SameBut a h aO)(n:ca≠a)(ag:h.IsCell ca u):aO.IsCell ca u:=ag.elim λo q=>⟨o,(aJ.2 _ n).trans q.1,q.2⟩
def dR.Sk{x:Str}{d:I}{Q:Unit->Shared->Prop}(F:dR c W aW aL sc aN s.heap M H)(O:bJ c.w c.N c.au s.heap M C)(an:sc.lookup x=some .local)(l6:aL.lookup x=some i)(jD:bb s.heap M v d)(h:∀aY,dR c W aW aL sc aN aY.heap M (ar H i d)->bY c W s M aY M C->Q () aY):wpAny (model c.prog c.w) A (bindName aN x v) Q aB s:=by
 obtain⟨m,hm,aS⟩:=F.ns;obtain⟨Sj,acB,acC,DH,Sl,B⟩:=id hm;refine wpAny_bindName (wpAny_storeName_local ((F.kinds x _ an).elim id λq=>nomatch q.1) hm (λaO hn aJ=> ?_)<|V F.kind rfl);obtain⟨g,K⟩:=bY.cell (t:=s.toks+1) O F.r0 aJ λo e B ⟨cr,eE,q⟩=>nomatch (bp (br DH e)▸Sl).symm.trans q;obtain⟨Sm,B,cr,Sn,So,eE⟩:=id hn;refine h _ {F with
  top:=F.Js l6
  ns:=⟨_,hn,λy j e Y ae ba=> ?_⟩
  cells:=λy j Y ae=> ?_
  lw:=λy ca h=>(F.lw y ca h).elim λu q=>⟨u,Af aJ (F.ny _ _ h).2.2 q⟩
  lx:=F.Jt aJ ⟨Sm,Sn,λ⟨B,cr,q⟩=>nomatch So.symm.trans q⟩} (g.cj λb aj=>bR aj▸F.xO)
 ·by_cases a8:y=x
  ·subst a8;obtain rfl:=bp<|br l6 ae;exact⟨v,bh rfl,(bp ((bh rfl).symm.trans ba)▸jD).keep K⟩
  ·exact(aS y j e Y ae<|(bH λq=>a8<|F.inj _ _ _ (q▸ae) l6).symm.trans ba).elim λu q=>⟨u,(bH a8).trans q.1,q.2.keep K⟩
 ·have aQ:j≠i:=λq=>by
   obtain rfl:=F.inj _ _ _ (q▸ae) l6;rw[an]at Y;exact Y.elim (λq=>nomatch q) λq=>nomatch q
  exact(F.cells y j Y ae).elim λca q=>q.elim λu q=>⟨ca,u,q.1,Af aJ (F.ny _ _ q.1).2.2 q.2.1,λe he=>(q.2.2 e<|(bH aQ).symm.trans he).elim λw r=>⟨w,r.1,r.2.keep K⟩⟩
def dR.Ag{x:Str}{d:I}{Q:Unit->Shared->Prop}(F:dR c W aW aL sc aN s.heap M H)(O:bJ c.w c.N c.au s.heap M C)(ac:oe aL sc x=some i)(jD:bb s.heap M v d)(h:∀aY,dR c W aW aL sc aN aY.heap M (ar H i d)->bY c W s M aY M C->Q () aY):wpAny (model c.prog c.w) A (bindName aN x v) Q aB s:=by
 obtain⟨an,l6⟩:=xQ ac;refine an.elim (λan=>F.Sk O an l6 jD h) λan=> ?_;obtain⟨m,hm,aS⟩:=F.ns;obtain⟨ca,u,aD,ag,cP⟩:=F.cells x i (.inl an) l6;obtain⟨mL,Sp,Ah⟩:=id ag;refine wpAny_bindName<|wpAny_storeName_cell F.kind ((F.kinds x _ an).elim id λq=>q.2) aD ag λaO DI aJ=> ?_;obtain⟨g,K⟩:=bY.cell (t:=s.toks) O ⟨(F.ny _ _ aD).1,(F.ny _ _ aD).2.1⟩ aJ λo e B ⟨cr,eE,q⟩=>nomatch (bp (br Sp e)▸Ah).symm.trans q;refine h _ {F with
  top:=F.Js l6
  ns:=⟨m,Heap.Ns.Jp hm λo e=>(aJ.2 _<|Ne.symm (F.ny _ _ aD).2.2).trans e,λy j e Y ae ba=> ?_⟩
  cells:=λy j Y ae=> ?_
  lw:=λy Ju h=>if e:Ju=ca then e▸⟨_,DI⟩else(F.lw y Ju h).elim λu q=>⟨u,Af aJ e q⟩
  lx:=F.Jt aJ (DI.elim λo q=>⟨o,q.1,λ⟨B,cr,r⟩=>nomatch q.2.symm.trans r⟩)} (g.cj λb aj=>bR aj▸F.DG _ _ an aD)
 ·have aQ:j≠i:=λq=>by
   obtain rfl:=F.inj _ _ _ (q▸ae) l6;exact nomatch an.symm.trans Y
  exact(aS y j e Y ae<|(bH aQ).symm.trans ba).elim λu q=>⟨u,q.1,q.2.keep K⟩
 ·by_cases a8:y=x
  ·subst a8;obtain rfl:=bp<|br l6 ae;exact⟨ca,some v,aD,DI,λe he=>⟨v,rfl,(bp ((bh rfl).symm.trans he)▸jD).keep K⟩⟩
  ·have aQ:j≠i:=λq=>a8<|F.inj _ _ _ (q▸ae) l6;exact(F.cells y j Y ae).elim λDJ q=>q.elim λu q=>⟨DJ,u,q.1,Af aJ (λr=>a8<|F.apart _ _ _ (r▸q.1) aD) q.2.1,λe he=>(q.2.2 e<|(bH aQ).symm.trans he).elim λw r=>⟨w,r.1,r.2.keep K⟩⟩
def Sq{x:Str}(h:rL aL sc x=some i):(sc.lookup x=some .local\/sc.lookup x=some .cell\/sc.lookup x=some .free)/\aL.lookup x=some i:=by
 delta rL at h;cases q:sc.lookup x with
 |none=>rw[q]at h;exact bf h
 |some k=>
  rw[q]at h;cases k with
  |«local»=>exact⟨.inl rfl,h⟩
  |cell=>exact⟨.inr<|.inl rfl,h⟩
  |free=>exact⟨.inr<|.inr rfl,h⟩
  |_=>exact bf h
def dR.load{x:Str}{d:I}(F:dR c W aW aL sc aN s.heap M H)(ac:rL aL sc x=some i)(bC:H i=some d)(h:∀v,bb s.heap M v d->Q v s):wpAny (model c.prog c.w) A (loadName aN x) Q aB s:=by
 obtain⟨an,l6⟩:=Sq ac;rcases an with an|an
 ·obtain⟨m,hm,aS⟩:=F.ns;obtain⟨v,Y,ae⟩:=aS x i d an l6 bC;exact wpAny_loadName_local F.kind ((F.kinds x _ an).elim id λq=>nomatch q.1) hm Y<|h v ae
 ·obtain⟨ca,u,aD,ag,cP⟩:=F.cells x i an l6;obtain⟨v,rfl,aH⟩:=cP d bC;rcases an with an|an
  ·exact wpAny_loadName_cell F.kind ((F.kinds x _ an).elim id λq=>q.2) aD ag<|h v aH
  ·exact(F.kinds x _ an).elim (λoB=>wpAny_loadName_free F.kind oB aD ag (h v aH)<|F.nodict _ _ an) λq=>wpAny_loadName_cell F.kind q.2 aD ag<|h v aH
def bb.au{d:I}(O:bJ c.w c.N c.au s.heap M C)(r:bb c.au [] v d):bb s.heap M v d:=r.keep ⟨⟨M,rfl⟩,λb o e B B B=>⟨O.keep _ _ e,λh=>bf<|(O.fR _ h).symm.trans e⟩⟩
def mM(h:Heap)(M:c6)(it:Addr)(cg:Option Nat)(cF:List I)(i:Nat):Prop:=
 (∃t vs,cg=none/\h.IsTupleIter it t i/\h.IsTuple t vs.toArray/\t∉foot M/\t≠it/\b9 h M vs cF)\/
 (∃k p,cg=some k/\M[k]? =some p/\h.IsListIter it p.1 i)\/
 (∃n:Int,cg=none/\cF=qs n/\n<16000000/\i<=n.toNat/\IsRangeIter h it i (n.toNat-i:Int) 1)
def mM.step{cF:List I}(bj:mM s.heap M it cg cF i)(hit:it∉foot M)(g:bY c W s M aY bt S)(hv:it∉W)(fL:nq s.heap W):mM aY.heap bt it cg cF i:=by
 have K:=g.tr.keep fL;have same:∀o,s.heap.get? it=some o->aY.heap.get? it=some o:=λo e=>g.tr.kl _ _ e hit hv;rcases bj with⟨t,vs,e,⟨o,aA,r⟩,⟨mK,rU,ag,n,bC⟩,hn,gr,aV⟩|⟨k,p,e,ab,⟨o,aA,r⟩⟩|⟨n,e,aF,cP,et,j0⟩
 ·have q:=K.ak t mK rU ag ⟨_,n,bC⟩ hn;exact .inl ⟨t,vs,e,⟨o,same _ aA,r⟩,⟨mK,q.1,ag,n,bC⟩,q.2,gr,aV.keep K⟩
 ·exact .inr<|.inl ⟨k,p,e,K.get ab,⟨o,same _ aA,r⟩⟩
 ·exact .inr<|.inr ⟨n,e,aF,cP,et,same _ j0⟩
def Sr(n:Int)(i:Nat):(qs n)[i]? =if i<n.toNat then some (.int i)else none:=by
 refine ou.trans ?_;by_cases h:i<n.toNat
 ·exact V (List.getElem?_range h) (bh h).symm
 ·exact V (List.getElem?_eq_none<|a3 (cM tW)<|Nat.not_lt.mp h) (bH h).symm
def Ss{cF:List I}(h:hc C (some k) cF=true):C[k]? =some (.list cF):=by
 delta hc at h;dsimp only at h;cases ao:C[k]?with
 |none=>rw[ao]at h;exact b7 h
 |some o=>
  rw[ao]at h;cases o with
  |list l=>exact ai (λl=>some<|b3.list l)<|dx h
  |_=>exact b7 h
theorem Ai{cF:List I}{Q:Option Value->Shared->Prop}(K:en d A)(O:bJ c.w c.N c.au s.heap M C)(bj:mM s.heap M it cg cF i)(hit:it∉foot M/\c.au.get? it=none)(Jv:∃o,s.heap.get? it=some o/\¬∃dP n,o.data=.seq dP n)(hI:hc C cg cF)(h:∀x v aY,cF[i]? =some x->bY c [it] s M aY M C->bb aY.heap M v x->mM aY.heap M it cg cF (i+1)->Q (some v) aY)(h0:∀aY,cF[i]? =none->bY c [it] s M aY M C->Q none aY):wpAny (model c.prog c.w) A (pyNext<|.ref it) Q aB s:=by
 have fL:∀o,s.heap.get? it=some o->o.cls=.type "tuple"->(∃dP n,o.data=.seq dP n)->False:=λo e B q=>Jv.elim λo' r=>r.2<|bp (br e r.1)▸q;have go:∀{aO} t,Heap.SameBut it s.heap aO->bY c [it] s M {s with heap:=aO,toks:=t} M C/\g4 s.heap M aO M:=λt aJ=>bY.cell O hit aJ fL;have jj:∀{aO},Heap.ExtBut it s.heap aO->bY c [it] s M {s with heap:=aO} M C:=λaJ=>(bY.ext (t:=s.toks) O hit (λb o e n=>aJ b o n e) fL).1
 clear fL Jv hit
 rcases bj with⟨t,vs,rfl,fG,aP,hn,gr,aV⟩|⟨k,p,rfl,ab,fG⟩|⟨n,rfl,rfl,hn,hle,fG⟩
 ·cases ac:cF[i]?with
  |some x=>obtain⟨v,aS,aH⟩:=aV.get ac;refine wpAny_pyNext_tuple_item fG aP (x:=v) (List.getElem?_toArray.trans aS) λaO xR aJ=> ?_;obtain⟨mK,rU,r⟩:=aP;exact h x v _ ac (go s.toks aJ).1 (aH.keep (go s.toks aJ).2)<|.inl ⟨t,vs,rfl,xR,⟨mK,(aJ.2 _ gr).trans rU,r⟩,hn,gr,aV.keep (go s.toks aJ).2⟩
  |none=>exact wpAny_pyNext_tuple_end K.handled fG aP (List.getElem?_toArray.trans<|List.getElem?_eq_none<|V aV.length<|List.getElem?_eq_none_iff.mp ac) λaO aJ=>h0 _ ac<|jj aJ
 ·obtain⟨qy,vs,n,pA,aS,lv,aA,bg,fs,aF⟩:=bJ.list O (Ss hI)<|bb.L ab;obtain rfl:=bp<|br ab pA;have xF:s.heap.IsList p.1 vs:=⟨_,aA,rfl,n,rfl⟩;cases ac:cF[i]?with
  |some x=>obtain⟨v,aS,aH⟩:=bg.get ac;exact wpAny_pyNext_list_item fG xF (x:=v) (br Array.getElem?_toList aS) λaO xR aJ=>h x v _ ac (go s.toks aJ).1 (aH.keep (go s.toks aJ).2)<|.inr<|.inl ⟨k,p,rfl,ab,xR⟩
  |none=>exact wpAny_pyNext_list_end K.handled fG xF (Array.getElem?_eq_none<|V aF<|List.getElem?_eq_none_iff.mp ac) λaO aJ=>h0 _ ac<|jj aJ
 ·rw[Sr]at h h0;by_cases ah:i<n.toNat
  ·rw[bh ah]at h;refine wpAny_pyNext_range_item fG (by lia) λaO xR aJ=> ?_;refine h _ _ _ rfl (go (s.toks+1) aJ).1 (.int _ _)<|.inr<|.inr ⟨n,rfl,rfl,hn,ah,?_⟩;exact(show(n.toNat-i:Int)-1=n.toNat-((i+1:Nat):Int) by lia)▸xR
  ·rw[bH ah]at h0;exact wpAny_pyNext_range_end K.handled fG (by lia) λaO aJ=>h0 _ rfl<|jj aJ
def Su(O:bJ c.w c.N c.au s.heap M C)(cb:bb s.heap M a x)(e:ni C x=some (l,cg))(h:∀aY it,bY c [] s M aY M C->s.heap.get? it=none->it∉foot M->c.au.get? it=none->(∃o,aY.heap.get? it=some o/\¬∃dP n,o.data=.seq dP n)->mM aY.heap M it cg l 0->Q (.ref it) aY):wpAny (model c.prog c.w) A (pyIter a) Q aB s:=by
 have d6:=rT s.heap;obtain⟨l7,nb⟩:=O.tO d6;refine xD e (λl ac e'=> ?_) λo l ac ao e'=> ?_
 ·clear e;subst ac
  obtain⟨rfl,rfl⟩:=dD e';obtain⟨gu,vs,rfl,jC,n2,d1,bg,aF⟩:=cb.ox;have g:=bY.push (W:=[]) O {cls:=.type "tuple_iterator",data:=.fields #[.ref gu,.int 0 0]} s.toks;exact wpAny_pyIter_tuple jC<|h _ _ g d6 l7 nb ⟨_,Heap.get?_push_size _ rfl,λ⟨B,cr,q⟩=>nomatch q⟩<|.inl ⟨gu,vs,rfl,⟨_,Heap.get?_push_size _ rfl,rfl,rfl⟩,jC.elim λo q=>⟨o,Heap.get?_push_of_some _ q.1,q.2⟩,n2,λq=>jC.elim λo r=>bf<|br d6<|q▸r.1,bg.keep g.keep⟩
 ·clear e;subst ac
  obtain⟨rfl,rfl⟩:=dD e';obtain⟨p,vs,n,ab,rfl,lv,aA,bg,fs,aF⟩:=bJ.list O ao cb;have g:=bY.push (W:=[]) O {cls:=.type "list_iterator",data:=.fields #[.ref p.1,.int 0 0]} s.toks;exact wpAny_pyIter_list (items:=vs) ⟨_,aA,rfl,n,rfl⟩<|h _ _ g d6 l7 nb ⟨_,Heap.get?_push_size _ rfl,λ⟨B,cr,q⟩=>nomatch q⟩<|.inr<|.inl ⟨o,p,rfl,ab,⟨_,Heap.get?_push_size _ rfl,rfl,rfl⟩⟩
end
end
section
noncomputable def tX:vh->Value
 |.len=>.builtin "len"
 |.tuple=>.type "tuple"
 |.sorted=>.builtin "sorted"
 |.all=>.builtin "all"
 |.range=>.type "range"
structure fY(c:Ctx)(P:jx)(G:gS)(K:Frag)(cV:Nat->Addr)(eg e5:Str->Option Value):Prop where
 cls:Ab c K P.b1
 fr:∀x k,G.xp x=some k->c.N.fr.idxOf? x=some k
 DK:c.N.fr.length<=1000
 sys:∃o,c.au.get? sysModules=some o
 lim:c.au.NoLimit
 g:c.au.Ns mainGlobals eg
 b:c.au.Ns builtinsNs e5
 Jw:∀x v,G.gl x=some (.val v)->∃u,eg x=some u/\bb c.au [] u v
 Jx:∀x f,G.gl x=some (.fn f)->eg x=some (.ref<|cV f)
 Jy:∀x k,G.gl x=some (.cls k)->∃aI,c.N.ca[k]? =some aI/\eg x=some (.ref aI)
 DL:∀x b,G.gl x=some (.cx b)->eg x=none/\e5 x=some (tX b)
 Jz:∀x g,G.gl x=some g->(x==("__debug__":Str))=false/\(x==("super":Str))=false
 DM:∀f fn,P.pv[f]? =some fn->keepIn K (.ref<|cV f)=true
 JA:∀(k:Nat) (aI:Addr),c.N.ca[k]? =some aI->keepIn K (.ref aI)=true
 JB:∀k m f (x:Str) (aI:Addr),P.b1 k m=some f->c.N.fr.idxOf? x=some m->c.N.ca[k]? =some aI->findIn K (.ref aI) x=some (some<|.ref<|cV f)/\isFn K (.ref<|cV f)=true
 JC:c.N.fr.idxOf? (aa "append")=some pw
 JD:c.N.fr.idxOf? (aa "pop")=some rJ
 JE:c.N.fr.idxOf? (aa "extend")=some xl
 DN:c.N.fr.idxOf? (aa "get")=some zA
structure r1(c:Ctx)(P:jx)(cV:Nat->Addr)(O:ht)(d:Nat):Prop where
 b1:O.b1=P.b1
 fn:∀f args C z S,O.fn f args C=some (z,S)->(∃fn,P.pv[f]? =some fn)/\
  ∀(A:Around) (aB:Value->Shared->Prop) (s:Shared) (M:c6) (vs:List Value) (Q:Value->Shared->Prop),en d A->bJ c.w c.N c.au s.heap M C->b9 s.heap M vs args->eN c s M S z Q->wpAny (model c.prog c.w) A (call (.ref<|cV f) vs) Q aB s
 make:∀k args C z S (aI:Addr),O.make k args C=some (z,S)->c.N.ca[k]? =some aI->
  ∀(A:Around) (aB:Value->Shared->Prop) (s:Shared) (M:c6) (vs:List Value) (Q:Value->Shared->Prop),en d A->bJ c.w c.N c.au s.heap M C->b9 s.heap M vs args->eN c s M S z Q->wpAny (model c.prog c.w) A (call (.ref aI) vs) Q aB s
section
variable{P:jx}{G:gS}
def dv(c:Ctx)(G:gS)(O:ht)(d:Nat)(e:Expr):Prop:=
 ∀(W:List Addr) (aW:Nat) (aL:jy) (sc:Sc) (aN:Env) (A:Around) (aB:Value->Shared->Prop) (s:Shared) (M:c6) (H:bT) (C S:St) (z:I) (dy:b4) (Q:Value->Shared->Prop),
  c9 G aL aW sc e=some dy->bV O dy H C=some (z,S)->en d A->dR c W aW aL sc aN s.heap M H->bJ c.w c.N c.au s.heap M C->eN c s M S z Q->wpAny (model c.prog c.w) A (eval e aN) Q aB s
def hx(c:Ctx)(G:gS)(O:ht)(d:Nat)(e:Expr):Prop:=
 ∀(W:List Addr) (aW:Nat) (aL:jy) (sc:Sc) (aN:Env) (A:Around) (aB:Value->Shared->Prop) (s:Shared) (M:c6) (H:bT) (C S:St) (z:I) (t:Bool) (dy:b4) (Q:Bool->Shared->Prop),
  c9 G aL aW sc e=some dy->bV O dy H C=some (z,S)->h3 S z=some t->en d A->dR c W aW aL sc aN s.heap M H->bJ c.w c.N c.au s.heap M C->(∀aY bt,bY c [] s M aY bt S->Q t aY)->wpAny (model c.prog c.w) A (isTrue e aN<|eval e aN) Q aB s
variable{x:I}{a b:Value}
def eN.gL(g:bY c [] s M aY bt ax)(h:eN c s M S z Q):eN c aY bt S z Q:=λzY tH v eO r=>h zY tH v (g.trans eO) r
def DO{e:Expr}(h:c9 G aL aW sc e=some dy)(rest:List Expr)(aN:Env):starEach (e::rest) aN=(false,eval e aN)::starEach rest aN:=by
 cases e<;>first|rfl|contradiction
def Aj{aw:List Expr}:∀{qI:List b4},hQ G aL aW sc aw=some qI->∀pos,(backTo pos<|starEach aw aN).all (λx=> !x.1)=true:=by
 induction aw with
 |nil=>exactλB B=>rfl
 |cons e aw ay=>exactλh pos=>bX h λm hm h=>dt h λms eP B=>V (DO hm _ _)<|ay eP pos
def DP(T:fY c P G K cV eg e5){aw:List Expr}:(∀e∈aw,dv c G O d e)->∀{qI:List b4} {zs:List I} {s:Shared} {M:c6} {C S:St} (pos:Pos) {R:List Value->Shared->Prop},hQ G aL aW sc aw=some qI->kS O qI H C=some (zs,S)->en d A->
  dR c W aW aL sc aN s.heap M H->bJ c.w c.N c.au s.heap M C->(∀aY bt vs,bY c [] s M aY bt S->b9 aY.heap bt vs zs->R vs aY)->wpAny (model c.prog c.w) A (spliced<|backTo pos<|starEach aw aN) R aB s:=by
 induction aw with
 |nil=>intro _ qI zs s M C S pos R h e aX F db fj;obtain rfl:=bp h;obtain⟨rfl,rfl⟩:=dD e;exact Calls.spliced_nil<|fj _ _ _ (.refl db) .nil
 |cons aD aw ay=>intro l8 qI zs s M C S pos R h e aX F db fj;refine bX h λer ey h=>dt h λms eP bM=> ?_;subst bM;refine c0 e λfb ax DQ e=>c0 e λSv bq Sw e=> ?_;obtain⟨rfl,rfl⟩:=dD e;exact V (DO ey _ _)<|Calls.spliced_cons<|l8 aD bo _ _ _ _ _ _ _ _ _ _ _ _ _ _ _ ey DQ aX F db λbe dL ez g1 bi=>ay (λe he=>l8 e<|bQ _ he) pos eP Sw aX (F.step g1) g1.ok λaY bt vs bd bg=>fj aY bt _ (g1.trans bd)<|.cons (bi.keep bd.keep) bg
def Sx{l:List (Bool×Sem Value)}(h:l.all (λx=> !x.1)=true):l.any (·.1)=false:=List.any_eq_false.mpr λx ac=>mH.mp<|(oA _).mp<|hg h x ac
def tY(T:fY c P G K cV eg e5){aw:List Expr}(l8:∀e∈aw,dv c G O d e){qI:List b4}{f:Value}{pos:Pos}(h:hQ G aL aW sc aw=some qI)(e:kS O qI H C=some (zs,S))(aX:en d A)(F:dR c W aW aL sc aN s.heap M H)(bW:bJ c.w c.N c.au s.heap M C)(an:∀h,(∀b o,c.au.get? b=some o->h.get? b=some o)->∃k,(k=Keeper.frame\/k=Keeper.machine\/k=Keeper.boundFrame)/\Looks (model c.prog c.w) h (keeperOf f) k)(fj:∀aY bt vs,bY c [] s M aY bt S->b9 aY.heap bt vs zs->wpAny (model c.prog c.w) A (call f<|first++vs) Q aB aY):wpAny (model c.prog c.w) A (callWith pos f first (backTo pos<|starEach aw aN)<|backToKw pos<|keywordEach [] aN) Q aB s:=by
 have ba:=DP (A:=A) (aB:=aB) T l8 pos (R:=λvs aY=>(∀b o,c.au.get? b=some o->aY.heap.get? b=some o)/\wpAny (model c.prog c.w) A (call f<|first++vs) Q aB aY) h e aX F bW λaY bt vs g r=>⟨g.ok.keep,fj aY bt vs g r⟩;show wpAny _ _ (callWith pos f first (backTo pos<|starEach aw aN) []) _ _ _;refine callWith_of (P:=λh=>∀b o,c.au.get? b=some o->h.get? b=some o) (V (Sx<|Aj h pos) rfl) an ?_;cases aw with
 |nil=>obtain rfl:=bp h;obtain⟨rfl,rfl⟩:=dD e;exact evalArgs_nil3 ⟨bW.keep,fj _ _ _ (.refl bW) .nil⟩
 |cons aD aw=>have qJ:starEach (aD::aw) aN=(false,eval aD aN)::starEach aw aN:=bX h λer ey B=>DO ey _ _;rw[qJ]at ba⊢;exact Calls.evalArgs_plain ba
end
end
section
section
variable{P:jx}{G:gS}
variable{x:I}{a b:Value}
def Sy{aw:List Expr}:∀{ms:List b4},hQ G aL aW sc aw=some ms->ms.length=aw.length:=by
 induction aw with
 |nil=>exactλh=>bp h▸rfl
 |cons e aw ay=>exactλh=>bX h λer ey h=>dt h λqK j1 bM=>bM▸ai (·+1) (ay j1)
def Sz:∀{zs:List I} {C S:St},kS O ms H C=some (zs,S)->zs.length=ms.length:=by
 induction ms with
 |nil=>exactλh=>(dD h).1▸rfl
 |cons e aw ay=>exactλh=>c0 h λfb ax Y h=>c0 h λSv bq ae h=>(dD h).1▸ai (·+1) (ay ae)
def SA(bK:PySem.Const)(k:Nat)(pos:Pos):dv c G O d (.Constant bK k pos):=by
 intro W aW aL sc aN A aB s M H C S z dy Q ag he aX F db h;refine dt ag λp ab bM=> ?_;subst bM;obtain⟨rfl,rfl⟩:=dD he
 clear ag he
 cases bK with
 |none=>exact wpAny_Constant_none<|h _ M _ (.refl db)<|bp ab▸.none
 |bool b=>exact wpAny_Constant_bool<|h _ M _ (.refl db)<|bp ab▸.bool _
 |int i=>exact wpAny_Constant_int<|h _ M _ (.jz db _)<|bp ab▸.int _ _
 |str x=>exact wpAny_Constant_str<|h _ M _ (.jz db _)<|bp ab▸.str _ _
 |_=>exact bf ab
def SB(c:Ctx)(cV:Nat->Addr)(h:Heap)(M:c6)(v:Value):mG->Prop
 |.val d=>bb h M v d
 |.fn f=>v=.ref (cV f)
 |.cls k=>∃aI:Addr,c.N.ca[k]? =some aI/\v=.ref aI
 |.cx b=>v=tX b
 |.rK=>False
def SC{x:Str}{g:mG}(h:nj G sc x=some g):sc.lookup x=some .globalImplicit/\G.gl x=some g:=by
 delta nj at h;cases q:sc.lookup x with
 |none=>rw[q]at h;exact bf h
 |some k=>
  rw[q]at h;cases k with
  |globalImplicit=>exact⟨rfl,h⟩
  |_=>exact bf h
def xS{x:Str}{g:mG}{pos:Pos}(T:fY c P G K cV eg e5)(F:dR c W aW aL sc aN s.heap M H)(db:bJ c.w c.N c.au s.heap M C)(ac:nj G sc x=some g)(aP:g≠.rK)(h:∀v,SB c cV s.heap M v g->Q v s):wpAny (model c.prog c.w) A (eval (.Name x pos) aN) Q aB s:=by
 obtain⟨an,ac⟩:=SC ac;have bA:s.heap.Ns aN.globals eg:=V F.glob<|T.g.keeps db.keep;refine Calls.Name_function_global F.kind ((F.kinds x _ an).elim id λq=>nomatch q.1) ?_ (T.Jz x g ac).1;cases g with
 |val d=>exact(T.Jw x d ac).elim λu q=>Calls.loadGlobal_global bA q.1<|h _<|q.2.au db
 |fn f=>exact Calls.loadGlobal_global bA (T.Jx x f ac)<|h _ rfl
 |cls k=>exact(T.Jy x k ac).elim λaI q=>Calls.loadGlobal_global bA q.2<|h _ ⟨aI,q.1,rfl⟩
 |cx b=>exact Calls.loadGlobal_builtin bA (T.DL x b ac).1 (show s.heap.Ns aN.builtins e5 from V F.blt<|T.b.keeps db.keep) (T.DL x b ac).2<|h _ rfl
 |rK=>exact absurd rfl aP
def SD(T:fY c P G K cV eg e5)(x:Str)(pos:Pos):dv c G O d (.Name x pos):=by
 intro W aW aL sc aN A aB s M H C S z dy Q ag he aX F db h;refine vn ag λSE ag=> ?_;cases ah:rL aL sc x with
 |some i=>rw[ah]at ag;obtain rfl:=bp ag;refine dt he λp ab he=> ?_;obtain⟨rfl,rfl⟩:=kO he;exact wpAny_Name (F.load ah ab λv aS=>h _ M v (.refl db) aS)<|mH.mpr SE
 |none=>
  rw[ah]at ag;cases ab:nj G sc x with
  |none=>rw[ab]at ag;exact bf ag
  |some g=>
   rw[ab]at ag;cases g with
   |val p=>obtain rfl:=bp ag;obtain⟨rfl,rfl⟩:=dD he;exact xS T F db ab nofun λv aS=>h _ M v (.refl db) aS
   |_=>exact bf ag
def SF(T:fY c P G K cV eg e5){l r:Expr}(o:Operator)(pos:Pos)(j2:dv c G O d l)(qL:dv c G O d r):dv c G O d (.BinOp l o r pos):=by intro W aW aL sc aN A aB s M H C S z dy Q ag he aX F db h;refine bX ag λer ey ag=> ?_;refine bX ag λcU hS ag=> ?_;refine dt ag λop i2 bM=> ?_;subst bM;refine c0 he λfb ax Y he=> ?_;refine c0 he λoF bq ae he=> ?_;refine wpAny_BinOp<|j2 _ _ _ _ _ _ _ _ _ _ _ _ _ _ _ ey Y aX F db λbe dL ez g1 bi=>qL _ _ _ _ _ _ _ _ _ _ _ _ _ _ _ hS ae aX (F.step g1) g1.ok λbF ft ec bd bg=> ?_;exact Q4 aX bd.ok (bi.keep bd.keep) bg he i2<|(eN.gL g1 h).gL bd
def Ak{β:Type}{f:Int->Option β}{r:β}(e:(match x with|.int i=>f i|_=>none)=some r)(k:∀i,x=.int i->f i=some r->R):R:=by
 cases x with
 |int i=>exact k i rfl e
 |_=>exact bf e
def JF(T:fY c P G K cV eg e5){x:Expr}(o:UnaryOp)(pos:Pos)(Ix:dv c G O d x):dv c G O d (.UnaryOp o x pos):=by
 intro W aW aL sc aN A aB s M H C S z dy Q ag he aX F db h;refine bX ag λer ey ag=> ?_;cases o with
 |Invert=>obtain rfl:=bp ag;refine c0 he λfb ax Y he=>Ak he λi ah he=> ?_;obtain⟨rfl,rfl⟩:=dD he;exact UnaryOp_<|Ix _ _ _ _ _ _ _ _ _ _ _ _ _ _ _ ey Y aX F db λbe dL ez g1 bi=>Q6 g1.ok (ah▸bi)<|eN.gL g1 h
 |Not=>obtain rfl:=bp ag;refine c0 he λfb ax Y he=>bX he λt aP he=> ?_;obtain⟨rfl,rfl⟩:=dD he;exact UnaryOp_<|Ix _ _ _ _ _ _ _ _ _ _ _ _ _ _ _ ey Y aX F db λbe dL ez g1 bi=>Q7 g1.ok bi aP<|eN.gL g1 h
 |USub=>obtain rfl:=bp ag;refine c0 he λfb ax Y he=>Ak he λi ah he=> ?_;obtain⟨rfl,rfl⟩:=dD he;exact UnaryOp_<|Ix _ _ _ _ _ _ _ _ _ _ _ _ _ _ _ ey Y aX F db λbe dL ez g1 bi=>Q5 g1.ok (ah▸bi)<|eN.gL g1 h
 |_=>exact bf ag
def SG(T:fY c P G K cV eg e5){t b o:Expr}(pos:Pos)(vI:hx c G O d t)(ly:dv c G O d b)(pI:dv c G O d o):dv c G O d (.IfExp t b o pos):=by
 intro W aW aL sc aN A aB s M H C S z dy Q ag he aX F db h;refine bX ag λer ey ag=> ?_;refine bX ag λcU hS ag=> ?_;refine dt ag λbl qM bM=> ?_;subst bM;refine c0 he λfb ax Y he=> ?_;refine bX he λtt aP he=> ?_;refine IfExp_<|vI _ _ _ _ _ _ _ _ _ _ _ _ _ _ _ _ ey Y aP aX F db λbe dL g1=> ?_;cases tt with
 |true=>exact ly _ _ _ _ _ _ _ _ _ _ _ _ _ _ _ hS he aX (F.step g1) g1.ok<|eN.gL g1 h
 |false=>exact pI _ _ _ _ _ _ _ _ _ _ _ _ _ _ _ qM he aX (F.step g1) g1.ok<|eN.gL g1 h
def SH(pos:Pos):dv c G O d (.Dict [] [] pos):=by intro W aW aL sc aN A aB s M H C S z dy Q ag he aX F db h;cases ag;cases he;refine wpAny_Dict_empty (h _ (M++[(s.heap.objs.size,none)]) _ (bY.new (t:=s.toks) db rfl λdQ=>⟨rfl,#[],0,Heap.get?_push_size _ rfl,.nil,.nil,by simp⟩)<|bb.last (p:=(s.heap.objs.size,none)) db)
def f9{aw:List Expr}(h:hQ G aL aW sc aw=some ms)(e:kS O ms H C=some (zs,S))(ao:aw.length<1000):zs.length<=16000000:=a3 (hi<|c1 (cM<|(Sz e).trans<|Sy h) ao) (by decide)
def SI(T:fY c P G K cV eg e5){aw:List Expr}(k:Nat)(pos:Pos)(bj:∀e∈aw,dv c G O d e):dv c G O d (.Tuple aw k pos):=by intro W aW aL sc aN A aB s M H C S z dy Q ag he aX F db h;refine dZ ag λhlen ag=>dt ag λms eP bM=> ?_;subst bM;refine c0 he λzs ax Y he=> ?_;obtain⟨rfl,rfl⟩:=dD he;rw[arm_eval_Tuple];refine wpAny_bind<|wpAny_standAt<|wpAny_bind<|DP T bj pos eP Y aX F db λbe dL vs g1 bi=> ?_;have N:=z0 (W:=[]) g1.ok bi (f9 eP Y hlen) be.toks 0 rfl;exact wpAny_newTuple (h _ _ _ (g1.trans N.1) N.2)<|V bi.length<|a3 (f9 eP Y hlen) jY
def SJ(T:fY c P G K cV eg e5){aw:List Expr}(pos:Pos)(bj:∀e∈aw,dv c G O d e):dv c G O d (.List aw pos):=by intro W aW aL sc aN A aB s M H C S z dy Q ag he aX F db h;refine dZ ag λhlen ag=>dt ag λms eP bM=> ?_;subst bM;refine c0 he λzs ax Y he=> ?_;obtain⟨rfl,rfl⟩:=dD he;refine V (arm_eval_List _ _ _)<|wpAny_bind<|wpAny_standAt<|wpAny_bind<|DP T bj pos eP Y aX F db λbe dL vs g1 bi=> ?_;have N:=Dn (W:=[]) g1.ok bi (f9 eP Y hlen) be.toks 0 rfl;exact wpAny_newList (h _ _ _ (g1.trans N.1) N.2)<|V bi.length<|a3 (f9 eP Y hlen) jY
def DR{e:Expr}(op:CmpOp)(h:c9 G aL aW sc e=some dy):behindInMarks op e=false:=by
 cases e<;>first|rfl|contradiction
def SK(T:fY c P G K cV eg e5){l r:Expr}(o:CmpOp)(pos:Pos)(j2:dv c G O d l)(qL:dv c G O d r):dv c G O d (.Compare l [o] [r] pos):=by intro W aW aL sc aN A aB s M H C S z dy Q ag he aX F db h;refine bX ag λer ey ag=> ?_;refine bX ag λcU hS ag=> ?_;refine dt ag λop i2 bM=> ?_;subst bM;refine c0 he λfb ax Y he=> ?_;refine c0 he λoF bq ae he=> ?_;refine bX he λt aP he=> ?_;cases he;refine wpAny_Compare1 (j2 _ _ _ _ _ _ _ _ _ _ _ _ _ _ _ ey Y aX F db λbe dL ez g1 bi=>qL _ _ _ _ _ _ _ _ _ _ _ _ _ _ _ hS ae aX (F.step g1) g1.ok λbF ft ec bd bg=> ?_)<|DR o hS;exact vz T.sys aX bd.ok (bi.keep bd.keep) bg aP i2<|(eN.gL g1 h).gL bd
def SL(T:fY c P G K cV eg e5){l r:Expr}(o:CmpOp)(pos:Pos)(j2:dv c G O d l)(qL:dv c G O d r):hx c G O d (.Compare l [o] [r] pos):=by intro W aW aL sc aN A aB s M H C S z t dy Q ag he j3 aX F db h;refine bX ag λer ey ag=> ?_;refine bX ag λcU hS ag=> ?_;refine dt ag λop i2 bM=> ?_;subst bM;refine c0 he λfb ax Y he=> ?_;refine c0 he λoF bq ae he=> ?_;refine bX he λic aP he=> ?_;cases he;refine wpAny_isTrue_Compare1 (j2 _ _ _ _ _ _ _ _ _ _ _ _ _ _ _ ey Y aX F db λbe dL ez g1 bi=>qL _ _ _ _ _ _ _ _ _ _ _ _ _ _ _ hS ae aX (F.step g1) g1.ok λbF ft ec bd bg=> ?_)<|DR o hS;exact vz T.sys aX bd.ok (bi.keep bd.keep) bg aP i2 λs3 iJ oG cQ eA=>tP cQ.ok eA j3 λs4 k1 eu=>h s4 k1<|((g1.trans bd).trans cQ).trans eu
def JG{aD aF:Expr}{er cU:b4}(gT gD:CmpOp)(Y:c9 G aL aW sc aD=some er)(ae:c9 G aL aW sc aF=some cU):lastMarks [gT,gD] [aD,aF]=false:=by simp only[lastMarks];exact DR gD ae
def SM(T:fY c P G K cV eg e5){l r q:Expr}(gT gD:CmpOp)(pos:Pos)(j2:dv c G O d l)(qL:dv c G O d r)(DS:dv c G O d q):dv c G O d (.Compare l [gT,gD] [r,q] pos):=by
 intro W aW aL sc aN A aB s M H C S z dy Q ag he aX F db h;refine bX ag λer ey ag=> ?_;refine bX ag λcU hS ag=> ?_;refine bX ag λbl qM ag=> ?_;refine bX ag λqo DT ag=> ?_;refine dt ag λqp DU bM=> ?_;subst bM;refine c0 he λfb ax Y he=> ?_;refine c0 he λoF bq ae he=> ?_;refine bX he λt aP he=> ?_;refine Compare_chain (j2 _ _ _ _ _ _ _ _ _ _ _ _ _ _ _ ey Y aX F db λbe dL ez g1 bi=> ?_)<|JG gT gD hS qM;refine chain_link<|qL _ _ _ _ _ _ _ _ _ _ _ _ _ _ _ hS ae aX (F.step g1) g1.ok λbF ft ec bd bg=> ?_;refine vz T.sys aX bd.ok (bi.keep bd.keep) bg aP DT λs3 iJ oG cQ eA=>tP cQ.ok eA (t:=t) rfl λs4 k1 eu=> ?_;cases t with
 |false=>
  cases he;exact h s4 k1 oG (((g1.trans bd).trans cQ).trans eu)<|eA.keep eu.keep
 |true=>simp only[if_true]at he⊢;refine c0 he λvJ cB ba he=> ?_;refine bX he λhJ DV he=> ?_;cases he;refine chain_last<|DS _ _ _ _ _ _ _ _ _ _ _ _ _ _ _ qM ba aX ((((F.step g1).step bd).step cQ).step eu) eu.ok λs5 DW SN i4 xT=> ?_;exact vz T.sys aX i4.ok (((bg.keep cQ.keep).keep eu.keep).keep i4.keep) xT DV DU<|((((eN.gL g1 h).gL bd).gL cQ).gL eu).gL i4
def SO(T:fY c P G K cV eg e5){l r q:Expr}(gT gD:CmpOp)(pos:Pos)(j2:dv c G O d l)(qL:dv c G O d r)(DS:dv c G O d q):hx c G O d (.Compare l [gT,gD] [r,q] pos):=by
 intro W aW aL sc aN A aB s M H C S z tt dy Q ag he j3 aX F db h;refine bX ag λer ey ag=> ?_;refine bX ag λcU hS ag=> ?_;refine bX ag λbl qM ag=> ?_;refine bX ag λqo DT ag=> ?_;refine dt ag λqp DU bM=> ?_;subst bM;refine c0 he λfb ax Y he=> ?_;refine c0 he λoF bq ae he=> ?_;refine bX he λt aP he=> ?_;refine isTrue_chain (j2 _ _ _ _ _ _ _ _ _ _ _ _ _ _ _ ey Y aX F db λbe dL ez g1 bi=> ?_)<|JG gT gD hS qM;refine test_link<|qL _ _ _ _ _ _ _ _ _ _ _ _ _ _ _ hS ae aX (F.step g1) g1.ok λbF ft ec bd bg=> ?_;refine vz T.sys aX bd.ok (bi.keep bd.keep) bg aP DT λs3 iJ oG cQ eA=>tP cQ.ok eA (t:=t) rfl λs4 k1 eu=> ?_;cases t with
 |false=>
  cases he;cases j3;exact h s4 k1<|((g1.trans bd).trans cQ).trans eu
 |true=>simp only[if_true]at he⊢;refine c0 he λvJ cB ba he=> ?_;refine bX he λhJ DV he=> ?_;cases he;refine test_last<|DS _ _ _ _ _ _ _ _ _ _ _ _ _ _ _ qM ba aX ((((F.step g1).step bd).step cQ).step eu) eu.ok λs5 DW SN i4 xT=> ?_;exact vz T.sys aX i4.ok (((bg.keep cQ.keep).keep eu.keep).keep i4.keep) xT DV DU λpJ acD v6 r2 jE=>tP r2.ok jE j3 λAl SP DX=>h Al SP<|(((((g1.trans bd).trans cQ).trans eu).trans i4).trans r2).trans DX
def SQ(T:fY c P G K cV eg e5)(op:BoolOp)(pos:Pos){vs:List Expr}:(∀e∈vs,dv c G O d e)->dv c G O d (.BoolOp op vs pos):=by
 induction vs with
 |nil=>intro _ W aW aL sc aN A aB s M H C S z dy Q ag;exact bf ag
 |cons aD aw l8=>
  intro bj W aW aL sc aN A aB s M H C S z dy Q ag he aX F db h;cases aw with
  |nil=>refine bX ag λms eP ag=>bX eP λer ey eP=> ?_;obtain rfl:=bp eP;obtain rfl:=bp ag;exact BoolOp_one<|bj aD bo _ _ _ _ _ _ _ _ _ _ _ _ _ _ _ ey he aX F db h
  |cons aF aw=>
   have l8:=l8 λe he=>bj e<|bQ _ he;refine bX ag λms eP ag=>bX eP λer ey eP=>dt eP λqK j1 bM=> ?_;subst bM;refine bX j1 λcU hS aC=>dt aC λJH B bM=> ?_;subst bM
   clear aC hS eP
   refine dt ag λDY xU bM=> ?_;have tZ:c9 G aL aW sc (.BoolOp op (aF::aw) pos)=some DY:=bB j1 xU;subst bM
   clear ag j1 xU
   cases op with
   |And=>
    refine c0 he λfb ax Y he=>bX he λt aP he=> ?_;refine BoolOp_and<|bj aD bo _ _ _ _ _ _ _ _ _ _ _ _ _ _ _ ey Y aX F db λbe dL ez g1 bi=>tP g1.ok bi aP λbF ft bd=> ?_;cases t with
    |true=>exact l8 _ _ _ _ _ _ _ _ _ _ _ _ _ _ _ tZ he aX ((F.step g1).step bd) bd.ok<|(eN.gL g1 h).gL bd
    |false=>exact h bF ft ez ((dD he).2▸g1.trans bd)<|(dD he).1▸bi.keep bd.keep
   |Or=>
    refine c0 he λfb ax Y he=>bX he λt aP he=> ?_;refine BoolOp_or<|bj aD bo _ _ _ _ _ _ _ _ _ _ _ _ _ _ _ ey Y aX F db λbe dL ez g1 bi=>tP g1.ok bi aP λbF ft bd=> ?_;cases t with
    |false=>exact l8 _ _ _ _ _ _ _ _ _ _ _ _ _ _ _ tZ he aX ((F.step g1).step bd) bd.ok<|(eN.gL g1 h).gL bd
    |true=>exact h bF ft ez ((dD he).2▸g1.trans bd)<|(dD he).1▸bi.keep bd.keep
def DZ(c:Ctx)(G:gS)(O:ht)(d:Nat)(e:Expr):Prop:=
 ∀(W:List Addr) (aW:Nat) (aL:jy) (sc:Sc) (aN:Env) (A:Around) (aB:Value->Shared->Prop) (s:Shared) (M:c6) (H:bT) (C S:St) (z:I) (t:Bool) (dy:b4) (Q:Bool->Shared->Prop) (eY:Sem Value),
  c9 G aL aW sc e=some dy->bV O dy H C=some (z,S)->h3 S z=some t->en d A->dR c W aW aL sc aN s.heap M H->bJ c.w c.N c.au s.heap M C->(∀aY bt,bY c [] s M aY bt S->Q t aY)->wpAny (model c.prog c.w) A (isTrue e aN eY) Q aB s
def SR(T:fY c P G K cV eg e5)(op:BoolOp)(pos:Pos){vs:List Expr}:(∀e∈vs,hx c G O d e)->DZ c G O d (.BoolOp op vs pos):=by
 induction vs with
 |nil=>intro _ W aW aL sc aN A aB s M H C S z t dy Q eY ag;exact bf ag
 |cons aD aw l8=>
  intro bj W aW aL sc aN A aB s M H C S z t0 dy Q eY ag he j3 aX F db h;cases aw with
  |nil=>
   refine bX ag λms eP ag=>bX eP λer ey eP=> ?_;obtain rfl:=bp eP;obtain rfl:=bp ag;cases op with
   |And=>
    refine isTrue_and<|bj aD bo _ _ _ _ _ _ _ _ _ _ _ _ _ _ _ _ ey he j3 aX F db λbe dL g1=> ?_;cases t0 with
    |true=>exact isTrue_and_nil<|h _ _ g1
    |false=>exact h _ _ g1
   |Or=>
    refine isTrue_or<|bj aD bo _ _ _ _ _ _ _ _ _ _ _ _ _ _ _ _ ey he j3 aX F db λbe dL g1=> ?_;cases t0 with
    |false=>exact isTrue_or_nil<|h _ _ g1
    |true=>exact h _ _ g1
  |cons aF aw=>
   have l8:=l8 λe he=>bj e<|bQ _ he;refine bX ag λms eP ag=>bX eP λer ey eP=>dt eP λqK j1 bM=> ?_;subst bM;refine bX j1 λcU hS aC=>dt aC λJH B bM=> ?_;subst bM
   clear aC hS eP
   refine dt ag λDY xU bM=> ?_;have tZ:c9 G aL aW sc (.BoolOp op (aF::aw) pos)=some DY:=bB j1 xU;subst bM
   clear ag j1 xU
   cases op with
   |And=>
    refine c0 he λfb ax Y he=>bX he λt aP he=> ?_;refine isTrue_and<|bj aD bo _ _ _ _ _ _ _ _ _ _ _ _ _ _ _ _ ey Y aP aX F db λbe dL g1=> ?_;cases t with
    |true=>exact l8 _ _ _ _ _ _ _ _ _ _ _ _ _ _ _ _ _ tZ he j3 aX (F.step g1) g1.ok λbF ft bd=>h _ _<|g1.trans bd
    |false=>obtain⟨rfl,rfl⟩:=dD he;obtain rfl:=bp<|br aP j3;exact h _ _ g1
   |Or=>
    refine c0 he λfb ax Y he=>bX he λt aP he=> ?_;refine isTrue_or<|bj aD bo _ _ _ _ _ _ _ _ _ _ _ _ _ _ _ _ ey Y aP aX F db λbe dL g1=> ?_;cases t with
    |false=>exact l8 _ _ _ _ _ _ _ _ _ _ _ _ _ _ _ _ _ tZ he j3 aX (F.step g1) g1.ok λbF ft bd=>h _ _<|g1.trans bd
    |true=>obtain⟨rfl,rfl⟩:=dD he;obtain rfl:=bp<|br aP j3;exact h _ _ g1
def SS{e:Expr}(bj:dv c G O d e)(ab:∀aN eY,isTrue e aN eY=(do let v<-eY;standAt e.pos;holding [v]<|truthy v)):hx c G O d e:=by intro W aW aL sc aN A aB s M H C S z t dy Q ag he j3 aX F db h;exact isTrue_plain (bj _ _ _ _ _ _ _ _ _ _ _ _ _ _ _ ag he aX F db λbe dL ez g1 bi=>tP g1.ok bi j3 λbF ft bd=>h _ _<|g1.trans bd)<|ab _ _
def ST{x:Expr}(pos:Pos)(bj:hx c G O d x):hx c G O d (.UnaryOp .Not x pos):=by intro W aW aL sc aN A aB s M H C S z t dy Q ag he j3 aX F db h;refine bX ag λer ey ag=> ?_;simp only[Option.some.injEq]at ag;subst ag;refine c0 he λfb ax Y he=> ?_;refine bX he λg5 aP he=> ?_;cases he;cases j3;exact isTrue_not<|bj _ _ _ _ _ _ _ _ _ _ _ _ _ _ _ _ ey Y aP aX F db h
def SU{t b o:Expr}(pos:Pos)(vI:hx c G O d t)(ly:hx c G O d b)(pI:hx c G O d o):hx c G O d (.IfExp t b o pos):=by
 intro W aW aL sc aN A aB s M H C S z tr dy Q ag he j3 aX F db h;refine bX ag λer ey ag=> ?_;refine bX ag λcU hS ag=> ?_;refine dt ag λbl qM bM=> ?_;subst bM;refine c0 he λfb ax Y he=> ?_;refine bX he λtt aP he=> ?_;refine isTrue_IfExp<|vI _ _ _ _ _ _ _ _ _ _ _ _ _ _ _ _ ey Y aP aX F db λbe dL g1=> ?_;cases tt with
 |true=>exact ly _ _ _ _ _ _ _ _ _ _ _ _ _ _ _ _ hS he j3 aX (F.step g1) g1.ok λbF ft bd=>h _ _<|g1.trans bd
 |false=>exact pI _ _ _ _ _ _ _ _ _ _ _ _ _ _ _ _ qM he j3 aX (F.step g1) g1.ok λbF ft bd=>h _ _<|g1.trans bd
end
end
section
section
variable{P:jx}{G:gS}
variable{x:I}{a b:Value}
def JI{o:Expr}{aZ:Str}{t:Sem Value}(aj:C9 o)(h:wpAny df A t Q aB s):wpAny df A (attributeBase o aZ aN t) Q aB s:=by
 cases o with
 |Call f as dO p=>
  cases f with
  |Name id q=>
   cases as with
   |nil=>
    cases dO with
    |nil=>exact(show wpAny df A (if(id !=("super":Str)||aZ=="__class__"||aN.kindOf "super" !=some .globalImplicit||aN.kindOf "__class__" !=some .free)=true then t else _) Q aB s from V (bh (by rw[show(id !=("super":Str))=true from aj];rfl)) h)
    |cons B cr=>exact h
   |cons B cr=>exact h
  |_=>exact h
 |_=>exact h
def SV(T:fY c P G K cV eg e5)(ie:r1 c P cV O d){e:Expr}(n:Str)(pos:Pos)(bj:dv c G O d e):dv c G O d (.Attribute e n pos):=by
 intro W aW aL sc aN A aB s M H C S z dy Q ag he aX F db h;refine dZ ag λD0 ag=>bX ag λer ey ag=>dt ag λf hf bM=> ?_;subst bM;refine c0 he λfb ax Y he=>dt he λoF ae he=> ?_;obtain⟨rfl,rfl⟩:=kO he;rw[ie.b1]at ae;show wpAny _ _ (do
   let o<-attributeBase e n aN (eval e aN)
   standAt pos.atName
   let r<-holding [o] (getAttr o n true)
   letTemporaryGo e o r
   pure r) Q aB s
 refine wpAny_bind<|JI D0<|bj _ _ _ _ _ _ _ _ _ _ _ _ _ _ _ ey Y aX F db λbe dL ez g1 bi=> ?_;exact wpAny_bind<|wpAny_standAt<|wpAny_bind<|wpAny_holding<|Jk T.cls g1.ok bi (T.fr _ _ hf) ae λbF ft ec bd bg=>wpAny_bind<|wpAny_letTemporaryGo<|wpAny_pure<|h _ _ _ (g1.trans bd) bg
def JJ(bW:bJ c.w c.N c.au s.heap M C)(r:bb s.heap M v x)(ac:(∃l,x=.ak l)\/(∃t,x=.str t)\/∃k,x=.L k/\((∃l,C[k]? =some (.list l))\/∃l,C[k]? =some (.dict l))):
  ∃T id,s.TypeIs v T/\typeLookup (.type T) "__getitem__"=pure (some<|.builtin id):=by
 rcases ac with⟨l,rfl⟩|⟨t,rfl⟩|⟨k,rfl,⟨l,ao⟩|⟨l,ao⟩⟩
 ·obtain⟨gu,vs,rfl,⟨mK,rU,ag,B⟩,cr⟩:=r.ox;exact⟨"tuple",_,⟨mK,rU,ag⟩,slot_tuple_getitem.lookup⟩
 ·cases r;exact⟨"str",_,typeIs_str _ _ _,F.slot_str_getitem.lookup⟩
 ·obtain⟨p,vs,n,ab,rfl,B,aA,cr⟩:=bJ.list bW ao r;exact⟨"list",_,⟨_,aA,rfl⟩,slot_list_getitem.lookup⟩
 ·obtain⟨p,vs,n,ab,rfl,B,aA,cr⟩:=bJ.dict bW ao r;exact⟨"dict",_,⟨_,aA,rfl⟩,slot_dict_getitem.lookup⟩
def JK{value je:Expr}{T id:String}{o i:Value}(eD:s.TypeIs o T)(ao:typeLookup (.type T) "__getitem__"=pure (some<|.builtin id))(h:wpAny (model c.prog c.w) A (getItem o i) Q aB s):
  wpAny (model c.prog c.w) A (subscriptTail value je o i) Q aB s:=by
 unfold subscriptTail;refine wpAny_bind ?_;refine V (getitemInPython_of_ne eD.not_modules) ?_;refine wpAny_bind<|wpAny_specialOf eD ao ?_;have fin:wpAny (model c.prog c.w) A (subscripted je false o i) (λr Am=>wpAny (model c.prog c.w) A (letTemporaryGo value o r>>=λB=>pure r) Q aB Am) aB s:=by
  have aO:wpAny (model c.prog c.w) A (getItem o i) (λr Am=>wpAny (model c.prog c.w) A (letTemporaryGo value o r>>=λB=>pure r) Q aB Am) aB s:=wpAny_mono h (λr Am SW=>wpAny_bind<|wpAny_letTemporaryGo<|wpAny_pure SW) λB B x=>x
  cases je with
  |Slice cf ah st p=>
   cases st with
   |none=>exact wpAny_operating aO
   |some B=>exact wpAny_operating aO
  |_=>exact wpAny_operating aO
 first
  |exact wpAny_pure (wpAny_bind fin)
  |exact wpAny_bind (wpAny_pure (wpAny_bind fin))
  |exact wpAny_bind fin
def SX(T:fY c P G K cV eg e5){e i:Expr}(pos:Pos)(bj:dv c G O d e)(pK:dv c G O d i)(ah:∀aW aL sc m,c9 G aL aW sc (.Subscript e i pos)=some m->∃er cU,c9 G aL aW sc e=some er/\c9 G aL aW sc i=some cU/\m=.av er cU):dv c G O d (.Subscript e i pos):=by intro W aW aL sc aN A aB s M H C S z dy Q ag he aX F db h;obtain⟨er,cU,ey,hS,rfl⟩:=ah _ _ _ _ ag;refine c0 he λfb ax Y he=>c0 he λoF bq ae he=>dt he λvJ ba he=> ?_;obtain⟨rfl,rfl⟩:=kO he;refine Subscript_<|bj _ _ _ _ _ _ _ _ _ _ _ _ _ _ _ ey Y aX F db λbe dL ez g1 bi=>pK _ _ _ _ _ _ _ _ _ _ _ _ _ _ _ hS ae aX (F.step g1) g1.ok λbF ft ec bd bg=> ?_;obtain⟨a7,id,eD,ao⟩:=JJ bd.ok (bi.keep bd.keep)<|IX ba (λl i e B B=>.inl ⟨l,e⟩) (λt i e B B B=>.inr<|.inl ⟨t,e⟩) (λk l i e q B B=>.inr<|.inr ⟨k,e,.inl ⟨l,q⟩⟩) λk l e q B B=>.inr<|.inr ⟨k,e,.inr ⟨l,q⟩⟩;exact JK eD ao<|Rb aX bd.ok (bi.keep bd.keep) bg ba<|(eN.gL g1 h).gL bd
def JL{cf:Option Expr}{mo:Option b4}{t1:Option I}(bj:∀e,cf=some e->dv c G O d e)(ag:Da G aL aW sc cf=some mo)(he:zD O mo H C=some (t1,S))(aX:en d A)(F:dR c W aW aL sc aN s.heap M H)(db:bJ c.w c.N c.au s.heap M C)(h:∀aY bt v,bY c [] s M aY bt S->tQ aY.heap bt v t1->Q v aY):wpAny (model c.prog c.w) A (evalPart cf aN) Q aB s:=by
 cases cf with
 |none=>obtain rfl:=bp ag;obtain⟨rfl,rfl⟩:=dD he;exact wpAny_pure<|h _ M _ (.refl db) rfl
 |some e=>refine dt ag λm hm bM=> ?_;subst bM;refine c0 he λfb ax Y he=> ?_;obtain⟨rfl,rfl⟩:=dD he;exact bj e rfl _ _ _ _ _ _ _ _ _ _ _ _ _ _ _ hm Y aX F db h
def SY(T:fY c P G K cV eg e5){e:Expr}{cf ah:Option Expr}(p pos:Pos)(bj:dv c G O d e)(j2:∀e,cf=some e->dv c G O d e)(SZ:∀e,ah=some e->dv c G O d e):dv c G O d (.Subscript e (.Slice cf ah none p) pos):=by intro W aW aL sc aN A aB s M H C S z dy Q ag he aX F db h;refine bX ag λer ey ag=>bX ag λS0 D1 ag=>dt ag λacE S1 bM=> ?_;subst bM;refine c0 he λfb ax Y he=>c0 he λoF bq ae he=>c0 he λvJ cB ba he=> ?_;refine Subscript_<|bj _ _ _ _ _ _ _ _ _ _ _ _ _ _ _ ey Y aX F db λbe dL ez g1 bi=> ?_;refine wpAny_Slice<|JL j2 D1 ae aX (F.step g1) g1.ok λbF ft qC bd rV=>JL SZ S1 ba aX ((F.step g1).step bd) bd.ok λs3 iJ S2 cQ S3=> ?_;refine V (evalPart_none _)<|wpAny_pure ?_;have eu:=bY.push (W:=[]) cQ.ok {cls:=.type "slice",data:=.fields #[qC,S2,.none]} s3.toks;have JM:=((bi.keep bd.keep).keep cQ.keep).keep eu.keep;obtain⟨a7,id,eD,ao⟩:=JJ eu.ok JM<|I3 he (λl B B e B B B=>.inl ⟨l,e⟩) λo l B B e q B B B=>.inr<|.inr ⟨o,e,.inl ⟨l,q⟩⟩;exact JK eD ao<|Rk eu.ok JM (Heap.IsSliceOf.new ..) ((rV.keep cQ.keep).keep eu.keep) (S3.keep eu.keep) he<|(((eN.gL g1 h).gL bd).gL cQ).gL eu
def D2{f:Value}(an:keepIn K f)(T:fY c P G K cV eg e5):∀h:Heap,(∀b o,c.au.get? b=some o->h.get? b=some o)->∃k,(k=Keeper.frame\/k=Keeper.machine\/k=Keeper.boundFrame)/\Looks (model c.prog c.w) h (keeperOf f) k:=λh aj=>keeps_K an h<|T.cls.xM.keeps aj
def JN(b:vh):∀h:Heap,(∀a o,c.au.get? a=some o->h.get? a=some o)->∃k,(k=Keeper.frame\/k=Keeper.machine\/k=Keeper.boundFrame)/\Looks (model c.prog c.w) h (keeperOf<|tX b) k:=λh B=>⟨.machine,.inr<|.inl rfl,Looks.of_pure (by cases b<;>rfl)⟩
def JO(id:String):∀h:Heap,(∀a o,c.au.get? a=some o->h.get? a=some o)->∃k,(k=Keeper.frame\/k=Keeper.machine\/k=Keeper.boundFrame)/\Looks (model c.prog c.w) h (keeperOf<|.builtin id) k:=λh B=>⟨.machine,.inr<|.inl rfl,Looks.of_pure rfl⟩
def S4{cx:vh}(T:fY c P G K cV eg e5)(aX:en d A)(bW:bJ c.w c.N c.au s.heap M C)(r:bb s.heap M v x)(e:kQ cx x C=some (z,S))(h:eN c s M S z Q):wpAny (model c.prog c.w) A (call (tX cx) [v]) Q aB s:=by
 cases cx with
 |len=>exact Rl bW r e h
 |tuple=>exact Rm bW r e h
 |sorted=>exact RJ T.sys aX bW r e h
 |all=>exact RO aX bW r e h
 |range=>simp [kQ]at e
def b9.aR(r:b9 h M vs [x]):∃v,vs=[v]/\bb h M v x:=by
 cases r with
 |cons a r=>cases r;exact⟨_,rfl,a⟩
def b9.j4(r:b9 h M vs [x,y]):∃v w,vs=[v,w]/\bb h M v x/\bb h M w y:=by
 cases r with
 |cons a r=>obtain⟨w,rfl,b⟩:=r.aR;exact⟨_,w,rfl,a,b⟩
def S5(T:fY c P G K cV eg e5)(ie:r1 c P cV O d)(f:Str)(k2:Pos)(pos:Pos)(bj:∀e∈args,dv c G O d e):dv c G O d (.Call (.Name f k2) args [] pos):=by
 intro W aW aL sc aN A aB s M H C S z dy Q ag he aX F db h;show wpAny _ _ (do callWith pos (<-eval (.Name f k2) aN) [] (backTo pos<|starEach args aN) (backToKw pos<|keywordEach [] aN)) Q aB s
 revert ag;refine H2 (λag=> ?_) (λk an ag=> ?_) (λk an ag=> ?_) λcx an ag=> ?_
 ·obtain rfl:=bp ag;exact bf he
 ·refine dt ag λms eP bM=> ?_;subst bM;refine c0 he λzs ax Y he=> ?_;obtain⟨⟨fn,rZ⟩,oH⟩:=ie.fn _ _ _ _ _ he;refine wpAny_bind<|xS T F db an nofun λqN t2=>V (show qN=.ref (cV k)from t2) ?_;exact tY T bj eP Y aX F db (D2 (T.DM _ _ rZ) T) λbe dL vs g1 bi=>oH _ _ _ _ _ _ aX g1.ok bi<|eN.gL g1 h
 ·refine dt ag λms eP bM=> ?_;subst bM;refine c0 he λzs ax Y he=> ?_;refine wpAny_bind<|xS T F db an nofun λqN t2=>(show∃aI:Addr,c.N.ca[k]? =some aI/\qN=.ref aI from t2).elim λaI q=>V q.2 ?_;exact tY T bj eP Y aX F db (D2 (T.JA _ _ q.1) T) λbe dL vs g1 bi=>ie.make _ _ _ _ _ _ he q.1 _ _ _ _ _ _ aX g1.ok bi<|eN.gL g1 h
 ·refine bX ag λms eP ag=> ?_;cases ms with
  |nil=>exact bf ag
  |cons er ms=>
  cases ms with
  |cons B cr=>exact bf ag
  |nil=>
  obtain rfl:=bp ag;refine c0 he λfb ax Y he=> ?_;refine wpAny_bind<|xS T F db an nofun λqN t2=>V (show qN=tX cx from t2) ?_;refine tY T bj eP (show kS O [er] H C=some ([fb],ax)from bB Y rfl) aX F db (JN cx) λbe dL vs g1 bi=> ?_;obtain⟨v,rfl,hy⟩:=bi.aR;exact S4 T aX g1.ok hy he<|eN.gL g1 h
def D3{o:Expr}{n:Str}{apos pos:Pos}{f:Value}(S6:(backTo pos<|starEach args aN).all (λx=> !x.1)=true)(hlen:args.length<20)(S7:(apos.endLine==pos.line)=true)(S8:∀(f7:Sem Bool) (R:Value×List Value->Shared->Prop),R (f,first) s->wpAny (model c.prog c.w) A (getMethod v n f7) R aB s)(h:wpAny (model c.prog c.w) A (callWith pos f first (backTo pos<|starEach args aN)<|backToKw pos<|keywordEach [] aN) Q aB s):
  wpAny (model c.prog c.w) A (methodCall o n apos pos aN v (args.length+([]:List Keyword).length) (backTo pos<|starEach args aN)<|backToKw pos<|keywordEach [] aN) Q aB s:=by
 have S9:methodCallForm (args.length+([]:List Keyword).length) (backTo pos<|starEach args aN) (backToKw pos<|keywordEach [] aN)=true:=dI (dI S6 rfl) (ck<|ea hlen<|by decide);have qO:methodCallPos true o aN apos pos=pure pos:=bh S7;delta methodCall;rw[S9];exact wpAny_bind<|wpAny_holding<|S8 _ _<|wpAny_bind<|wpAny_of_eq qO h
def Ta{m:Nat}(e:mF k m zs C=some (z,S))(dh:∀l v,C[k]? =some (.list l)->k≠0->m=pw->zs=[v]->l.length<16000000->some (I.none,C.set k<|.list<|l++[v])=some (z,S)->R)(Tb:∀l v,C[k]? =some (.list l)->k≠0->m=rJ->zs=[]->l.getLast?=some v->some (v,C.set k<|.list l.dropLast)=some (z,S)->R)(Tc:∀l b r,C[k]? =some (.list l)->k≠0->m=xl->zs=[.L b]->k≠b->C[b]? =some (.list r)->l.length+r.length<16000000->some (I.none,C.set k<|.list<|l++r)=some (z,S)->R):R:=by
 refine z3 e λl ao e=>vn e λoD e=> ?_;by_cases Y:m=pw
 ·rw[bh Y]at e;cases zs with
  |nil=>exact bf e
  |cons v r=>
   cases r with
   |nil=>exact dZ e λhz e=>dh l v ao oD Y rfl hz e
   |cons B cr=>exact bf e
 ·rw[bH Y]at e;by_cases ae:m=rJ
  ·rw[bh ae]at e;cases zs with
   |nil=>
    cases bA:l.getLast? with
    |none=>rw[bA]at e;exact bf e
    |some v=>rw[bA]at e;exact Tb l v ao oD ae rfl bA e
   |cons B cr=>exact bf e
  ·rw[bH ae]at e;refine dZ e λba e=> ?_;cases zs with
   |nil=>exact bf e
   |cons a r=>
    cases a with
    |L b=>
     cases r with
     |nil=>exact vn e λgr e=>z3 e λr aH e=>dZ e λhz e=>Tc l b r ao oD ba rfl gr aH hz e
     |cons B cr=>exact bf e
    |_=>exact bf e
def Td{m:Nat}(e:qr k m zs C=some (z,S))(dJ:∀l a,C[k]? =some (.dict l)->m=zA->zs=[a]->e3 l a->some ((cE l a).getD .none,C)=some (z,S)->R)(fi:∀l a b,C[k]? =some (.dict l)->m=zA->zs=[a,b]->e3 l a->some ((cE l a).getD b,C)=some (z,S)->R):R:=by
 refine Dz e λl ao e=>dZ e λY e=> ?_;cases zs with
 |nil=>exact bf e
 |cons a r=>
  cases r with
  |nil=>exact dZ e λae e=>dJ l a ao Y rfl ae e
  |cons b r=>
   cases r with
   |nil=>exact dZ e λae e=>fi l a b ao Y rfl ae e
   |cons B cr=>exact bf e
def Te{m:Nat}{n:Str}(T:fY c P G K cV eg e5)(an:c.N.fr.idxOf? n=some m)(e:mF k m zs C=some (z,S)):
  ∃id,(∀(A:Around) (aB:Value->Shared->Prop) (s:Shared) (p:Addr) (vs:Array Value) (fH:Nat) (f7:Sem Bool) (R:Value×List Value->Shared->Prop),s.heap.get? p=some {cls:=.type "list",data:=.seq vs fH}->R (.builtin id,[.ref p]) s->wpAny (model c.prog c.w) A (getMethod (.ref p) n f7) R aB s)/\
   ∀(A:Around) (aB:Value->Shared->Prop) (s:Shared) (M:c6) (v:Value) (vs:List Value) (Q:Value->Shared->Prop),bJ c.w c.N c.au s.heap M C->bb s.heap M v (.L k)->b9 s.heap M vs zs->eN c s M S z Q->wpAny (model c.prog c.w) A (call (.builtin id) (v::vs)) Q aB s:=by
 refine Ta e (λl y ao h0 hm hz vK e'=> ?_) (λl y ao h0 hm hz bA e'=> ?_) λl b q ao h0 hm hz gr aj vK e'=> ?_
 ·clear e;subst hz hm
  obtain rfl:=vF an T.JC;obtain⟨rfl,rfl⟩:=dD e';exact⟨_,λA aB s p vs fH f7 R aA fj=>DA aA PySem.F.slot_list_append PySem.F.type_list_append fj,λA aB s M v vs Q g r bg h=>bg.aR.elim λw q=>V q.1<|RR g r ao q.2 h0 vK h⟩
 ·clear e;subst hz hm
  obtain rfl:=vF an T.JD;obtain⟨rfl,rfl⟩:=dD e';exact⟨_,λA aB s p vs fH f7 R aA fj=>DA aA PySem.F.slot_list_pop PySem.F.type_list_pop fj,λA aB s M v vs Q g r bg h=>V (xu bg.length)<|RS g r ao h0 bA h⟩
 ·clear e;subst hz hm
  obtain rfl:=vF an T.JE;obtain⟨rfl,rfl⟩:=dD e';exact⟨_,λA aB s p vs fH f7 R aA fj=>DA aA PySem.F.slot_list_extend PySem.F.type_list_extend fj,λA aB s M v vs Q g r bg h=>bg.aR.elim λw q=>V q.1<|RT g r ao q.2 aj h0 gr vK h⟩
def JP{l:List (I×I)}{a JQ:I}{w:Value}{u:Option Value}(r:lo h M u (cE l a))(rw:bb h M w JQ):bb h M (u.getD w) ((cE l a).getD JQ):=II r (λv x e aF q=>by subst e;rw[aF];exact q) λe aF=>by subst e;rw[aF];exact rw
def Tf{m:Nat}{n:Str}(T:fY c P G K cV eg e5)(an:c.N.fr.idxOf? n=some m)(e:qr k m zs C=some (z,S)):
  n=aa "get"/\∀(A:Around) (aB:Value->Shared->Prop) (s:Shared) (M:c6) (v:Value) (vs:List Value) (Q:Value->Shared->Prop),en d A->bJ c.w c.N c.au s.heap M C->bb s.heap M v (.L k)->b9 s.heap M vs zs->eN c s M S z Q->wpAny (model c.prog c.w) A (call (.builtin "dict.get") (v::vs)) Q aB s:=by
 refine Td e (λl a ao hm hz bC e'=> ?_) λl a b ao hm hz bC e'=> ?_
 ·clear e;subst hz hm
  obtain⟨rfl,rfl⟩:=dD e';refine⟨vF an T.DN,λA aB s M v vs Q aX g r bg h=>bg.aR.elim λw q=>V q.1 ?_⟩;obtain⟨p,aw,fH,ab,rfl,B,aA,eb,hn,cr⟩:=bJ.dict g ao r;exact call_meetsIn PySem.F.slot_dict_get ⟨_,aA,rfl⟩ PySem.F.entry_dict_get (PySem.F.args_dict_get_2 _ _) (QT<|zX T.sys<|g.fR _<|tF ab) ⟨en.qz aX,M,_,l,aw,fH,q.2,bC,aA,eb,hn,λu bD=>h _ M _ (.jz g _)<|JP bD .none⟩
 ·clear e;subst hz hm
  obtain⟨rfl,rfl⟩:=dD e';refine⟨vF an T.DN,λA aB s M v vs Q aX g r bg h=>bg.j4.elim λw q=>q.elim λbn q=>V q.1 ?_⟩;obtain⟨p,aw,fH,ab,rfl,B,aA,eb,hn,cr⟩:=bJ.dict g ao r;exact call_meetsIn PySem.F.slot_dict_get ⟨_,aA,rfl⟩ PySem.F.entry_dict_get (PySem.F.args_dict_get_3 _ _ _) (QU<|zX T.sys<|g.fR _<|tF ab) ⟨en.qz aX,M,_,l,aw,fH,q.2.1,bC,aA,eb,hn,λu bD=>h _ M _ (.jz g _)<|JP bD q.2.2⟩
def Tg(T:fY c P G K cV eg e5)(ie:r1 c P cV O d){o:Expr}(n:Str)(apos:Pos)(pos:Pos)(pI:dv c G O d o)(bj:∀e∈args,dv c G O d e):dv c G O d (.Call (.Attribute o n apos) args [] pos):=by
 intro W aW aL sc aN A aB s M H C S z dy Q ag he aX F db h;refine dZ ag λAn ag=>bX ag λer ey ag=>bX ag λms eP ag=>dt ag λk an bM=> ?_;subst bM;refine c0 he λfb ax Y he=> ?_;rw[arm_eval_Call];refine wpAny_bind<|JI (bP<|bP An)<|pI _ _ _ _ _ _ _ _ _ _ _ _ _ _ _ ey Y aX F db λbe dL ez g1 bi=>wpAny_bind<|wpAny_standAt ?_;have an:=T.fr _ _ an;have ao:=dx<|cO An;have D4:=cO<|bP An;have g6:=F.step g1;have h:=eN.gL g1 h;have g1:=g1.ok
 clear An ag Y db F
 cases fb with
 |L L=>
  dsimp only at he;cases kW:ax[L]?with
  |none=>rw[kW]at he;exact bf he
  |some Th=>
   rw[kW]at he;cases Th with
   |cR cl Ti=>
    dsimp only at he;cases hR:Ti k with
    |some B=>rw[hR]at he;exact bf he
    |none=>
     cases r3:O.b1 cl k with
     |none=>rw[hR,r3]at he;exact bf he
     |some f=>rw[hR,r3]at he;refine c0 he λzs bq ae he=> ?_;rw[ie.b1]at r3;obtain⟨p,aI,gK,ji,eH,ab,acF,eX,B⟩:=bJ.cR g1 kW bi;obtain⟨Tj,rZ⟩:=T.JB _ _ _ _ _ r3 an eX;obtain⟨⟨fn,Tk⟩,oH⟩:=ie.fn _ _ _ _ _ he;exact D3 (Aj eP pos) ao D4 (λf7 R fj=>Se T.cls g1 bi kW an hR eX Tj rZ fj)<|tY T bj eP ae aX g6 g1 (D2 (T.DM _ _ Tk) T) λbF ft vs bd bg=>oH _ _ _ _ _ _ aX bd.ok (.cons (bi.keep bd.keep) bg)<|h.gL bd
   |list l=>refine c0 he λzs bq ae he=> ?_;obtain⟨p,Tl,fH,ab,rfl,B,aA,cr⟩:=bJ.list g1 kW bi;obtain⟨id,hy,eW⟩:=Te T an he;exact D3 (Aj eP pos) ao D4 (λf7 R fj=>hy _ _ _ _ _ _ _ _ aA fj)<|tY T bj eP ae aX g6 g1 (JO _) λbF ft vs bd bg=>eW _ _ _ _ _ _ _ bd.ok (bi.keep bd.keep) bg<|h.gL bd
   |dict l=>refine c0 he λzs bq ae he=> ?_;obtain⟨p,Tl,fH,ab,rfl,B,aA,cr⟩:=bJ.dict g1 kW bi;obtain⟨rfl,eW⟩:=Tf (d:=d) T an he;exact D3 (Aj eP pos) ao D4 (λf7 R fj=>RP aA PySem.F.slot_dict_get PySem.F.type_dict_get fj)<|tY T bj eP ae aX g6 g1 (JO _) λbF ft vs bd bg=>eW _ _ _ _ _ _ _ aX bd.ok (bi.keep bd.keep) bg<|h.gL bd
 |_=>exact bf he
end
end
section
section
variable{P:jx}{G:gS}
variable{x:I}{a b:Value}
def D5{e:Expr}{aw:List Expr}{is:List Nat}(h:tD aL sc (e::aw)=some is)(k:∀x p i qD,e=.Name x p->oe aL sc x=some i->tD aL sc aw=some qD->i::qD=is->R):R:=by
 cases e with
 |Name x p=>exact bX h λi ah h=>dt h λqD t3 bM=>k x p i qD rfl ah t3 bM
 |_=>exact bf h
def Tm{aw:List Expr}:∀{is:List Nat},tD aL sc aw=some is->(assignEach aw aN).length=aw.length/\(assignEach aw aN).findIdx? (·.1)=none/\aw.length=is.length:=by
 induction aw with
 |nil=>exactλh=>⟨rfl,rfl,bp h▸rfl⟩
 |cons e aw ay=>intro is h;refine D5 h λx p i qD he B t3 bM=> ?_;subst he bM;have q:=ay t3;exact⟨ai (·+1) q.1,(List.findIdx?_cons (xs:=assignEach aw aN) (x:=(false,assign (.Name x p) aN))).trans (ai (Option.map (·+1)) q.2.1),ai (·+1) q.2.2⟩
def Tn{aw:List Expr}:∀{is:List Nat} {vs:List Value} {zs:List I} {s:Shared} {H:bT} {Q:Unit->Shared->Prop},tD aL sc aw=some is->b9 s.heap M vs zs->aw.length=vs.length->dR c W aW aL sc aN s.heap M H->bJ c.w c.N c.au s.heap M C->
  (∀aY,dR c W aW aL sc aN aY.heap M ((is.zip zs).foldl (λr p=>ar r p.1 p.2) H)->bY c W s M aY M C->Q () aY)->wpAny (model c.prog c.w) A (assignInOrder ((assignEach aw aN).map (·.2)) vs) Q aB s:=by
 induction aw with
 |nil=>exactλh r ao F bW es=>assignInOrder_nil<|es _ (bp h▸F)<|.refl bW
 |cons e aw ay=>
  intro is vs zs s H Q h r ao F bW es;refine D5 h λx p i qD he ah t3 bM=> ?_;subst he bM;cases r with
  |nil=>exact absurd ao<|qx _
  |cons bi bg=>exact assignInOrder_cons (t:=assign (.Name x p) aN) (ts:=(assignEach aw aN).map (·.2))<|wpAny_bind<|wpAny_standAt<|F.Ag bW ah bi λbe g6 g1=>ay t3 (bg.keep<|g1.tr.keep F.nz) (nl ao) g6 g1.ok λbF cD bd=>es bF cD<|g1.trans bd
def Ao{e:Expr}{cL:od}{Q:Unit->Shared->Prop}(aX:en d A)(F:dR c W aW aL sc aN s.heap M H)(bW:bJ c.w c.N c.au s.heap M C)(aP:nk aL sc e=some cL)(r:bb s.heap M v z)(aJ:gC cL z H=some aT)(es:∀aY,dR c W aW aL sc aN aY.heap M aT->bY c W s M aY M C->Q () aY):wpAny (model c.prog c.w) A (assign e aN v) Q aB s:=by
 cases e with
 |Name x p=>refine dt aP λi ah bM=> ?_;subst bM;exact wpAny_bind<|wpAny_standAt<|F.Ag bW ah r<|bp aJ▸es
 |Tuple aw k p=>
  refine dt aP λis vL bM=> ?_;subst bM;cases z with
  |ak zs=>refine dZ aJ λhlen aJ=> ?_;obtain rfl:=bp aJ;obtain⟨gu,vs,rfl,jC,n2,d1,bg,aF⟩:=r.ox;have q:=Tm (aN:=aN) vL;have ao:aw.length=vs.length:=q.2.2.trans<|hlen.trans aF.symm;refine wpAny_assign_Tuple aX.handled jC (q.1.trans ao) q.2.1 λaO he=> ?_;have g:∀{W},bY c W s M {s with heap:=aO} M C:=bY.oo bW ⟨aO,s.toks,rfl,λb o e=>he b o (dU<|Heap.lt_size e) e⟩;exact Tn vL (bg.keep (g (W:=[])).keep) ao (F.step g) (g (W:=[])).ok λbF cD bd=>es bF cD<|g.trans bd
  |_=>exact bf aJ
 |_=>exact bf aP
set_option backward.match.sparseCases true in
def JR{e:Expr}{cL:od}{cF:List I}{Q:Unit->Shared->Prop}(aP:nk aL sc e=some cL)(fG:mM s.heap M it cg cF i)(h:Q () s):wpAny (model c.prog c.w) A (letOwnedTupleGo e (.ref it) v) Q aB s:=by
 cases e with
 |Name=>exact wpAny_pure h
 |Tuple aw D6 p=>
  have key:∀(o:Obj) (n:String) (ds:Array Value),s.heap.get? it=some o->o.cls=.type n->o.data=.fields ds->(["enumerate","zip","dict_itemiterator","dict_reverseitemiterator","odict_iterator","itertools.zip_longest","itertools.pairwise"]:List String).contains n=false->wpAny (model c.prog c.w) A (letOwnedTupleGo (.Tuple aw D6 p) (.ref it) v) Q aB s:=λo n ds aA ag bC hn=>by
   cases v with
   |ref acG=>refine wpAny_bind<|wpAny_load aA ?_;refine V ag<|V bC ?_;show wpAny _ _ (ite _ _ _) _ _ _;exact V (bH λq=>b7 ((ai (·&&_) hn).symm.trans q))<|wpAny_pure h
   |_=>exact wpAny_pure h
  rcases fG with⟨t,vs,B,⟨o,aA,ag,bC⟩,cr⟩|⟨k,p,eE,hb,⟨o,aA,ag,bC⟩⟩|⟨n,jU,jV,tm,tn,aA⟩
  ·exact key o "tuple_iterator" _ aA ag bC (by exact rfl)
  ·exact key o "list_iterator" _ aA ag bC (by exact rfl)
  ·exact key _ "range_iterator" _ aA rfl rfl (by exact rfl)
 |_=>exact bf aP
def To(ifs:List Expr){Q:Bool->Shared->Prop}(h:Q false s):
  wpAny df A (forIn ifs false λc r=>if r=true then do let ok<-isTrue c aN (eval c aN);pure (ForInStep.yield ok)else pure (ForInStep.yield r)) Q aB s:=by
 induction ifs with
 |nil=>refine V List.forIn_nil ?_;exact wpAny_pure h
 |cons c cs ay=>rw[List.forIn_cons];simp only[Bool.false_eq_true,if_false];exact wpAny_bind<|wpAny_pure ay
def Tp:(∀e∈ifs,hx c G O d e)->∀{ms:List b4} {t:Bool} {s:Shared} {M:c6} {C S:St} {Q:Bool->Shared->Prop},hQ G aL aW sc ifs=some ms->gp O ms H C=some (t,S)->en d A->dR c W aW aL sc aN s.heap M H->bJ c.w c.N c.au s.heap M C->
  (∀aY bt,bY c [] s M aY bt S->Q t aY)->
  wpAny (model c.prog c.w) A (forIn ifs true λc r=>if r=true then do let ok<-isTrue c aN (eval c aN);pure (ForInStep.yield ok)else pure (ForInStep.yield r)) Q aB s:=by
 induction ifs with
 |nil=>intro _ ms t s M C S Q h e aX F bW es;obtain rfl:=bp h;obtain⟨rfl,rfl⟩:=dD e;exact V List.forIn_nil<|wpAny_pure<|es _ _<|.refl bW
 |cons a6 cs ay=>
  intro bj ms t s M C S Q h e aX F bW es;refine bX h λer ey h=>dt h λqK j1 bM=> ?_;subst bM;refine c0 e λfb ax Y e=>bX e λg5 Do e=> ?_;rw[List.forIn_cons];refine(wpAny_bind (m:=do let ok<-isTrue a6 aN (eval a6 aN);pure<|ForInStep.yield ok)<|wpAny_bind<|bj a6 bo _ _ _ _ _ _ _ _ _ _ _ _ _ _ _ _ ey Y Do aX F bW λbe dL g1=>wpAny_pure ?_);cases g5 with
  |true=>exact ay (λe he=>bj e<|bQ _ he) j1 e aX (F.step g1) g1.ok λbF ft bd=>es _ _<|g1.trans bd
  |false=>obtain⟨rfl,rfl⟩:=dD e;exact To cs<|es _ _ g1
noncomputable def r4(aN:Env)(names:Sc):List (Str×Addr):=names.foldl (λcs p=>if p.2==.free then(p.1,(aN.cells.lookup p.1).getD 0)::cs else cs) []
def Tq(h:∀p∈scope.names,p.2=.free->∃ca,aN.cells.lookup p.1=some ca):closureFor scope aN=pure (r4 aN scope.names):=by
 delta closureFor r4;have key:∀(l:Sc) (acc:List (Str×Addr)),(∀p∈l,p.2=.free->∃ca,aN.cells.lookup p.1=some ca)->
   (forIn (m:=Sem) l acc λx r=>match x with
    |(name,kind)=>if(kind==NameKind.free)=true then do let a<-cellOf aN name;pure (ForInStep.yield ((name,a)::r))else pure (ForInStep.yield r))=pure (l.foldl (λcs p=>if p.2==.free then(p.1,(aN.cells.lookup p.1).getD 0)::cs else cs) acc):=by
  intro l;induction l with
  |nil=>intro acc _;refine V List.forIn_nil ?_;rfl
  |cons p l ay=>
   intro acc ao;obtain⟨n,k⟩:=p;rw[List.forIn_cons,List.foldl_cons];have zO:=λacc=>ay acc λq aC=>ao q<|bQ _ aC;by_cases an:(k==NameKind.free)=true
   ·obtain⟨ca,r5⟩:=ao (n,k) bo (by simpa using an);simp only at r5;simp only[an,if_true,cellOf,r5,Option.getD_some,pure_bind];exact zO _
   ·simp only[an,if_false,pure_bind];exact zO _
 have:=key scope.names [] h;simp only[bind_pure]at this⊢;exact this
section
variable{α:Type}{l m:List (Str×α)}{x k:Str}{a:α}
def nA(h:(x==k)=true):((k,a)::l).lookup x=some a:=by rw[List.lookup_cons,h]
def l9(h:(x==k)=false):((k,a)::l).lookup x=l.lookup x:=by rw[List.lookup_cons,h]
def vM(dJ:l.lookup x=some a->R)(fi:l.lookup x=none->m.lookup x=some a->R):(l++m).lookup x=some a->R:=by
 induction l with
 |nil=>exact fi rfl
 |cons p l ay=>
  cases ac:x==p.1 with
  |true=>exactλh=>dJ<|(nA ac).trans<|(nA (l:=l++m) ac).symm.trans h
  |false=>exactλh=>ay (λq=>dJ<|(l9 ac).trans q) (λq=>fi<|(l9 ac).trans q)<|(l9 (l:=l++m) ac).symm.trans h
def D7(h:l.lookup x=none):(l++m).lookup x=m.lookup x:=by
 induction l with
 |nil=>rfl
 |cons p l ay=>
  cases ac:x==p.1 with
  |true=>exact bf<|br h<|nA ac
  |false=>exact(l9 (l:=l++m) ac).trans<|ay<|(l9 ac).symm.trans h
end
def Tr{names:Sc}{x:Str}:∀{acc:List (Str×Addr)},(names.foldl (λcs p=>if p.2==.free then(p.1,(aN.cells.lookup p.1).getD 0)::cs else cs) acc).lookup x=some ca->acc.lookup x=some ca\/(x,NameKind.free)∈names/\ca=(aN.cells.lookup x).getD 0:=by
 induction names with
 |nil=>exactλh=>.inl h
 |cons p l ay=>
  intro acc h;refine(ay h).elim (λq=> ?_) λq=>.inr ⟨bQ _ q.1,q.2⟩;by_cases an:(p.2==NameKind.free)=true
  ·dsimp only at q;rw[bh an]at q;cases ac:x==p.1 with
   |true=>exact .inr ⟨pB.mpr<|.inl<|Prod.ext (eq_of_beq ac) (eq_of_beq an).symm,(bp<|(nA ac).symm.trans q).symm.trans<|eq_of_beq ac▸rfl⟩
   |false=>exact .inl<|(l9 ac).symm.trans q
  ·dsimp only at q;rw[bH an]at q;exact .inl q
def Ts{names:Sc}{x:Str}:∀{acc:List (Str×Addr)},(x,NameKind.free)∈names\/acc.lookup x=some ((aN.cells.lookup x).getD 0)->(names.foldl (λcs p=>if p.2==.free then(p.1,(aN.cells.lookup p.1).getD 0)::cs else cs) acc).lookup x=some ((aN.cells.lookup x).getD 0):=by
 induction names with
 |nil=>exactλh=>h.elim (λq=>absurd q b5) id
 |cons p l ay=>
  intro acc h;refine ay ?_;by_cases an:(p.2==NameKind.free)=true
  ·dsimp only;rw[bh an];cases ac:x==p.1 with
   |true=>exact .inr<|(nA ac).trans<|eq_of_beq ac▸rfl
   |false=>exact h.imp (λq=>(cS q).resolve_left λe=>beq_eq_false_iff_ne.mp ac<|ai Prod.fst e) λq=>(l9 ac).trans q
  ·dsimp only;rw[bH an];exact h.imp_left λq=>(cS q).resolve_left λe=>an<|beq_iff_eq.mpr (ai Prod.snd e).symm
def Ap{names:Sc}{x:Str}(h:(r4 aN names).lookup x=some ca):(x,NameKind.free)∈names/\ca=(aN.cells.lookup x).getD 0:=(Tr h).elim (λq=>bf q) id
def Tt{names:Sc}{x:Str}(h:(x,NameKind.free)∈names):(r4 aN names).lookup x=some ((aN.cells.lookup x).getD 0):=Ts<|.inl h
def Tu{Tv:Bool}{x:Str}{k:NameKind}:names.lookup x=some k->
  (names.map λ(n,k)=>if(k==NameKind.free&&aN.scope.kind==.function&&aN.kindOf n==some .cell)then(n,NameKind.cell)else(n,k)).lookup x=some k\/
  (k=.free/\(names.map λ(n,k)=>if(k==NameKind.free&&aN.scope.kind==.function&&aN.kindOf n==some .cell)then(n,NameKind.cell)else(n,k)).lookup x=some .cell):=by
 induction names with
 |nil=>exactλh=>bf h
 |cons p r ay=>
  obtain⟨n,gh⟩:=p;intro h;rw[List.map_cons];dsimp only;by_cases ag:(gh==NameKind.free&&aN.scope.kind==.function&&aN.kindOf n==some .cell)=true
  ·rw[bh ag];cases ac:x==n with
   |true=>exact .inr ⟨(bp<|(nA ac).symm.trans h).symm.trans<|eq_of_beq<|bP<|bP ag,nA ac⟩
   |false=>rw[l9 ac];exact ay<|(l9 ac).symm.trans h
  ·rw[bH ag];cases ac:x==n with
   |true=>exact .inl<|(nA ac).trans<|(nA ac).symm.trans h
   |false=>rw[l9 ac];exact ay<|(l9 ac).symm.trans h
def Aq{l:List Str}{x:Str}:∀{n:Nat},(h5 l n).lookup x=some i->n<=i/\l[i-n]? =some x:=by
 induction l with
 |nil=>exactλh=>bf h
 |cons y l ay=>
  intro n h;cases ac:x==y with
  |true=>obtain rfl:=bp<|(nA ac).symm.trans h;exact⟨gF _,V (Nat.sub_self n)<|ai some (eq_of_beq ac).symm⟩
  |false=>have q:=ay<|(l9 ac).symm.trans h;exact⟨Nat.le_of_succ_le q.1,V (Jc q.1) q.2⟩
def vN{l:List Str}{n:Nat}{x:Str}(h:(h5 l n).lookup x=some i):x∈l/\n<=i/\i<n+l.length:=by have q:=Aq h;have:=(h7 q.2).1;exact⟨dK q.2,q.1,(Nat.sub_lt_iff_lt_add' q.1).mp this⟩
def Ar{l:List Str}{n:Nat}{x:Str}(ac:x∉l):(h5 l n).lookup x=none:=by
 cases h:(h5 l n).lookup x with
 |none=>rfl
 |some i=>exact absurd (vN h).1 ac
def JS{l:List Str}{x:Str}:∀{n:Nat},x∈l->∃i,(h5 l n).lookup x=some i:=by
 induction l with
 |nil=>exactλh=>absurd h b5
 |cons y l ay=>
  intro n h;cases ac:x==y with
  |true=>exact⟨n,nA ac⟩
  |false=>exact(ay (n:=n+1)<|(cS h).resolve_left<|beq_eq_false_iff_ne.mp ac).elim λi q=>⟨i,(l9 ac).trans q⟩
def JT{l:List Str}{n:Nat}{x y:Str}(h:(h5 l n).lookup x=some i)(k:(h5 l n).lookup y=some i):x=y:=bp<|(Aq h).2.symm.trans (Aq k).2
def xV{names:Sc}{x:Str}{k:NameKind}:(names.map (·.1)).Nodup->(x,k)∈names->names.lookup x=some k:=by
 induction names with
 |nil=>exactλB h=>absurd h b5
 |cons p l ay=>
  intro hn h;have hn:=hH hn;cases ac:x==p.1 with
  |true=>exact(cS h).elim (λe=>e▸nA (beq_self_eq_true _)) λhm=>absurd (i1 ⟨(x,k),hm,eq_of_beq ac⟩) hn.1
  |false=>exact(l9 ac).trans<|ay hn.2<|(cS h).resolve_left λe=>beq_eq_false_iff_ne.mp ac<|ai Prod.fst e
def dR.comp(F:dR c W aW aL sc aN s.heap M H)(bW:bJ c.w c.N c.au s.heap M C)(an:scope.kind=.function)(Y:zH scope.names)(ae:tE scope.names)(ba:zI aL sc scope.names)(cq:(scope.names.map (·.1)).Nodup)(eX:s.heap.get? aI=none)(hn:aO.Ns aI λB=>none)(g:bY c [] s M {s with heap:=aO} M C):
  dR c [aI] (aW+(h4 scope.names).length) (h5 (h4 scope.names) aW++aL) scope.names (compEnvC scope (r4 aN scope.names) aI aN) aO M H/\
   (∀p∈scope.names,p.2=.free->∃ca,aN.cells.lookup p.1=some ca):=by
 have lz:=F.step g;obtain⟨l7,nb⟩:=bW.tO eX;have free:∀{x},(x,NameKind.free)∈scope.names->(sc.lookup x=some .cell\/sc.lookup x=some .free)/\∃i,aL.lookup x=some i:=λac=>by
  have q:=hg ba _ ac;simp only[bne_self_eq_false,Bool.false_or,Bool.and_eq_true,qP,beq_iff_eq]at q;exact⟨q.1,hT q.2⟩
 have cellOf:∀{x},(x,NameKind.free)∈scope.names->∃ca,aN.cells.lookup x=some ca:=λac=>(free ac).2.elim λi ah=>(F.cells _ i (free ac).1 ah).elim λca q=>q.elim λu q=>⟨ca,q.1⟩;have JU:∀{x},x∈h4 scope.names->∃k,(x,k)∈scope.names/\(k==.local||k==.cell)=true/\x≠(".0":Str):=λhm=>by
  obtain⟨⟨y,k⟩,a8,rfl⟩:=e4 hm;have q:=pL a8;exact⟨k,q.1,bP q.2,bne_iff_ne.mp<|cO q.2⟩
 have JV:(".0":Str)∉h4 scope.names:=λhm=>(JU hm).elim λB q=>q.2.2 rfl;have As:∀{x},scope.names.lookup x≠some .cell:=λac=>absurd (hg Y _<|PySem.mem_of_lookup ac) (by simp);have cl:∀{x ca},(r4 aN scope.names).lookup x=some ca->aN.cells.lookup x=some ca:=λh=>(cellOf (Ap h).1).elim λDJ e=>e.trans<|ai some ((Ap h).2.trans<|V e rfl).symm;have cf:∀{x i},(h5 (h4 scope.names) aW).lookup x=some i->∀{y},aL.lookup y≠some i:=λh y q=>Nat.lt_irrefl _<|c7 (F.lt _ _ q) (vN h).2.1;refine⟨{kind:=an,glob:=F.glob,blt:=F.blt,kinds:=λx k h=>Tu (Tv:=true) h,nodict:=λx k h=>mH.mpr<|bne_iff_ne.mp (hg ae _<|PySem.mem_of_lookup h)∘eq_of_beq,lt:=λx i=>vM (λq=>(vN q).2.2) λB q=>Nat.lt_add_right _<|F.lt _ _ q,top:=λi ah=>F.top i<|k3 ah,dot:=(D7<|Ar JV).trans F.dot,inj:=λx y i ac a8=>vM (λq=>vM (λr=>JT q r) (λB r=>absurd r<|cf q) a8) (λB q=>vM (λr=>absurd q<|cf r) (λB r=>F.inj _ _ _ q r) a8) ac,ns:=⟨_,hn,λx i e ac aS he=> ?_⟩,cells:=λx i ac aS=> ?_,r0:=⟨l7,nb⟩,ny:=λx ca h=>have q:=F.ny x ca<|cl h;⟨q.1,q.2.1,λr=>(F.lw x ca<|cl h).elim λu q=>q.elim λo q=>bf<|br eX<|(ai s.heap.get?<|show ca=aI from r).symm.trans q.1⟩,lw:=λx ca h=>lz.lw x ca<|cl h,apart:=λx y ca ac a8=>F.apart _ _ _ (cl ac)<|cl a8,xO:=vx.mpr rfl,DG:=λx ca ac B=>absurd ac As,lx:=λb aj=>(bR aj)▸⟨l7,nb,hn.elim λo q=>q.elim λB q=>q.elim λB q=>⟨o,q.1,λ⟨B,cr,r⟩=>nomatch q.2.1.symm.trans r⟩⟩},λp ab hf=>cellOf<|hf▸ab⟩
 ·by_cases bC:x=(".0":Str)
  ·exact bf<|br F.dot<|(D7<|Ar JV).symm.trans<|bC▸aS
  ·obtain⟨j,aQ⟩:=JS (n:=aW) (i1 ⟨(x,.local),r6.mpr ⟨PySem.mem_of_lookup ac,dI rfl<|bne_iff_ne.mpr bC⟩,rfl⟩:x∈h4 scope.names);exact vM (λq=>bf<|(F.top _ (vN q).2.1).symm.trans he) (λq B=>bf<|br q aQ) aS
 ·have vO:(x,NameKind.free)∈scope.names:=ac.elim (λac=>absurd ac As) PySem.mem_of_lookup;have Tw:x∉h4 scope.names:=λhm=>(JU hm).elim λk q=>by
   obtain rfl:=bp<|(xV cq vO).symm.trans<|xV cq q.1;exact b7 q.2.1
  have aS:aL.lookup x=some i:=(D7<|Ar Tw).symm.trans aS;exact(lz.cells x i (free vO).1 aS).elim λca q=>q.elim λu q=>⟨ca,u,(Tt vO).trans<|ai some<|V q.1 rfl,q.2⟩
end
end
section
section
variable{P:jx}{G:gS}
variable{x:I}{a b:Value}
def dR.nB(F:dR c W aW aL sc aN s.heap M aT)(h:∀i d,H i=some d->aT i=some d):dR c W aW aL sc aN s.heap M H:=
 {F with
  top:=λi ah=>by
   cases q:H i with
   |none=>rfl
   |some d=>exact bf<|(F.top i ah).symm.trans<|h i d q
  ns:=F.ns.elim λm q=>⟨m,q.1,λx i d Y ae ba=>q.2 x i d Y ae<|h i d ba⟩
  cells:=λx i Y ae=>(F.cells x i Y ae).elim λca q=>q.elim λu q=>⟨ca,u,q.1,q.2.1,λd bC=>q.2.2 d (h i d bC)⟩}
def Tx{aw:List Expr}:∀{is:List Nat},tD aL sc aw=some is->∀i∈is,∃x,oe aL sc x=some i:=by
 induction aw with
 |nil=>exactλh i ah=>absurd (bp h▸ah) b5
 |cons e aw ay=>exactλh i ah=>D5 h λx p j qD B aQ t3 bM=>(cS<|bM▸ah).elim (λe:i=j=>⟨x,e▸aQ⟩)<|ay t3 i
def Ty{j:Nat}{is:List Nat}:∀(zs:List I) (H:bT),j∉is->((is.zip zs).foldl (λr p=>ar r p.1 p.2) H) j=H j:=by
 induction is with
 |nil=>exactλB B B=>rfl
 |cons i is ay=>
  intro zs H h;cases zs with
  |nil=>rfl
  |cons z zs=>exact(ay zs (ar H i z) λq=>h<|bQ _ q).trans (bH λq:j=i=>h<|q▸bo)
def Tz{e:Expr}{cL:od}(aP:nk aL sc e=some cL)(vP:∀x i,oe aL sc x=some i->H i=none)(aJ:gC cL z H=some aT):∀j d,H j=some d->aT j=some d:=by
 intro j d aQ;cases e with
 |Name x p=>refine dt aP λi ah bM=> ?_;subst bM;obtain rfl:=bp aJ;have bu:j≠i:=λq=>bf<|(vP _ _ ah).symm.trans<|q▸aQ;exact Jr bu aQ
 |Tuple aw k p=>
  refine dt aP λis vL bM=> ?_;subst bM;cases z with
  |ak zs=>exact dZ aJ λB aJ=>bp aJ▸(Ty zs H λq=>(Tx vL j q).elim λx ac=>bf<|(vP _ _ ac).symm.trans aQ).trans aQ
  |_=>exact bf aJ
 |_=>exact bf aP
noncomputable def D8(O:ht)(dy:b4)(mt:od)(ig:List b4)(H:bT)(x:I)(s:St):Option (Option I×St):=(gC mt x H).bind λci=>(gp O ig ci s).bind λq=>if q.1 then(bV O dy ci q.2).bind λu=>some (some u.1,u.2)else some (none,q.2)
def D9{α:Type}{l:List α}{x:α}{r:List α}:∀{i:Nat},l.drop i=x::r->l[i]? =some x/\l.drop (i+1)=r:=by
 induction l with
 |nil=>exactλ{i} h=>absurd ((List.drop_nil (i:=i)).symm.trans h) nofun
 |cons y l ay=>
  intro i h;cases i with
  |zero=>exact⟨ai some (List.cons.inj h).1,(List.cons.inj h).2⟩
  |succ i=>exact ay h
def TA{de:I->St->Option (Option I×St)}{r:List I×St}(h:ir el de [] C=some r)(k:el C->([],C)=r->R):R:=dZ h λq e=>k q<|bp e
def TB{de:I->St->Option (Option I×St)}{r:List I×St}(h:ir el de (x::xs) C=some r)(k:el C->∀y ax ys bq,de x C=some (y,ax)->ir el de xs ax=some (ys,bq)->(y.toList++ys,bq)=r->R):R:=by
 refine dZ h λq h=> ?_;cases aP:de x C with
 |none=>rw[aP]at h;exact bf h
 |some p=>
  rw[aP]at h;obtain⟨y,ax⟩:=p;dsimp only at h;cases ag:ir el de xs ax with
  |none=>rw[ag]at h;exact bf h
  |some w=>rw[ag]at h;exact k q y ax w.1 w.2 aP ag<|bp h
structure nC(c:Ctx)(it:Addr)(cg:Option Nat)(cF:List I)(i:Nat)(s:Shared)(M:c6):Prop where
 d0:mM s.heap M it cg cF i
 fR:it∉foot M/\c.au.get? it=none
 pM:∃o,s.heap.get? it=some o/\¬∃dP n,o.data=.seq dP n
def mM.pM{cF:List I}(bj:mM h M it cg cF i):∃o,h.get? it=some o/\¬∃dP n,o.data=.seq dP n:=by
 rcases bj with⟨t,vs,B,⟨o,aA,cr,bC⟩,eE⟩|⟨k,p,hb,jU,⟨o,aA,jV,bC⟩⟩|⟨n,tm,tn,tp,tq,aA⟩
 ·exact⟨o,aA,λ⟨B,cr,q⟩=>nomatch bC.symm.trans q⟩
 ·exact⟨o,aA,λ⟨B,cr,q⟩=>nomatch bC.symm.trans q⟩
 ·exact⟨_,aA,λ⟨B,cr,q⟩=>nomatch q⟩
def nC.step{cF:List I}(X:nC c it cg cF i s M)(g:bY c W s M aY bt S)(hv:it∉W)(fL:nq s.heap W):nC c it cg cF i aY bt:=⟨X.d0.step X.fR.1 g hv fL,⟨X.pM.elim λo q=>g.tr.fR q.1 X.fR.1 hv,X.fR.2⟩,X.pM.elim λo q=>⟨o,g.tr.kl _ _ q.1 X.fR.1 hv,q.2⟩⟩
def nC.nz{cF:List I}(X:nC c it cg cF i s M):nq s.heap [it]:=λb aj o e B q=>X.pM.elim λo' r=>r.2<|bp ((bR aj▸e).symm.trans r.1)▸q
structure xW(c:Ctx)(D:Addr)(vs:Array Value)(n:Nat)(zs:List I)(s:Shared)(M:c6):Prop where
 fR:D∉foot M/\c.au.get? D=none
 obj:s.heap.get? D=some {cls:=.type "list",data:=.seq vs n}
 At:b9 s.heap M vs.toList zs
def xW.step{D:Addr}{vs:Array Value}{n:Nat}(X:xW c D vs n zs s M)(g:bY c W s M aY bt S)(hv:D∉W)(fL:nq s.heap W):xW c D vs n zs aY bt:=⟨⟨g.tr.fR X.obj X.fR.1 hv,X.fR.2⟩,g.tr.kl _ _ X.obj X.fR.1 hv,X.At.keep<|g.tr.keep fL⟩
def vQ:nq h []:=λB h=>absurd h b5
def dR.Ea{a:Addr}(F:dR c [aN.locals] aW aL sc aN s.heap M H)(g:bY c [a] s M aY bt S)(fL:nq s.heap [a])(h:a≠aN.locals)(ag:∀x ca,aN.cells.lookup x=some ca->ca≠a):dR c [aN.locals] aW aL sc aN aY.heap bt H:=F.xP g fL λb aj=>bR aj▸⟨h,λq=>h<|bR q,ag⟩
def JW{a b c:Addr}:∀x∈[b],x∈[a,b,c]:=λB h=>bR h▸bQ _ bo
def TC{a b c:Addr}:∀x∈[a],x∈[a,b,c]:=λB h=>bR h▸bo
def TD{a b c:Addr}:∀x∈[c],x∈[a,b,c]:=λB h=>bQ _<|bQ _ h
def du{a b:Addr}(h:a≠b):a∉[b]:=λq=>h<|bR q
def TE{pos:Pos}(vR:dv c G O d elt)(pK:∀e∈ifs,hx c G O d e)(he:c9 G aL aW sc elt=some dy)(ah:hQ G aL aW sc ifs=some ig)(aP:nk aL sc cL=some mt)(vP:∀x i,oe aL sc x=some i->H i=none)(aX:en d A){D:Addr}{cF:List I}(t4:cF.length<=16000000)(Ah:D≠aN.locals)(Eb:it≠aN.locals)(Ec:D≠it)(Ed:∀x ca,aN.cells.lookup x=some ca->ca≠D/\ca≠it){rest:List I}:
  ∀(i:Nat) (zs:List I) (s:Shared) (M:c6) (C:St) (ys:List I) (S:St) (R:Result->Shared->Prop) (vs:Array Value) (n:Nat),cF.drop i=rest->ir (λs=>hc s cg cF) (D8 O dy mt ig H) rest C=some (ys,S)->
   dR c [aN.locals] aW aL sc aN s.heap M H->bJ c.w c.N c.au s.heap M C->nC c it cg cF i s M->xW c D vs n zs s M->zs.length<=i->i<=cF.length->
   (∀aY bt ma eH,bY c [aN.locals,it,D] s M aY bt S->xW c D ma eH (zs++ys) aY bt->(zs++ys).length<=16000000->(∃m,aY.heap.Ns aN.locals m)->aN.locals∉foot bt->R (.ok .next) aY)->
   codeAny (model c.prog c.w) A (.compLoop (.ListComp elt [⟨cL,iter,ifs,0⟩] scope pos) 0 (.ref it) (.ref D) aN) R s:=by
 induction rest with
 |nil=>
  intro i zs s M C ys S R vs n bC ag F bW bj oI hz TF fj;refine TA ag λhI e=> ?_;obtain⟨rfl,rfl⟩:=kO e;refine codeAny_of_tree ?_;show wpAny _ A ((compTurn _ 0 _ _ aN).onRaise (λx=>do noteFrame x aN;theTreesLotGoes x)) _ _ s;refine wpAny_noted<|V (compTurn_list ..)<|wpAny_bind<|wpAny_standAt<|wpAny_bind<|Ai aX bW bj.d0 bj.fR bj.pM hI (λx v be ac B B B=> ?_) λbe ac g1=> ?_
  ·exact bf<|(List.getElem?_eq_none_iff.mpr<|List.drop_eq_nil_iff.mp bC).symm.trans ac
  ·have g6:=F.Ea g1 bj.nz Eb λx ca h=>(Ed x ca h).2;exact wpAny_pure<|fj be M vs n (g1.cj JW) (V (ew _)<|oI.step g1 (du Ec) bj.nz) (V (ew _)<|a3 hz<|a3 TF t4) (g6.ns.elim λm q=>⟨m,q.1⟩) g6.r0.1
 |cons x rest ay=>
  intro i zs s M C ys S R vs n bC ag F bW bj oI hz _ fj;obtain⟨ac,vC⟩:=D9 bC;have Ee:i<cF.length:=(h7 ac).1;refine TB ag λhI r7 ax Au bq oJ JX e=> ?_;obtain⟨rfl,rfl⟩:=kO e;refine bX oJ λci Ef oJ=>c0 oJ λt TG JY oJ=> ?_;refine codeAny_of_tree ?_;show wpAny _ A ((compTurn _ 0 _ _ aN).onRaise (λx=>do noteFrame x aN;theTreesLotGoes x)) _ _ s;refine wpAny_noted<|V (compTurn_list ..)<|wpAny_bind<|wpAny_standAt<|wpAny_bind<|Ai aX bW bj.d0 bj.fR bj.pM hI (λqB v be oK g1 bi r8=> ?_) λbe oK B=>bf<|br oK ac;obtain rfl:=bp<|br ac oK;have g6:=F.Ea g1 bj.nz Eb λx ca h=>(Ed x ca h).2;have fS:=oI.step g1 (du Ec) bj.nz;have Av:nC c it cg cF (i+1) be M:=⟨r8,bj.fR,r8.pM⟩
  clear bj oI F ac oK bC ag
  dsimp only;refine wpAny_bind<|JR aP r8<|wpAny_bind<|Ao aX g6 g1.ok aP bi Ef λbF cD bd=> ?_;have JZ:=Av.step bd (du Eb) g6.nz;have hj:=fS.step bd (du Ah) g6.nz;have J0:=Tz aP vP Ef
  clear Av fS g6 bi r8 Ef
  refine wpAny_bind<|Tp pK ah JY aX cD bd.ok λs3 iJ cQ=> ?_;have lA:=cD.step cQ;have r9:=JZ.step cQ b5 vQ;have j5:=hj.step cQ b5 vQ;have Eg:bY c [aN.locals,it,D] s M s3 iJ TG:=((g1.cj JW).trans<|bd.cj TC).trans cQ.ib;have cQ:=cQ.ok
  clear JZ hj cD g1 bd JY
  cases t with
  |false=>obtain⟨rfl,rfl⟩:=dD oJ;exact wpAny_pure ⟨rfl,ay (i+1) zs s3 iJ _ Au _ R vs n vC JX (lA.nB J0) cQ r9 j5 (rX hz) Ee λaY bt ma eH eO=>fj aY bt ma eH<|Eg.trans eO⟩
  |true=>
   rw[bh rfl]at oJ;refine c0 oJ λfb acH DQ oJ=> ?_;obtain⟨rfl,rfl⟩:=dD oJ;refine wpAny_bind<|wpAny_bind<|vR _ _ _ _ _ _ _ _ _ _ _ _ _ _ _ he DQ aX lA cQ λs4 k1 v4 eu dW=> ?_;have Aw:=lA.step eu;have TH:=r9.step eu b5 vQ;have iK:=j5.step eu b5 vQ;have g:=Eg.trans eu.ib;have eu:=eu.ok
   clear lA r9 j5 Eg cQ
   refine wpAny_bind<|wpAny_call_entry slot_list_append ⟨_,iK.obj,rfl⟩ entry_list_append ?_<|args_list_append _ _;obtain⟨⟨eH,aD⟩,aJ⟩:=vD (f:=(·.push v4)) iK.obj;have fs:vs.size+1<=sizeLine:=a3 (Nat.succ_le_of_lt<|c1 (a3 (cM iK.At.length) hz) Ee)<|a3 t4 jY;refine wpAny_bind (m:=updateSeq D (·.push v4))<|wpAny_updateSeq iK.obj rfl (hz:=Nat.le_of_succ_le fs) (_hz':=a3 (cM<|Array.size_push _)<|rX fs)<|wpAny_pure ⟨.none,rfl,wpAny_pure<|wpAny_pure ⟨rfl,?_⟩⟩;have J1:∀o,s4.heap.get? D=some o->o.cls=.type "tuple"->(∃dP n,o.data=.seq dP n)->False:=λo e cl B=>(show¬Value.type "list"=.type "tuple" by decide)<|(ai Obj.cls<|bp<|br iK.obj e).trans cl;obtain⟨i4,J2⟩:=bY.cell (t:=s4.toks) eu iK.fR aJ J1;have J3:nq s4.heap [D]:=λb aj o e cl q=>J1 o (bR aj▸e) cl q;exact ay (i+1) (zs++[fb]) _ k1 _ Au _ R (vs.push v4) eH vC JX ((Aw.Ea i4 J3 Ah λx ca h=>(Ed x ca h).1).nB J0) i4.ok (TH.step i4 (du<|Ne.symm Ec) J3)
    ⟨iK.fR,aD,V Array.toList_push<|(iK.At.keep J2).zN<|dW.keep J2⟩ (a3 (cM eo)<|kX hz) Ee λaY bt ma Jb eO q=>iG zs [fb] Au▸λnx sa=>fj aY bt ma Jb ((g.trans<|i4.cj TD).trans eO) (iG zs [fb] Au▸q) nx sa
end
end
section
section
variable{P:jx}{G:gS}
variable{x:I}{a b:Value}
def Ax(c:Ctx)(A:Around)(s:Shared)(M:c6)(ax:St)(cg:Option Nat)(cF:List I)(iter:Expr)(aN:Env):Prop:=
 ∀(aB:Value->Shared->Prop) (Q:Value->Shared->Prop),(∀aY bt it,bY c [] s M aY bt ax->s.heap.get? it=none->it∉foot bt->c.au.get? it=none->(∃o,aY.heap.get? it=some o/\¬∃dP n,o.data=.seq dP n)->mM aY.heap bt it cg cF 0->cF.length<=16000000->Q (.ref it) aY)->
  wpAny (model c.prog c.w) A (eval iter aN) (λx be=>wpAny (model c.prog c.w) A (pyIter x) Q aB be) aB s
def bY.xX(g:bY c [] s M aY bt S)(hf:it∉foot M)(h:aY.heap.get? it=none):s.heap.get? it=none:=by
 cases q:s.heap.get? it with
 |none=>rfl
 |some o=>exact bf<|br h<|g.tr.kl _ _ q hf b5
def Ay(g:bY c W s M aY bt S){b:Addr}(h:b∈foot M):b∈foot bt:=g.tr.pre.elim λh6 q=>q.1▸V (oi _ _) (jg _ h)
def TI(bW:bJ c.w c.N c.au s.heap M C)(r:bb s.heap M v z)(ao:ni C z=some (l,cg)):l.length<=16000000:=by
 refine xD ao (λm ac e=> ?_) λo m ac hm e=> ?_
 ·clear ao;subst ac
  obtain⟨rfl,rfl⟩:=dD e;exact r.ox.elim λB q=>q.elim λB q=>q.2.2.2.1
 ·clear ao;subst ac
  obtain⟨rfl,rfl⟩:=dD e;obtain⟨B,cr,eE,hb,jU,jV,tm,tn,h,tp⟩:=bJ.list bW hm r;exact h
def J4{ig:b4}(bj:dv c G O d iter)(ag:c9 G aL aW sc iter=some ig)(he:bV O ig H C=some (z,ax))(ao:ni ax z=some (l,cg))(aX:en d A)(F:dR c W aW aL sc aN s.heap M H)(bW:bJ c.w c.N c.au s.heap M C):
  Ax c A s M ax cg l iter aN:=by
 intro aB Q h;refine bj _ _ _ _ _ _ _ _ _ _ _ _ _ _ _ ag he aX F bW λbe dL ez g1 bi=> ?_;refine Su g1.ok bi ao λbF it bd Y ae ba cq dF=>h bF dL it (g1.trans bd) (g1.xX (λq=>ae<|Ay g1 q) Y) ae ba cq dF<|TI g1.ok bi ao
theorem TJ{n:Int}(bW:bJ c.w c.N c.au s.heap M C)(r:bb s.heap M v (.int n))(hn:0<=n/\n<16000000)(h:∀aY it,bY c [] s M aY M C->s.heap.get? it=none->it∉foot M->c.au.get? it=none->(∃o,aY.heap.get? it=some o/\¬∃dP n,o.data=.seq dP n)->mM aY.heap M it none (qs n) 0->Q (.ref it) aY):
  wpAny (model c.prog c.w) A (call (.type "range") [v]) (λx be=>wpAny (model c.prog c.w) A (pyIter x) Q aB be) aB s:=by
 cases r with
 |int B t=>
 have g1:=bY.push (W:=[]) bW {cls:=.type "range",data:=.fields #[.int 0 s.toks,.int n t,.int 1<|s.toks+1]} (s.toks+1+1);have bd:=bY.push (W:=[]) g1.ok {cls:=.type "range_iterator",data:=.fields #[rawInt 0,rawInt<|Builtin.Range.rangeSize 0 n 1,rawInt 1]} (s.toks+1+1);have l7:=g1.ok.tO<|rT _;refine call_range_1 (wpAny_pyIter_range (IsRange.new ..) (small_one (by decide) (by decide) (by lia)<|by lia)<|h _ _ (g1.trans bd) (g1.xX l7.1<|rT _) l7.1 l7.2 ⟨_,Heap.get?_push_size _ rfl,λ⟨B,cr,q⟩=>nomatch q⟩<|.inr<|.inr ⟨n,rfl,rfl,hn.2,jA _,?_⟩)
 ·have e:Builtin.Range.rangeSize 0 n 1=(n.toNat-(0:Nat):Int):=by unfold Builtin.Range.rangeSize;simp;lia
  show Heap.get? _ _=some _;exact eF e<|Heap.get?_push_size _ rfl
def TK(ag:c9 G aL aW sc iter=some (.cx .range dy))(ah:xr iter):
  dy=.bc .none\/∃f p e pos,iter=.Call (.Name f p) [e] [] pos/\nj G sc f=some (.cx .range)/\c9 G aL aW sc e=some dy:=by
 cases iter with
 |Call fn args Eh pos=>
  clear ah
  cases Eh with
  |cons B cr=>cases fn<;>exact bf ag
  |nil=>
   cases fn with
   |Attribute o n ap=>exact dZ ag λB ag=>bX ag λB B ag=>bX ag λB B ag=>dt ag λB B ag=>b4.noConfusion ag
   |Name f p=>
    refine H2 (λag=> ?_) (λB B ag=> ?_) (λB B ag=> ?_) (λb aj ag=> ?_) ag
    ·exact .inl (b4.cx.inj<|bp ag).2.symm
    ·exact dt ag λB B ag=>b4.noConfusion ag
    ·exact dt ag λB B ag=>b4.noConfusion ag
    ·refine bX ag λms eP ag=> ?_;cases args with
     |nil=>obtain rfl:=bp eP;exact bf ag
     |cons aD aw=>
      refine bX eP λcU hS eP=>dt eP λqK j1 bM=> ?_;cases aw with
      |nil=>obtain rfl:=bp j1;subst bM;obtain⟨rfl,rfl⟩:=b4.cx.inj<|bp ag;exact .inr ⟨f,p,aD,pos,rfl,aj,hS⟩
      |cons aF aw=>refine bX j1 λbl B j1=>dt j1 λJH B aD=> ?_;subst aD bM;exact bf ag
   |_=>exact bf ag
 |_=>exact b7 ah
theorem J5(T:fY c P G K cV eg e5){n:Int}(bj:∀e,sizeOf e<sizeOf iter->dv c G O d e)(ag:c9 G aL aW sc iter=some (.cx .range dy))(ah:xr iter)(he:bV O dy H C=some (.int n,ax))(hn:0<=n/\n<16000000)(aX:en d A)(F:dR c W aW aL sc aN s.heap M H)(bW:bJ c.w c.N c.au s.heap M C):Ax c A s M ax none (qs n) iter aN:=by
 intro aB Q h;rcases TK ag ah with rfl|⟨f,p,e,pos,rfl,hf,Ei⟩
 ·cases he
 show wpAny _ _ (do callWith pos (<-eval (.Name f p) aN) [] (backTo pos<|starEach [e] aN) (backToKw pos<|keywordEach [] aN)) _ aB s;refine wpAny_bind<|xS T F bW hf nofun λqN t2=>V (show qN=tX .range from t2) ?_;refine tY T (λe' gU=>bj e' (by rw[vx]at gU;subst gU;simp;lia)) (show hQ G aL aW sc [e]=some [dy]from bB Ei rfl) (show kS O [dy] H C=some ([.int n],ax)from bB he rfl) aX F bW (JN .range) λbe dL vs g1 bi=> ?_;obtain⟨w,rfl,hy⟩:=bi.aR;exact TJ g1.ok hy hn λbF it bd Y ae ba cq dF=>h bF dL it (g1.trans bd) (g1.xX (λq=>ae<|Ay g1 q) Y) ae ba cq dF (V (c2 _)<|V tW<|by lia)
def TL{cF:List I}(bj:mM s.heap M it cg cF i)(h:Q (.ref it) s):wpAny (model c.prog c.w) A (pyIter<|.ref it) Q aB s:=by
 rcases bj with⟨t,vs,B,fG,cr⟩|⟨k,p,eE,hb,fG⟩|⟨n,jU,jV,tm,tn,fG⟩
 ·exact wpAny_pyIter_tupleiter fG h
 ·exact wpAny_pyIter_listiter fG h
 ·exact wpAny_pyIter_rangeiter fG h
def J6(h:c9 G aL aW sc iter=some dy)(aN:Env)(x:Value):foldedSetIterable iter aN x=pure x:=by
 cases iter<;>first|rfl|contradiction
def J7(T:fY c P G K cV eg e5){pos:Pos}{qQ:b4}{cF ys:List I}(vR:dv c G O d elt)(pK:∀e∈ifs,hx c G O d e)(an:scope.kind=.function)(Y:zH scope.names)(ae:tE scope.names)(ba:zI aL sc scope.names)(cq:(scope.names.map (·.1)).Nodup)(Ei:c9 G (h5 (h4 scope.names) aW++aL) (aW+(h4 scope.names).length) scope.names elt=some dy)(TM:hQ G (h5 (h4 scope.names) aW++aL) (aW+(h4 scope.names).length) scope.names ifs=some ig)(Dw:nk (h5 (h4 scope.names) aW++aL) scope.names cL=some mt)(TN:c9 G aL aW sc iter=some qQ)(aX:en d A)(F:dR c W aW aL sc aN s.heap M H)(bW:bJ c.w c.N c.au s.heap M C)(Ej:Ax c A s M ax cg cF iter aN)(ag:ir (λs=>hc s cg cF) (D8 O dy mt ig H) cF ax=some (ys,S))(Ek:∀aY bt D aI ma eH,bY c [] s M aY bt S->s.heap.get? D=none->s.heap.get? aI=none->D≠aI->(D∉foot bt/\c.au.get? D=none)->(aI∉foot bt/\c.au.get? aI=none)->aY.heap.get? D=some {cls:=.type "list",data:=.seq ma eH}->b9 aY.heap bt ma.toList ys->ys.length<=16000000->
   (∃m,aY.heap.Ns aI m)->compPost (model c.prog c.w) A aB use Q (.ref D) aI (.ok .next) aY):
  wpAny (model c.prog c.w) A (comprehension (.ListComp elt [⟨cL,iter,ifs,0⟩] scope pos) scope aN (firstIterPos [⟨cL,iter,ifs,0⟩] pos) (newList []) false (eval iter aN) use) Q aB s:=by
 have vO:∀p∈scope.names,p.2=.free->∃ca,aN.cells.lookup p.1=some ca:=λp ab hf=>by
  have q:=hg ba _ ab;rw[hf]at q;simp only[bne_self_eq_false,Bool.false_or,Bool.and_eq_true,qP,beq_iff_eq]at q;exact(hT q.2).elim λi ah=>(F.cells p.1 i q.1 ah).elim λca q=>q.elim λu q=>⟨ca,q.1⟩
 have As:∀{x},scope.names.lookup x≠some .cell:=λac=>absurd (hg Y _<|PySem.mem_of_lookup ac) (by simp);refine wpAny_comprehension_free (gs:=[]) rfl (J6 TN aN) (Tq vO) an (λx ac ao=>xV cq<|ao▸ac) ?_;refine Ej _ _ λbe dL it g1 vS El Em xY fG t4=>wpAny_newList ?_;have g6:=F.step g1;have gH:=bY.push (W:=[]) g1.ok {cls:=.type "list",data:=.seq ([]:List Value).toArray} be.toks;have J8:=rT be.heap;refine wpAny_newFunctionEnv (λx ac sb=>absurd (hg Y _ ac)<|by simp [sb]) (λx ac=>absurd ac b5) (λAz qJ vH=> ?_) an;dsimp only at qJ vH⊢;have J9:∀{b o},be.heap.get? b=some o->(be.heap.push {cls:=.type "list",data:=.seq ([]:List Value).toArray}).get? b=some o:=λe=>Heap.get?_push_of_some _ e;have En:=Heap.get?_push_size be.heap (o:={cls:=.type "list",data:=.seq ([]:List Value).toArray}) rfl;generalize be.heap.push {cls:=.type "list",data:=.seq ([]:List Value).toArray}=ab at qJ vH gH J9 En⊢;have Eo:=rT ab;have Ka:∀b o,ab.get? b=some o->Az.get? b=some o:=λb o e=>(vH.2 b<|dU<|Heap.lt_size e).trans<|Heap.get?_push_of_some _ e;have AA:bY c [] {be with heap:=ab,toks:=be.toks} dL {be with heap:=Az,toks:=be.toks} dL ax:=bY.oo gH.ok ⟨Az,be.toks,rfl,Ka⟩;have TO:=(dR.comp (aI:=ab.objs.size) (g6.step gH) gH.ok an Y ae ba cq Eo qJ AA).1;obtain⟨Kb,TP⟩:=g1.ok.tO J8;obtain⟨TQ,TR⟩:=gH.ok.tO Eo;have Kc:be.heap.objs.size≠ab.objs.size:=dU<|Heap.lt_size En;have TS:it≠be.heap.objs.size:=xY.elim λo q=>dU<|Heap.lt_size q.1;have vT:it≠ab.objs.size:=xY.elim λo q=>dU<|Heap.lt_size<|J9 q.1;have r9:=(nC.step (W:=[]) ⟨fG,⟨El,Em⟩,xY⟩ gH b5 vQ).step AA b5 vQ;have vP:∀x i,oe (h5 (h4 scope.names) aW++aL) scope.names x=some i->H i=none:=λx i ac=>by
  obtain⟨q,aS⟩:=xQ ac;have q:scope.names.lookup x=some .local:=q.elim id λq=>absurd q As;refine vM (λr=>F.top _ (vN r).2.1) (λr bg=> ?_) aS;by_cases bC:x=(".0":Str)
  ·exact bf<|br F.dot<|bC▸bg
  ·exact(JS (n:=aW) (i1 ⟨(x,.local),r6.mpr ⟨PySem.mem_of_lookup q,dI rfl<|bne_iff_ne.mpr bC⟩,rfl⟩:x∈h4 scope.names)).elim λj aQ=>bf<|br r aQ
 have loop:codeAny (model c.prog c.w) A (.compLoop (.ListComp elt [⟨cL,iter,ifs,0⟩] scope pos) 0 (.ref it) (.ref be.heap.objs.size)<|compEnvC scope (r4 aN scope.names) ab.objs.size aN) (compPost (model c.prog c.w) A aB use Q (.ref be.heap.objs.size) ab.objs.size) {be with heap:=Az,toks:=be.toks}:=by
  refine TE (aN:=compEnvC scope (r4 aN scope.names) ab.objs.size aN) vR pK Ei TM Dw vP aX t4 Kc vT TS.symm (λx ca h=> ?_) 0 [] _ dL ax ys S _ #[] 0 rfl ag TO AA.ok r9 ⟨⟨Kb,TP⟩,Ka _ _ En,.nil⟩ (gF _) (jA _) λaY bt ma eH eO oI nx sa sd=> ?_
  ·have r5:aN.cells.lookup x=some ca:=(vO (x,.free) (Ap h).1 rfl).elim λDJ e=>e.trans<|ai some ((Ap h).2.trans<|V e rfl).symm;refine⟨(g6.lw x ca r5).elim λu q=>q.elim λo q=>dU<|Heap.lt_size q.1,λq=> ?_⟩;exact(F.lw x ca r5).elim λu r=>r.elim λo r=>bf<|br vS<|q▸r.1
  ·have TT:bY c [ab.objs.size,it,be.heap.objs.size] s M aY bt S:=((g1.ib.trans gH.ib).trans AA.ib).trans eO;have Kd:s.heap.get? ab.objs.size=none:=(g1.trans gH).xX (λq=>TQ<|Ay g1 q) Eo;have Ke:s.heap.get? be.heap.objs.size=none:=g1.xX (λq=>Kb<|Ay g1 q) J8;have TU:=TT.tI<|mJ.mpr ⟨Kd,mJ.mpr ⟨vS,mJ.mpr ⟨Ke,λB h=>absurd h b5⟩⟩⟩;exact Ek aY bt _ _ ma eH TU Ke Kd Kc oI.fR ⟨sd,TR⟩ oI.obj oI.At nx sa
 exact codeAny_compStart_list loop<|TL r9.d0 loop
def bJ.Ep{au:Heap}(x:bJ w N au h M C){D:Addr}(nu:h.get? D=some o)(fL:o.cls≠.type "tuple")(hf:D∉foot M)(aj:au.get? D=none)(r:g4 h M h (M++[(D,none)])->om w N h (M++[(D,none)]) (D,none) o'):bJ w N au h (M++[(D,none)]) (C++[o']):=by
 have aR:∀{b},b∈foot (M++[(D,none)])->b∈foot M\/b=D:=λ{b} aj=>(gb<|show b∈foot M++foot [(D,none)]from oi M [(D,none)]▸aj).imp_right bR;have K:g4 h M h (M++[(D,none)]):=⟨⟨_,rfl⟩,λb gT e cl B n=>⟨e,λq=>(aR q).elim n λq=>fL<|bp ((q▸e).symm.trans nu)▸cl⟩⟩;refine⟨x.keep,λb oq=>(aR oq).elim (x.fR b) λq=>q▸aj,by simp [x.len],?_,λj q gT aC aA=> ?_⟩
 ·exact V (oi _ _)<|kU.mpr ⟨x.nodup,tM _ _,λa aU b oq e=>hf<|(show a=D from e.trans<|bR oq)▸aU⟩
 ·by_cases aQ:j<M.length
  ·exact(x.objs j q gT ((no aQ).symm.trans aC)<|(no<|c7 aQ<|cM x.len).symm.trans aA).keeps K (λy e=>e) λd y B e=>e
  ·obtain rfl:j=M.length:=Nat.le_antisymm (pz<|c7 (h7 aC).1<|cM eo)<|Nat.not_lt.mp aQ;obtain rfl:=bp<|br List.getElem?_concat_length aC;obtain rfl:=bp<|br List.getElem?_concat_length<|x.len▸aA;exact r K
def bY.Ep(g:bY c [] s M aY bt S){D:Addr}{vs:Array Value}{n:Nat}(h0:s.heap.get? D=none)(nu:aY.heap.get? D=some {cls:=.type "list",data:=.seq vs n})(hf:D∉foot bt)(aj:c.au.get? D=none)(r:b9 aY.heap bt vs.toList l)(ao:l.length<=16000000):
  bY c [] s M aY (bt++[(D,none)]) (S++[.list l])/\bb aY.heap (bt++[(D,none)]) (.ref D) (.L S.length):=
 have d7:=bJ.Ep g.ok nu (show¬Value.type "list"=.type "tuple" by decide) hf aj (o':=.list l) λK=>⟨rfl,vs,n,nu,r.keep K,ao⟩
 ⟨⟨⟨g.tr.pre.elim λh6 q=>⟨h6++[(D,none)],q.1▸iG _ _ _,λb oq=>(gb<|show b∈foot h6++foot [(D,none)]from oi h6 [(D,none)]▸oq).elim (q.2 b) λq=>.inl<|bR q▸h0⟩,g.tr.kl,g.tr.alive,g.tr.tG⟩,d7,g.gens,g.drawn,g.os⟩,bb.last (p:=(D,none)) g.ok⟩
def TV{pos:Pos}{m:b4}(h:c9 G aL aW sc (.ListComp elt gens scope pos)=some m)(k:∀cL iter ifs vU ig mt qQ,
  gens=[⟨cL,iter,ifs,0⟩]->scope.kind=.function->zH scope.names->tE scope.names->zI aL sc scope.names->(scope.names.map (·.1)).Nodup->
  c9 G (h5 (h4 scope.names) aW++aL) (aW+(h4 scope.names).length) scope.names elt=some vU->hQ G (h5 (h4 scope.names) aW++aL) (aW+(h4 scope.names).length) scope.names ifs=some ig->nk (h5 (h4 scope.names) aW++aL) scope.names cL=some mt->c9 G aL aW sc iter=some qQ->
  ((∃qK i,qQ=.cx .range qK/\xr iter/\mt=.aR i/\m=.jW vU i qK ig)\/m=.comp vU mt qQ ig)->R):R:=by
 refine vn h λan h=>bX h λvU AB h=> ?_;cases gens with
 |nil=>exact bf h
 |cons g gs=>
  obtain⟨cL,iter,ifs,Kf⟩:=g;have TW:Kf=0/\gs=[]:=by
   cases Kf with
   |negSucc n=>exact bf h
   |ofNat n=>
    cases n with
    |succ n=>exact bf h
    |zero=>
     cases gs with
     |nil=>exact⟨rfl,rfl⟩
     |cons B cr=>exact bf h
  obtain⟨rfl,rfl⟩:=TW;refine dZ h λag h=>bX h λig k4 h=>bX h λmt pN h=>bX h λqQ t5 h=> ?_;refine k cL iter ifs vU ig mt qQ rfl (Decidable.not_not.mp λq=>an<|bne_iff_ne.mpr q) (bP<|bP<|bP ag) (cO<|bP<|bP ag) (cO<|bP ag) (dx<|cO ag) AB k4 pN t5 ?_
  clear t5
  cases qQ with
  |cx b e=>
   cases b with
   |range=>
    cases mt with
    |aR i=>exact dZ h λoH h=>.inl ⟨e,i,rfl,oH,rfl,(bp h).symm⟩
    |iV B=>exact bf h
   |_=>exact .inr (bp h).symm
  |_=>exact .inr (bp h).symm
def TX(dy:b4)(i:Nat)(ig:List b4):D8 O dy (.aR i) ig H=λx s=>(gp O ig (ar H i x) s).bind λq=>if q.1 then(bV O dy (ar H i x) q.2).bind λu=>some (some u.1,u.2)else some (none,q.2):=rfl
theorem Kg(T:fY c P G K cV eg e5){pos:Pos}{m:b4}(bj:∀e,sizeOf e<sizeOf (Expr.ListComp elt gens scope pos)->dv c G O d e/\hx c G O d e)(ag:c9 G aL aW sc (.ListComp elt gens scope pos)=some m)(he:bV O m H C=some (z,S))(aX:en d A)(F:dR c W aW aL sc aN s.heap M H)(bW:bJ c.w c.N c.au s.heap M C)(Ek:∀aY bt D aI,bY c [] s M aY bt S->bb aY.heap bt (.ref D) z->s.heap.get? aI=none->aI∉foot bt->c.au.get? aI=none->(∃m,aY.heap.Ns aI m)->compPost (model c.prog c.w) A aB use Q (.ref D) aI (.ok .next) aY):
  wpAny (model c.prog c.w) A (comprehension (.ListComp elt gens scope pos) scope aN (firstIterPos gens pos) (newList []) (firstAsync gens) (firstIter gens aN) use) Q aB s:=by
 refine TV ag λcL iter ifs vU ig mt qQ bA an a6 bS d2 eQ AB k4 pN t5 hm=> ?_
 clear ag
 subst bA;have vR:=(bj elt (by simp;exact xo)).1;have pK:∀e∈ifs,hx c G O d e:=λe he=>(bj e (by have:=List.sizeOf_lt_of_mem he;simp;lia)).2;have fin:∀(ys:List I) (bq:St),some (I.L bq.length,bq++[b3.list ys])=some (z,S)->∀aY bt D aI ma eH,bY c [] s M aY bt bq->s.heap.get? D=none->s.heap.get? aI=none->D≠aI->(D∉foot bt/\c.au.get? D=none)->(aI∉foot bt/\c.au.get? aI=none)->aY.heap.get? D=some {cls:=.type "list",data:=.seq ma eH}->b9 aY.heap bt ma.toList ys->ys.length<=16000000->
   (∃m,aY.heap.Ns aI m)->compPost (model c.prog c.w) A aB use Q (.ref D) aI (.ok .next) aY:=λys bq e aY bt D aI ma eH g Y ae ba cq dF t6 se iL gv=>
  have q:=g.Ep Y t6 cq.1 cq.2 se iL
  Ek aY _ D aI ((dD e).2▸q.1) ((dD e).1▸q.2) ae (λq=>(gb<|show aI∈foot bt++foot [(D,none)]from oi bt [(D,none)]▸q).elim dF.1 λq=>ba (bR q).symm) dF.2 gv
 rcases hm with⟨qK,i,aD,oH,aF,rfl⟩|rfl
 ·subst aD aF;refine c0 he λfb ax Y he=>Ak he λn hz he=>dZ he λhn he=>c0 he λys bq ae TY=> ?_;subst hz;exact J7 T vR pK an a6 bS d2 eQ AB k4 pN t5 aX F bW (J5 (A:=A) (s:=s) (M:=M) T (λe he=>(bj e (by simp at he⊢;lia)).1) t5 oH Y hn aX F bW) (cg:=none) (ys:=ys) (S:=bq) (V (TX _ _ _) ae)<|fin ys bq TY
 ·refine c0 he λfb ax Y he=>c0 he λl cg ao he=>c0 he λys bq ae he=> ?_;exact J7 T vR pK an a6 bS d2 eQ AB k4 pN t5 aX F bW (J4 (A:=A) (s:=s) (M:=M) (bj iter (by simp;lia)).1 t5 Y ao aX F bW) (cg:=cg) (ys:=ys) (S:=bq) ae<|fin ys bq he
def TZ(T:fY c P G K cV eg e5){pos:Pos}(bj:∀e,sizeOf e<sizeOf (Expr.ListComp elt gens scope pos)->dv c G O d e/\hx c G O d e):dv c G O d (.ListComp elt gens scope pos):=by intro W aW aL sc aN A aB s M H C S z dy Q ag he aX F db h;rw[eval_ListComp];refine Kg (use:=none) T bj ag he aX F db λaY bt D aI g r xZ AC Er ⟨m,hm⟩=>⟨m,hm,λaO aJ=> ?_⟩;have q:=bY.cell (t:=aY.toks) g.ok ⟨AC,Er⟩ aJ λo' e B ⟨cr,eE,q⟩=>hm.elim λo r=>r.elim λB r=>r.elim λB r=>nomatch (bp (br r.1 e)▸r.2.1).symm.trans q;exact h _ bt _ ((g.ib.trans q.1).tI λb aj=>bR aj▸xZ)<|r.keep q.2
def DZ.tr{e:Expr}(h:DZ c G O d e):hx c G O d e:=λW aW aL sc aN A aB s M H C S z t dy Q=>h W aW aL sc aN A aB s M H C S z t dy Q _
def oL{e:Expr}(h:∀aW aL sc,c9 G aL aW sc e=none):dv c G O d e/\hx c G O d e:=⟨λB B B B B B B B B B B B B B B ag=>bf<|(h _ _ _).symm.trans ag,λB B B B B B B B B B B B B B B B ag=>bf<|(h _ _ _).symm.trans ag⟩
def x1{aw:List Expr}{e:Expr}{n:Nat}(h:e∈aw)(k:sizeOf aw<n):sizeOf e<n:=ea (List.sizeOf_lt_of_mem h) k
theorem T1{a b:Nat}:a<1+a+b:=by lia
theorem AD{a b c:Nat}:a<1+b+a+c+d:=by lia
theorem Kh(T:fY c P G K cV eg e5)(ie:r1 c P cV O d)(n:Nat):∀(e:Expr),sizeOf e<n->dv c G O d e/\hx c G O d e:=by
 induction n with
 |zero=>exactλe h=>absurd h<|t7 _
 |succ n ay=>
  intro e hn;have bj:∀{e'},sizeOf e'<sizeOf e->dv c G O d e'/\hx c G O d e':=λh=>ay _<|c7 h<|pz hn
  clear hn ay
  have f7:∀{e},(∀aN eY,isTrue e aN eY=(do let v<-eY;standAt e.pos;holding [v]<|truthy v))->dv c G O d e->dv c G O d e/\hx c G O d e:=λh k=>⟨k,SS k h⟩;cases e with
  |Constant bK k p=>exact f7 (λB B=>rfl)<|SA bK k p
  |Name x p=>exact f7 (λB B=>rfl)<|SD T x p
  |BoolOp op vs p=>have hm:∀e'∈vs,dv c G O d e'/\hx c G O d e':=λe' he=>bj<|V (Expr.BoolOp.sizeOf_spec op vs p)<|x1 he C8;exact⟨SQ T op p λe' he=>(hm e' he).1,(SR T op p λe' he=>(hm e' he).2).tr⟩
  |BinOp l op r p=>exact f7 (λB B=>rfl)<|SF T op p (bj (e':=l) xo).1 (bj (e':=r) zE).1
  |UnaryOp op x p=>
   have ac:=bj (e':=x) C8;cases op with
   |Not=>exact⟨JF T .Not p ac.1,ST p ac.2⟩
   |_=>exact f7 (λB B=>rfl)<|JF T _ p ac.1
  |IfExp t b o p=>have aP:=bj (e':=t) xo;have aj:=bj (e':=b) AD;have aA:=bj (e':=o) zE;exact⟨SG T p aP.2 aj.1 aA.1,SU p aP.2 aj.2 aA.2⟩
  |Dict dO vs p=>
   cases dO with
   |nil=>
    cases vs with
    |nil=>exact f7 (λB B=>rfl)<|SH p
    |cons B cr=>exact oL λB B B=>rfl
   |cons B cr=>exact oL λB B B=>rfl
  |List aw p=>exact f7 (λB B=>rfl)<|SJ T p λe' he=>(bj (e':=e')<|V (Expr.List.sizeOf_spec aw p)<|x1 he T1).1
  |Tuple aw k p=>exact f7 (λB B=>rfl)<|SI T k p λe' he=>(bj (e':=e')<|V (Expr.Tuple.sizeOf_spec aw k p)<|x1 he zF).1
  |ListComp elt gens scope p=>exact f7 (λB B=>rfl)<|TZ T λe h=>bj h
  |Compare l ops cs p=>
   have ao:=(bj (e':=l) xo).1;have ag:∀e'∈cs,dv c G O d e':=λe' he=>(bj (e':=e')<|V (Expr.Compare.sizeOf_spec l ops cs p)<|x1 he zE).1
   clear bj
   cases ops with
   |nil=>exact oL λB B B=>rfl
   |cons gT os=>
    cases cs with
    |nil=>exact oL λB B B=>by rcases os with _|⟨B,cr|eE⟩<;>rfl
    |cons bi aV=>
     have Y:=ag bi bo;cases os with
     |nil=>
      cases aV with
      |nil=>exact⟨SK T gT p ao Y,SL T gT p ao Y⟩
      |cons B cr=>exact oL λB B B=>rfl
     |cons gD os=>
      cases os with
      |cons B cr=>exact oL λB B B=>rfl
      |nil=>
       cases aV with
       |nil=>exact oL λB B B=>rfl
       |cons bg aV=>
        have ae:=ag bg<|bQ _ bo;cases aV with
        |nil=>exact⟨SM T gT gD p ao Y ae,SO T gT gD p ao Y ae⟩
        |cons B cr=>exact oL λB B B=>rfl
  |Call f args Eh p=>
   cases Eh with
   |cons k dO=>exact oL λB B B=>by cases f<;>rfl
   |nil=>
    have Ki:∀e'∈args,dv c G O d e':=λe' he=>(bj (e':=e')<|V (Expr.Call.sizeOf_spec f args [] p)<|x1 he AD).1;cases f with
    |Name x q=>exact f7 (λB B=>rfl)<|S5 T ie x q p Ki
    |Attribute o n q=>exact f7 (λB B=>rfl)<|Tg T ie n q p (bj (e':=o)<|V (Expr.Call.sizeOf_spec (.Attribute o n q) args [] p)<|ea (show sizeOf o<sizeOf (Expr.Attribute o n q)from zF) xo).1 Ki
    |_=>exact oL λB B B=>rfl
  |Attribute o n p=>exact f7 (λB B=>rfl)<|SV T ie n p (bj (e':=o) zF).1
  |Subscript o i p=>
   have pI:=(bj (e':=o) zF).1;have pK:=bj (e':=i) C8;have gen:(∀aW aL sc,c9 G aL aW sc (.Subscript o i p)=(c9 G aL aW sc o).bind λe=>(c9 G aL aW sc i).map λi=>.av e i)->dv c G O d (.Subscript o i p)/\hx c G O d (.Subscript o i p):=λqJ=>f7 (λB B=>rfl)<|SX T p pI pK.1 λaW aL sc m ag=>bX ((qJ aW aL sc).symm.trans ag) λer Y ag=>dt ag λcU ae e=>⟨er,cU,Y,ae,e.symm⟩
   cases i with
   |Slice cf ah st q=>
    cases st with
    |none=>exact f7 (λB B=>rfl) (SY T q p pI (λe he=>(bj (by subst he;simp;lia)).1) λe he=>(bj (by subst he;simp;lia)).1)
    |some st=>exact gen λB B B=>rfl
   |_=>exact gen λB B B=>rfl
  |_=>exact oL λB B B=>rfl
end
end
section
section
variable{P:jx}{G:gS}
variable{x:I}{a b:Value}
theorem h8.AE(x:h8 (W1++W) h M aO bt)(hv:∀b∈W1,h.get? b=none):h8 W h M aO bt:=
 ⟨x.pre.elim λh6 q=>⟨h6,q.1,λb aj=>(q.2 b aj).elim .inl λq=>(gb q).elim (λq=>.inl<|hv b q) .inr⟩,
  λb o e n m=>x.kl b o e n λq=>(gb q).elim (λq=>bf ((hv b q).symm.trans e)) m,x.alive,x.tG⟩
theorem bY.AE(x:bY c (W1++W) s M aY bt S)(hv:∀b∈W1,s.heap.get? b=none):bY c W s M aY bt S:=⟨x.tr.AE hv,x.ok,x.gens,x.drawn,x.os⟩
theorem Kj{β:Type}{f:Int->Int->Option β}{r:β}(e:(match x,y with|.int i,.int j=>f i j|_,_=>none)=some r)(k:∀i j,x=.int i->y=.int j->f i j=some r->R):R:=by
 cases x with
 |int i=>
  cases y with
  |int j=>exact k i j rfl rfl e
  |_=>exact bf e
 |_=>exact bf e
def x2(h:Heap)(M:c6):Flow->eG->Prop
 |.next,.next=>True
 |.ret v,.ret d=>bb h M v d
 |B,cr=>False
def hU(c:Ctx)(G:gS)(O:ht)(d:Nat)(st:Stmt):Prop:=
 ∀(W:List Addr) (aW:Nat) (aL:jy) (sc:Sc) (aN:Env) (A:Around) (aB:Value->Shared->Prop) (s:Shared) (M:c6) (H aT:bT) (C S:St) (fu:eG) (ms:dB) (Q:Flow->Shared->Prop),
  zJ G aL aW sc st=some ms->cw O ms H C=some (fu,aT,S)->en d A->dR c W aW aL sc aN s.heap M H->bJ c.w c.N c.au s.heap M C->
  (∀aY bt dm,bY c W s M aY bt S->dR c W aW aL sc aN aY.heap bt aT->x2 aY.heap bt dm fu->Q dm aY)->wpAny (model c.prog c.w) A (exec st aN) Q aB s
theorem x3(ss:List Stmt):(∀st∈ss,hU c G O d st)->∀{ms:List dB} {fu:eG} {s:Shared} {M:c6} {H aT:bT} {C S:St} {Q:Flow->Shared->Prop},of G aL aW sc ss=some ms->cG O ms H C=some (fu,aT,S)->en d A->dR c W aW aL sc aN s.heap M H->bJ c.w c.N c.au s.heap M C->
  (∀aY bt dm,bY c W s M aY bt S->dR c W aW aL sc aN aY.heap bt aT->x2 aY.heap bt dm fu->Q dm aY)->wpAny (model c.prog c.w) A (execs ss aN) Q aB s:=by
 induction ss with
 |nil=>intro _ ms fu s M H aT C S Q h e aX F bW es;obtain rfl:=bp h;obtain⟨rfl,rfl,rfl⟩:=ki e;exact wpAny_execs_nil<|es s M .next (.refl bW) F trivial
 |cons st ss ay=>
  intro bj ms fu s M H aT C S Q h e aX F bW es;refine bX h λer ey h=>dt h λqK j1 bM=> ?_;subst bM;refine c0 e λa6 bi Y e=> ?_;refine wpAny_execs_cons<|bj st bo _ _ _ _ _ _ _ _ _ _ _ _ _ _ _ _ ey Y aX F bW λbe dL dm g1 g6 bi=> ?_;cases a6 with
  |next=>
   cases dm with
   |next=>exact ay (λst he=>bj st<|bQ _ he) j1 e aX g6 g1.ok λbF ft dm bd cD bg=>es _ _ _ (g1.trans bd) cD bg
   |_=>exact bi.elim
  |ret v=>
   cases dm with
   |ret u=>obtain⟨rfl,rfl,rfl⟩:=ki e;exact es _ _ _ g1 g6 bi
   |_=>exact bi.elim
theorem T2{e:Expr}(h:c9 G aL aW sc e=some dy)(hn:∀a b c d,e≠.ListComp a b c d)(t:Option Expr)(l:Nat)(aN:Env):swapsWith e t l aN=pure false:=by
 cases e with
 |ListComp a b c d=>exact absurd rfl<|hn a b c d
 |SetComp=>exact bf h
 |DictComp=>exact bf h
 |GeneratorExp=>exact bf h
 |_=>rfl
theorem T3(e:Expr)(o:Expr)(n:Str)(p:Pos)(l:Nat)(aN:Env):swapsWith e (some<|.Attribute o n p) l aN=pure false:=by
 cases e<;>rfl
theorem T4(e:Expr)(o i:Expr)(p:Pos)(l:Nat)(aN:Env):swapsWith e (some<|.Subscript o i p) l aN=pure false:=by
 cases e<;>rfl
theorem T5{p:Pos}(x:Str)(q:Pos)(l:Nat)(aN:Env):∃b,swapsWith (.ListComp elt gens scope p) (some<|.Name x q) l aN=pure b:=⟨_,rfl⟩
theorem Kk{op:Operator}{o:ob}(h:¬(op !=.Add&&op !=.Sub)=true)(ag:tC op=some o):o=.add\/o=.sub:=by
 cases op with
 |Add=>exact .inl (bp ag).symm
 |Sub=>exact .inr (bp ag).symm
 |_=>exact absurd rfl h
variable(T:fY c P G K cV eg e5)(ie:r1 c P cV O d)(c3:∀e,dv c G O d e)(tr:∀e,hx c G O d e)
include T c3 tr in
theorem T6(t v:Expr)(pos:Pos)(aP:∃x p,t=.Name x p):hU c G O d (.Assign [t] v pos):=by
 obtain⟨x,p,rfl⟩:=aP;intro W aW aL sc aN A aB s M H aT C S fu ms Q ag he aX F bW es;refine bX ag λm hm ag=>dt ag λcL AF bM=> ?_;subst bM;refine c0 he λz ax Y he=>bX he λci ae he=> ?_;obtain⟨rfl,rfl,rfl⟩:=ki he;have plain:swapsWith v (some<|.Name x p) pos.line aN=pure false->wpAny (model c.prog c.w) A (exec (.Assign [.Name x p] v pos) aN) Q aB s:=λaJ=>by
  refine V (exec_Assign_Name aN x p v pos aJ)<|wpAny_bind<|wpAny_standAt<|wpAny_bind<|c3 v _ _ _ _ _ _ _ _ _ _ _ _ _ _ _ hm Y aX F bW λbe dL ez g1 bi=> ?_;refine dt AF λi ah bM=> ?_;subst bM;exact wpAny_bind<|wpAny_standAt<|wpAny_bind<|(F.step g1).Ag g1.ok ah bi λbF cD bd=>wpAny_pure<|es bF dL .next (g1.ib.trans bd) (bp ae▸cD) trivial
 have comp:(∃a b c d,v=.ListComp a b c d)->wpAny (model c.prog c.w) A (exec (.Assign [.Name x p] v pos) aN) Q aB s:=λ⟨elt,gens,scope,q,aS⟩=>by
  subst aS;obtain⟨b,aj⟩:=T5 (elt:=elt) (gens:=gens) (scope:=scope) (p:=q) x p pos.line aN;cases b with
  |false=>exact plain aj
  |true=>
   clear plain
   refine V (exec_Assign_Name_used x p _ pos aj)<|wpAny_bind<|wpAny_standAt<|wpAny_bind ?_;show wpAny _ _ (do let _<-comprehension (.ListComp elt gens scope q) scope aN (firstIterPos gens q) (newList []) (firstAsync gens) (firstIter gens aN) (some<|assign (.Name x p) aN)) _ _ _;refine wpAny_bind<|Kg (use:=some<|assign (.Name x p) aN) (Q:=λB bF=>wpAny (model c.prog c.w) A (pure PUnit.unit) (λB s3=>wpAny (model c.prog c.w) A (pure .next) Q aB s3) aB bF) T (λe B=>⟨c3 e,tr e⟩) hm Y aX F bW λbe dL D aI g1 bi xZ AC Er ⟨T7,T8⟩=> ?_;have Es:aI∉W:=λq=>(F.lx _ q).2.2.elim λo q=>bf<|br xZ q.1;have Ae:∀x ca,aN.cells.lookup x=some ca->ca≠aI:=λx ca h q=>(F.lw x ca h).elim λu r=>r.elim λo r=>bf<|br xZ<|q▸r.1;obtain⟨T9,Ua,Ub,Uc,Kl,Ud⟩:=id T8;refine Ao aX (F.step g1) g1.ok AF bi ae λbF cD bd=> ?_;have Km:=bd.tr.kl _ _ Uc AC Es;refine⟨T7,⟨T9,Ua,Ub,Km,Kl,Ud⟩,λaO aJ=>wpAny_pure<|wpAny_pure ?_⟩;have Kn:∀o,bF.heap.get? aI=some o->o.cls=.type "tuple"->(∃dP n,o.data=.seq dP n)->False:=λo e B ⟨cr,eE,q⟩=>nomatch (bp (br Km e)▸Kl).symm.trans q;obtain⟨cQ,acI⟩:=bY.cell (t:=bF.toks) bd.ok ⟨AC,Er⟩ aJ Kn;have lA:=cD.xP cQ (λb aj o e cl q=>Kn o (bR aj▸e) cl q) λb aj=>bR aj▸⟨λq=>Es<|q▸F.xO,Es,Ae⟩;have AG:bY c ([aI]++W) s M {bF with heap:=aO} dL ax:=(g1.ib.trans<|bd.cj λb aj=>i0 _ aj).trans<|cQ.cj λb aj=>jg _ aj;exact es _ dL .next (AG.AE λb aj=>bR aj▸xZ) lA trivial
 by_cases Ko:∃a b c d,v=.ListComp a b c d
 ·exact comp Ko
 ·exact plain<|T2 hm (λa b c d e=>Ko ⟨a,b,c,d,e⟩) _ _ _
include c3 in
theorem Ue(ts:List Expr)(k:Nat)(p:Pos)(x:Str)(q pos:Pos):hU c G O d (.Assign [.Tuple ts k p] (.Name x q) pos):=by
 intro W aW aL sc aN A aB s M H aT C S fu ms Q ag he aX F bW es;refine bX ag λm hm ag=>dt ag λcL AF bM=> ?_;subst bM;refine c0 he λz ax Y he=>bX he λci ae he=> ?_;obtain⟨rfl,rfl,rfl⟩:=ki he;show wpAny _ _ (do
   standAt pos
   let v<-eval (.Name x q) aN
   assign (.Tuple ts k p) aN v
   pure .next) Q aB s
 exact wpAny_bind<|wpAny_standAt<|wpAny_bind<|c3 _ _ _ _ _ _ _ _ _ _ _ _ _ _ _ _ hm Y aX F bW λbe dL ez g1 bi=>wpAny_bind<|Ao aX (F.step g1) g1.ok AF bi ae λbF cD bd=>wpAny_pure<|es bF dL .next (g1.ib.trans bd) cD trivial
include T ie c3 in
theorem Uf(o:Expr)(n:Str)(p:Pos)(v:Expr)(pos:Pos):hU c G O d (.Assign [.Attribute o n p] v pos):=by intro W aW aL sc aN A aB s M H aT C S fu ms Q ag he aX F bW es;refine bX ag λm hm ag=>bX ag λmo oM ag=>dt ag λk an bM=> ?_;subst bM;refine c0 he λz ax Y he=>c0 he λt1 bq ae he=>bX he λcB ba he=> ?_;obtain⟨rfl,rfl,rfl⟩:=ki he;rw[ie.b1]at ba;refine plainObj_wpAny_Assign_Attribute (c3 v _ _ _ _ _ _ _ _ _ _ _ _ _ _ _ hm Y aX F bW λbe dL ez g1 bi=>c3 o _ _ _ _ _ _ _ _ _ _ _ _ _ _ _ oM ae aX (F.step g1) g1.ok λbF ft ec bd bg=> ?_)<|T3 _ _ _ _ _ _;exact Jo T.cls T.DK bd.ok bg (bi.keep bd.keep) (T.fr _ _ an) ba λs3 iJ cQ=>es s3 iJ .next ((g1.trans bd).trans cQ).ib (((F.step g1).step bd).step cQ) trivial
include c3 in
theorem Ug(o i:Expr)(p:Pos)(v:Expr)(pos:Pos)(ah:∀cf ah st q,i≠.Slice cf ah st q):hU c G O d (.Assign [.Subscript o i p] v pos):=by
 intro W aW aL sc aN A aB s M H aT C S fu ms Q ag he aX F bW es;have ag:((c9 G aL aW sc v).bind λe=>(c9 G aL aW sc o).bind λo=>(c9 G aL aW sc i).map λi=>dB.setItem o i e)=some ms:=by
  cases i with
  |Slice B cr eE hb=>exact absurd rfl<|ah _ _ _ _
  |_=>exact ag
 refine bX ag λm hm ag=>bX ag λmo oM ag=>dt ag λig k4 bM=> ?_;subst bM;refine c0 he λz ax Y he=>c0 he λt1 bq ae he=>c0 he λacJ cB ba he=>bX he λfD cq he=> ?_;obtain⟨rfl,rfl,rfl⟩:=ki he;refine wpAny_Assign_Subscript (c3 v _ _ _ _ _ _ _ _ _ _ _ _ _ _ _ hm Y aX F bW λbe dL ez g1 bi=>c3 o _ _ _ _ _ _ _ _ _ _ _ _ _ _ _ oM ae aX (F.step g1) g1.ok λbF ft ec bd bg=>c3 i _ _ _ _ _ _ _ _ _ _ _ _ _ _ _ k4 ba aX ((F.step g1).step bd) bd.ok λs3 iJ oG cQ eA=> ?_)<|T4 _ _ _ _ _ _;exact RX aX cQ.ok (bg.keep cQ.keep) eA ((bi.keep bd.keep).keep cQ.keep) cq λs4 k1 eu=>es s4 k1 .next (((g1.trans bd).trans cQ).trans eu).ib ((((F.step g1).step bd).step cQ).step eu) trivial
include c3 in
theorem Uh(x:Str)(p:Pos)(op:Operator)(v:Expr)(pos:Pos):hU c G O d (.AugAssign (.Name x p) op v pos):=by
 intro W aW aL sc aN A aB s M H aT C S fu ms Q ag he aX F bW es;refine vn ag λi2 ag=>bX ag λm hm ag=>bX ag λi ah ag=>dt ag λo aA bM=> ?_;subst bM;refine bX he λacK h0 he=>c0 he λfb ax Y he=>Kj he λef j6 bM aD he=>c0 he λoF bq ae he=> ?_;obtain⟨rfl,rfl,rfl⟩:=ki he
 clear he
 dsimp only at aD;subst bM aD;have Ui:rL aL sc x=some i:=(xQ ah).1.elim (λq=>by delta rL;exact V q (xQ ah).2) λq=>by delta rL;exact V q (xQ ah).2
 refine wpAny_AugAssign_Name<|F.load Ui h0 λiM fM=>c3 v _ _ _ _ _ _ _ _ _ _ _ _ _ _ _ hm Y aX F bW λbe dL ez g1 bi=> ?_;refine IS g1.ok (fM.keep g1.keep) bi (Kk i2 aA) ae aA λbF ft ec bd bg=> ?_;have:=((F.step g1).step bd).Ag (A:=A) (aB:=aB) (Q:=λB=>Q .next) bd.ok ah bg λs3 lA cQ=>es s3 ft .next ((g1.trans bd).ib.trans cQ) lA trivial
 exactλUj q Uk=>eF (Sem.wp_bindName ..)<|this Uj q Uk
include T ie c3 in
theorem Ul(o:Expr)(n:Str)(p:Pos)(op:Operator)(v:Expr)(pos:Pos):hU c G O d (.AugAssign (.Attribute o n p) op v pos):=by
 intro W aW aL sc aN A aB s M H aT C S fu ms Q ag he aX F bW es;refine vn ag λi2 ag=>bX ag λm hm ag=>bX ag λmo oM ag=>bX ag λk an ag=>dt ag λEt Kp bM=> ?_;subst bM;have an:=T.fr _ _ an;refine c0 he λt1 ax Y he=>bX he λoF ae he=>c0 he λvJ cB ba he=>Kj he λef j6 bM aD he=>c0 he λacL fD cq he=>bX he λiN dF he=> ?_;obtain⟨rfl,rfl,rfl⟩:=ki he
 clear he
 dsimp only at aD ae ba;subst bM aD;rw[ie.b1]at ae dF;refine wpAny_AugAssign_AttributeAny<|c3 o _ _ _ _ _ _ _ _ _ _ _ _ _ _ _ oM Y aX F bW λbe dL ez g1 bi=>Jk T.cls g1.ok bi an ae λbF ft ec bd bg=>c3 v _ _ _ _ _ _ _ _ _ _ _ _ _ _ _ hm ba aX ((F.step g1).step bd) bd.ok λs3 iJ oG cQ eA=> ?_;refine IS cQ.ok (bg.keep cQ.keep) eA (Kk i2 Kp) cq Kp λs4 k1 v4 eu dW=> ?_;exact Jo T.cls T.DK eu.ok (((bi.keep bd.keep).keep cQ.keep).keep eu.keep) dW an dF λs5 DW i4=>es s5 DW .next ((((g1.trans bd).trans cQ).trans eu).trans i4).ib (((((F.step g1).step bd).step cQ).step eu).step i4) trivial
include c3 in
theorem Um(o cf:Expr)(q p pos:Pos):hU c G O d (.Delete [.Subscript o (.Slice (some cf) none none q) p] pos):=by intro W aW aL sc aN A aB s M H aT C S fu ms Q ag he aX F bW es;refine bX ag λmo oM ag=>dt ag λS0 D1 bM=> ?_;subst bM;refine c0 he λt1 ax Y he=>c0 he λUn bq ae he=>bX he λcB ba he=> ?_;obtain⟨rfl,rfl,rfl⟩:=ki he;refine wpAny_Delete<|wpAny_deleteEach_cons<|wpAny_delete_Subscript<|c3 o _ _ _ _ _ _ _ _ _ _ _ _ _ _ _ oM Y aX F bW λbe dL ez g1 bi=>wpAny_Slice<|V (evalPart_some _ _)<|c3 cf _ _ _ _ _ _ _ _ _ _ _ _ _ _ _ D1 ae aX (F.step g1) g1.ok λbF ft ec bd bg=>V (evalPart_none _)<|wpAny_pure<|wpAny_pure ?_;have cQ:=bY.push (W:=[]) bd.ok {cls:=.type "slice",data:=.fields #[ec,.none,.none]} bF.toks;exact R2 cQ.ok ((bi.keep bd.keep).keep cQ.keep) (Heap.IsSliceOf.new ..) (bg.keep cQ.keep) ba λs4 k1 eu=>wpAny_deleteEach_nil<|es s4 k1 .next (((g1.trans bd).trans cQ).trans eu).ib ((((F.step g1).step bd).step cQ).step eu) trivial
include c3 in
theorem Uo(o i:Expr)(p pos:Pos)(ah:∀cf ah st q,i≠.Slice cf ah st q):hU c G O d (.Delete [.Subscript o i p] pos):=by
 intro W aW aL sc aN A aB s M H aT C S fu ms Q ag he aX F bW es;have ag:((c9 G aL aW sc o).bind λo=>(c9 G aL aW sc i).map λi=>dB.delItem o i)=some ms:=by
  cases i with
  |Slice B cr eE hb=>exact absurd rfl<|ah _ _ _ _
  |_=>exact ag
 refine bX ag λmo oM ag=>dt ag λig k4 bM=> ?_;subst bM;refine c0 he λt1 ax Y he=>c0 he λUn bq ae he=>bX he λcB ba he=> ?_;obtain⟨rfl,rfl,rfl⟩:=ki he;refine wpAny_Delete<|wpAny_deleteEach_cons<|wpAny_delete_Subscript<|c3 o _ _ _ _ _ _ _ _ _ _ _ _ _ _ _ oM Y aX F bW λbe dL ez g1 bi=>c3 i _ _ _ _ _ _ _ _ _ _ _ _ _ _ _ k4 ae aX (F.step g1) g1.ok λbF ft ec bd bg=> ?_;exact RY aX bd.ok (bi.keep bd.keep) bg ba λs4 k1 eu=>wpAny_deleteEach_nil<|es s4 k1 .next ((g1.trans bd).trans eu).ib (((F.step g1).step bd).step eu) trivial
include tr in
theorem Up(t:Expr)(b o:List Stmt)(pos:Pos)(ly:∀st∈b,hU c G O d st)(pI:∀st∈o,hU c G O d st):hU c G O d (.If t b o pos):=by
 intro W aW aL sc aN A aB s M H aT C S fu ms Q ag he aX F bW es;refine bX ag λmt pN ag=>bX ag λacM x4 ag=>dt ag λmo oM bM=> ?_;subst bM;refine c0 he λg5 ax Y he=>c0 Y λfb bq ae Y=>bX Y λgu ba Y=> ?_;obtain⟨rfl,rfl⟩:=dD Y;refine wpAny_If<|tr t _ _ _ _ _ _ _ _ _ _ _ _ _ _ _ _ pN ae ba aX F bW λbe dL g1=> ?_;cases gu with
 |true=>exact x3 b ly x4 he aX (F.step g1) g1.ok λbF ft dm bd=>es _ _ _<|g1.ib.trans bd
 |false=>exact x3 o pI oM he aX (F.step g1) g1.ok λbF ft dm bd=>es _ _ _<|g1.ib.trans bd
include c3 in
theorem Uq(e:Option Expr)(pos:Pos):hU c G O d (.Return e pos):=by
 intro W aW aL sc aN A aB s M H aT C S fu ms Q ag he aX F bW es;cases e with
 |none=>obtain rfl:=bp ag;obtain⟨rfl,rfl,rfl⟩:=ki he;exact wpAny_Return_none<|es s M _ (.refl bW) F .none
 |some e=>refine dt ag λm hm bM=> ?_;subst bM;refine c0 he λfb ax Y he=> ?_;obtain⟨rfl,rfl,rfl⟩:=ki he;exact wpAny_Return_some<|c3 e _ _ _ _ _ _ _ _ _ _ _ _ _ _ _ hm Y aX F bW λbe dL ez g1 bi=>es be dL _ g1.ib (F.step g1) bi
include c3 in
theorem Ur(f:Expr)(as:List Expr)(dO:List Keyword)(p pos:Pos):hU c G O d (.Expr (.Call f as dO p) pos):=by intro W aW aL sc aN A aB s M H aT C S fu ms Q ag he aX F bW es;refine dt ag λm hm bM=> ?_;subst bM;refine c0 he λfb ax Y he=> ?_;obtain⟨rfl,rfl,rfl⟩:=ki he;exact wpAny_Expr_any (c3 _ _ _ _ _ _ _ _ _ _ _ _ _ _ _ _ hm Y aX F bW λbe dL ez g1 bi=>es be dL _ g1.ib (F.step g1) trivial) (by delta interactive;exact V F.kind rfl) rfl
end
end
section
section
variable{P:jx}{G:gS}
variable{x:I}{a b:Value}
theorem Us{de:I->bT->St->Option (eG×bT×St)}{r:eG×bT×St}(h:fX el de [] H C=some r)(k:el C->(.next,H,C)=r->R):R:=dZ h λq e=>k q<|bp e
theorem Ut{de:I->bT->St->Option (eG×bT×St)}{r:eG×bT×St}(h:fX el de (x::xs) H C=some r)(k:el C->∀a6 ci ax,de x H C=some (a6,ci,ax)->(∀v,a6=.ret v->(.ret v,ci,ax)=r)->(a6=.next->fX el de xs ci ax=some r)->R):R:=by
 refine dZ h λq h=> ?_;cases aP:de x H C with
 |none=>rw[aP]at h;exact bf h
 |some p=>
  rw[aP]at h;obtain⟨a6,ci,ax⟩:=p;refine k q a6 ci ax aP (λv e=> ?_) λe=> ?_
  ·subst e;exact bp h
  ·subst e;exact h
theorem Uu{test:bT->St->Option (Bool×St)}{body:bT->St->Option (eG×bT×St)}{n:Nat}{r:eG×bT×St}(h:kR test body (n+1) H C=some r)(Uv:∀ax,test H C=some (false,ax)->(.next,H,ax)=r->R)(k:∀ax,test H C=some (true,ax)->∀a6 ci bq,body H ax=some (a6,ci,bq)->(∀v,a6=.ret v->(.ret v,ci,bq)=r)->(a6=.next->kR test body n ci bq=some r)->R):R:=by
 have h:(match test H C with
  |none=>none
  |some (false,ax)=>some (.next,H,ax)
  |some (true,ax)=>match body H ax with
   |none=>none
   |some (.ret v,dr,bq)=>some (.ret v,dr,bq)
   |some (.next,dr,bq)=>kR test body n dr bq)=some r:=h
 cases aP:test H C with
 |none=>rw[aP]at h;exact bf h
 |some p=>
  rw[aP]at h;obtain⟨t,ax⟩:=p;cases t with
  |false=>exact Uv ax aP<|bp h
  |true=>
   dsimp only at h;cases aj:body H ax with
   |none=>rw[aj]at h;exact bf h
   |some p=>
    rw[aj]at h;obtain⟨a6,ci,bq⟩:=p;refine k ax aP a6 ci bq aj (λv e=> ?_) λe=> ?_
    ·subst e;exact bp h
    ·subst e;exact h
theorem Uw{aw:List Stmt}{e:Stmt}{n:Nat}(h:e∈aw)(k:sizeOf aw<n):sizeOf e<n:=ea (List.sizeOf_lt_of_mem h) k
theorem Ux{a b c e:Nat}:a<1+b+c+a+d+e:=by lia
theorem Uy{rest:List I}{ci dr:bT}{bq:St}{a6:eG}{Q:Fin->Shared->Prop}(aP:nk aL sc cL=some mt)(aj:of G aL aW sc body=some pO)(ly:∀st∈body,hU c G O d st)(aX:en d A){cF:List I}(qR:it∉W)(AH:it≠aN.locals)(vT:∀x ca,aN.cells.lookup x=some ca->ca≠it)(bC:cF[i]? =some x)(hI:hc C cg cF)(Y:gC mt x H=some ci)(ae:cG O pO ci C=some (a6,dr,bq))(F:dR c W aW aL sc aN s.heap M H)(bW:bJ c.w c.N c.au s.heap M C)(bj:nC c it cg cF i s M)(k:∀s3 iJ dm,bY c ([it]++W) s M s3 iJ bq->dR c W aW aL sc aN s3.heap iJ dr->x2 s3.heap iJ dm a6->nC c it cg cF (i+1) s3 iJ->wpAny (model c.prog c.w) A (match dm with|.next|.cont=>again (.forLoop cL (.ref it) body [] aN)|.brk=>pure (.done .next)|.ret v=>pure<|.done<|.ret v) Q aB s3):
  wpAny (model c.prog c.w) A (forTurn cL (.ref it) body [] aN) Q aB s:=by
 refine wpAny_bind<|wpAny_standAt<|wpAny_bind<|wpAny_onRaise<|Ai aX bW bj.d0 bj.fR bj.pM hI (λqB v be oK g1 bi r8=> ?_) λbe oK B=>bf<|br oK bC;obtain rfl:=bp<|br bC oK;have g6:=F.xP g1 bj.nz λb aj=>bR aj▸⟨AH,qR,vT⟩;have Av:nC c it cg cF (i+1) be M:=⟨r8,bj.fR,r8.pM⟩;refine wpAny_bind<|JR aP r8<|wpAny_bind<|Ao aX g6 g1.ok aP bi Y λbF cD bd=> ?_;refine wpAny_bind<|x3 body ly aj ae aX cD bd.ok λs3 iJ dm cQ lA eA=> ?_;exact k s3 iJ dm (((g1.cj λb aj=>jg _ aj).trans<|bd.cj λb aj=>i0 _ aj).trans<|cQ.cj λb aj=>i0 _ aj) lA eA<|(Av.step bd qR g6.nz).step cQ qR cD.nz
theorem Uz(aP:nk aL sc cL=some mt)(aj:of G aL aW sc body=some pO)(ly:∀st∈body,hU c G O d st)(aX:en d A){cF:List I}(qR:it∉W)(AH:it≠aN.locals)(vT:∀x ca,aN.cells.lookup x=some ca->ca≠it){rest:List I}:
  ∀(i:Nat) (s:Shared) (M:c6) (H aT:bT) (C S:St) (fu:eG) (R:Result->Shared->Prop),cF.drop i=rest->fX (λs=>hc s cg cF) (λx H s=>(gC mt x H).bind λci=>cG O pO ci s) rest H C=some (fu,aT,S)->
   dR c W aW aL sc aN s.heap M H->bJ c.w c.N c.au s.heap M C->nC c it cg cF i s M->
   (∀aY bt dm,bY c ([it]++W) s M aY bt S->dR c W aW aL sc aN aY.heap bt aT->x2 aY.heap bt dm fu->R (.ok dm) aY)->
   codeAny (model c.prog c.w) A (.forLoop cL (.ref it) body [] aN) R s:=by
 induction rest with
 |nil=>
  intro i s M H aT C S fu R bC ag F bW bj fj;refine Us ag λhI e=> ?_;obtain⟨rfl,rfl,rfl⟩:=ki<|ai some e;refine codeAny_of_tree ?_;show wpAny _ A ((forTurn cL (.ref it) body [] aN).onRaise (λx=>do noteFrame x aN;theTreesLotGoes x)) _ _ s;refine wpAny_noted<|show wpAny _ A (forTurn cL (.ref it) body [] aN) _ _ s from wpAny_bind<|wpAny_standAt<|wpAny_bind<|wpAny_onRaise<|Ai aX bW bj.d0 bj.fR bj.pM hI (λx v be ac B B B=> ?_) λbe ac g1=> ?_
  ·exact bf<|(List.getElem?_eq_none_iff.mpr<|List.drop_eq_nil_iff.mp bC).symm.trans ac
  ·refine wpAny_pure ⟨rfl,codeAny_of_tree ?_⟩;show wpAny _ A (do return Fin.done (<-(execs [] aN).onRaise (λx=>do noteFrame x aN;theTreesLotGoes x))) _ _ be;exact wpAny_bind<|wpAny_onRaise<|wpAny_execs_nil<|wpAny_pure<|fj be M .next (g1.cj λb aj=>jg _ aj) (F.xP g1 bj.nz λb aj=>bR aj▸⟨AH,qR,vT⟩) trivial
 |cons x rest ay=>
  intro i s M H aT C S fu R bC ag F bW bj fj;refine Ut ag λhI a6 dr bq oJ Eu bz=>bX oJ λci Y ae=> ?_;refine codeAny_of_tree ?_;show wpAny _ A ((forTurn cL (.ref it) body [] aN).onRaise (λx=>do noteFrame x aN;theTreesLotGoes x)) _ _ s;refine wpAny_noted<|Uy (rest:=rest) aP aj ly aX qR AH vT (D9 bC).1 hI Y ae F bW bj λs3 iJ dm g lA eA r9=> ?_;cases a6 with
  |ret v=>
   cases dm with
   |ret u=>obtain⟨rfl,rfl,rfl⟩:=ki<|ai some<|Eu v rfl;exact wpAny_pure<|fj s3 iJ _ g lA eA
   |_=>exact eA.elim
  |next=>
   cases dm with
   |next=>exact wpAny_pure ⟨rfl,ay (i+1) s3 iJ dr aT bq S fu R (D9 bC).2 (bz rfl) lA g.ok r9 λs4 k1 dm eu=>fj s4 k1 dm<|g.trans eu⟩
   |_=>exact eA.elim
theorem UA{t:Expr}{mt:b4}(aP:c9 G aL aW sc t=some mt)(aj:of G aL aW sc body=some pO)(vI:hx c G O d t)(ly:∀st∈body,hU c G O d st)(aX:en d A)(n:Nat):
  ∀(s:Shared) (M:c6) (H aT:bT) (C S:St) (fu:eG) (R:Result->Shared->Prop),kR (λH s=>jf O mt H s) (λH s=>cG O pO H s) n H C=some (fu,aT,S)->
   dR c W aW aL sc aN s.heap M H->bJ c.w c.N c.au s.heap M C->
   (∀aY bt dm,bY c W s M aY bt S->dR c W aW aL sc aN aY.heap bt aT->x2 aY.heap bt dm fu->R (.ok dm) aY)->
   codeAny (model c.prog c.w) A (.whileLoop t body [] aN) R s:=by
 induction n with
 |zero=>exactλs M H aT C S fu R ag=>bf ag
 |succ n ay=>
  intro s M H aT C S fu R ag F bW fj;refine codeAny_of_tree ?_;show wpAny _ A ((whileTurn t body [] aN).onRaise (λx=>do noteFrame x aN;theTreesLotGoes x)) _ _ s;refine wpAny_noted ?_;show wpAny _ A (isTrue t aN (eval t aN)>>=λb=>if b=true then _ else _) _ _ s;refine Uu ag (λax oN e=>c0 oN λfb bq Y oN=>bX oN λgu ae oN=> ?_) λax oN a6 dr cB DD Eu bz=>c0 oN λfb bq Y oN=>bX oN λgu ae oN=> ?_
  ·obtain⟨rfl,rfl,rfl⟩:=ki<|ai some e;obtain⟨rfl,rfl⟩:=dD oN;exact wpAny_bind<|vI _ _ _ _ _ _ _ _ _ _ _ _ _ _ _ _ aP Y ae aX F bW λbe dL g1=>wpAny_bind<|wpAny_execs_nil<|wpAny_pure<|fj be dL .next g1.ib (F.step g1) trivial
  ·obtain⟨rfl,rfl⟩:=dD oN;refine wpAny_bind<|vI _ _ _ _ _ _ _ _ _ _ _ _ _ _ _ _ aP Y ae aX F bW λbe dL g1=>wpAny_bind<|x3 body ly aj DD aX (F.step g1) g1.ok λbF ft dm bd cD bg=> ?_;cases a6 with
   |ret v=>
    cases dm with
    |ret u=>obtain⟨rfl,rfl,rfl⟩:=ki<|ai some<|Eu v rfl;exact wpAny_pure<|fj bF ft _ (g1.ib.trans bd) cD bg
    |_=>exact bg.elim
   |next=>
    cases dm with
    |next=>exact wpAny_pure ⟨rfl,ay bF ft dr aT cB S fu R (bz rfl) cD bd.ok λs3 iJ dm cQ=>fj s3 iJ dm<|(g1.ib.trans bd).trans cQ⟩
    |_=>exact bg.elim
variable(T:fY c P G K cV eg e5)(ie:r1 c P cV O d)(c3:∀e,dv c G O d e)(tr:∀e,hx c G O d e)
include T c3 tr in
theorem UB(cL rM:Expr)(body:List Stmt)(pos:Pos)(ly:∀st∈body,hU c G O d st):hU c G O d (.For cL rM body [] pos):=by
 intro W aW aL sc aN A aB s M H aT C S fu ms Q ag he aX F bW es;refine bX ag λmt pN ag=>bX ag λig k4 ag=>bX ag λpO x4 ag=> ?_;have fin:∀{cg:Option Nat} {cF:List I} {ax:St},Ax c A s M ax cg cF rM aN->fX (λs=>hc s cg cF) (λx H s=>(gC mt x H).bind λci=>cG O pO ci s) cF H ax=some (fu,aT,S)->
   wpAny (model c.prog c.w) A (exec (.For cL rM body [] pos) aN) Q aB s:=λEj UC=>by
  refine wpAny_For (Ej _ _ λbe dL it g1 vS El Em xY fG hlen=> ?_)<|J6 k4 aN;have qR:it∉W:=λq=>(F.lx _ q).2.2.elim λo q=>bf<|br vS q.1;exact Uz pN x4 ly (A:=A.mark none) ⟨aX.depth,aX.units,aX.handled⟩ qR (λe=>qR<|e▸F.xO) (λx ca h e=>(F.lw x ca h).elim λu q=>q.elim λo q=>bf<|br vS<|e▸q.1) 0 be dL H aT _ S fu _ rfl UC (F.step g1) g1.ok ⟨fG,⟨El,Em⟩,xY⟩ λbF ft dm bd cD bg=>es bF ft dm (bY.AE (W1:=[it]) (g1.ib.trans bd) λb aj=>bR aj▸vS) cD bg
 have gen:some (dB.gQ mt ig pO)=some ms->wpAny (model c.prog c.w) A (exec (.For cL rM body [] pos) aN) Q aB s:=λag=>by
  obtain rfl:=bp ag;exact c0 he λfb ax Y he=>c0 he λl cg ao he=>fin (J4 (c3 rM) k4 Y ao aX F bW) he
 cases ig with
 |cx b dy=>
  cases b with
  |range=>
   cases mt with
   |aR i=>refine dZ ag λoH ag=> ?_;obtain rfl:=bp ag;exact c0 he λfb ax Y he=>Ak he λn hz he=>dZ he λhn he=>fin (J5 T (λe B=>c3 e) k4 oH (hz▸Y) hn aX F bW) he
   |iV B=>exact bf ag
  |_=>exact gen ag
 |_=>exact gen ag
include tr in
theorem UD(t:Expr)(body:List Stmt)(pos:Pos)(ly:∀st∈body,hU c G O d st):hU c G O d (.While t body [] pos):=by intro W aW aL sc aN A aB s M H aT C S fu ms Q ag he aX F bW es;refine bX ag λmt pN ag=>dt ag λpO x4 bM=> ?_;subst bM;exact wpAny_While<|UA pN x4 (tr t) ly aX zC s M H aT C S fu _ he F bW es
theorem i5(h:∀aW aL sc,zJ G aL aW sc st=none):hU c G O d st:=λB B B B B B B B B B B B B B B B ag=>bf<|(h _ _ _).symm.trans ag
theorem UE(h:∀aW aL sc,zJ G aL aW sc st=some .fA):hU c G O d st:=λB B B B B B B B B B B B B B B B ag he=>by
 obtain rfl:=bp<|(h _ _ _).symm.trans ag;exact bf he
include T ie c3 tr in
theorem UF(n:Nat):∀(st:Stmt),sizeOf st<n->hU c G O d st:=by
 induction n with
 |zero=>exactλst h=>absurd h<|t7 _
 |succ n ay=>
  intro st hn;have j2:∀ss:List Stmt,sizeOf ss<sizeOf st->∀st∈ss,hU c G O d st:=λss h st aJ=>ay st<|c7 (Uw aJ h)<|pz hn
  clear ay hn
  cases st with
  |Assign ts v p=>
   clear j2
   cases ts with
   |nil=>exact i5 λB B B=>rfl
   |cons t ts=>
    cases ts with
    |cons B cr=>
     cases t with
     |Name B cr=>exact i5 λB B B=>rfl
     |Attribute B cr eE=>exact i5 λB B B=>rfl
     |Tuple B cr eE=>cases v<;>exact i5 λB B B=>rfl
     |Subscript o i q=>cases i<;>exact i5 λB B B=>rfl
     |_=>exact i5 λB B B=>rfl
    |nil=>
     cases t with
     |Name x q=>exact T6 T c3 tr _ v p ⟨x,q,rfl⟩
     |Tuple aw k q=>
      cases v with
      |Name x r=>exact Ue c3 aw k q x r p
      |_=>exact i5 λB B B=>rfl
     |Attribute o n q=>exact Uf T ie c3 o n q v p
     |Subscript o i q=>
      cases i with
      |Slice B cr eE hb=>exact i5 λB B B=>rfl
      |_=>exact Ug c3 o _ q v p λB B B B h=>Expr.noConfusion h
     |_=>exact i5 λB B B=>rfl
  |AugAssign t op v p=>
   cases t with
   |Name x q=>exact Uh c3 x q op v p
   |Attribute o n q=>exact Ul T ie c3 o n q op v p
   |_=>exact i5 λB B B=>rfl
  |Delete ts p=>
   clear j2
   cases ts with
   |nil=>exact i5 λB B B=>rfl
   |cons t ts=>
    cases t with
    |Subscript o i q=>
     cases i with
     |Slice cf ah st r=>
      cases cf with
      |none=>cases ts<;>exact i5 λB B B=>rfl
      |some cf=>
       cases ah with
       |some B=>cases ts<;>exact i5 λB B B=>rfl
       |none=>
        cases st with
        |some B=>cases ts<;>exact i5 λB B B=>rfl
        |none=>
         cases ts with
         |nil=>exact Um c3 o cf r q p
         |cons B cr=>exact i5 λB B B=>rfl
     |_=>
      cases ts with
      |nil=>exact Uo c3 o _ q p λB B B B h=>Expr.noConfusion h
      |cons B cr=>exact i5 λB B B=>rfl
    |_=>cases ts<;>exact i5 λB B B=>rfl
  |If t b o p=>exact Up tr t b o p (j2 b<|V (Stmt.If.sizeOf_spec t b o p) AD)<|j2 o<|V (Stmt.If.sizeOf_spec t b o p) zE
  |For cL it body orelse p=>
   cases orelse with
   |nil=>exact UB T c3 tr cL it body p<|j2 body<|V (Stmt.For.sizeOf_spec cL it body [] p) Ux
   |cons B cr=>exact i5 λB B B=>rfl
  |While t body orelse p=>
   cases orelse with
   |nil=>exact UD tr t body p<|j2 body<|V (Stmt.While.sizeOf_spec t body [] p) AD
   |cons B cr=>exact i5 λB B B=>rfl
  |Return e p=>exact Uq c3 e p
  |Expr e p=>
   cases e with
   |Call f as dO q=>exact Ur c3 f as dO q p
   |_=>exact i5 λB B B=>rfl
  |Raise B cr eE=>exact UE λB B B=>rfl
  |_=>exact i5 λB B B=>rfl
end
end
def Ev{α:Type}{b:α}{aw:List (Str×α)}:((x,b)::aw).lookup x=some b:=List.lookup_cons_self
def Ew{α:Type}{p:Str}{b:α}{aw:List (Str×α)}(h:x≠p):((p,b)::aw).lookup x=aw.lookup x:=V List.lookup_cons<|V (beq_eq_false_iff_ne.mpr h) rfl
def AI{α:Type}:∀{vs:List α} {i:Nat} {x:Str},ps.Nodup->ps[i]? =some x->(ps.zip vs).lookup x=vs[i]? :=by
 induction ps with
 |nil=>exactλB h=>bf h
 |cons p ps ay=>
  intro vs i x aG h;cases vs with
  |nil=>rfl
  |cons v vs=>
   cases i with
   |zero=>exact bp h▸Ev
   |succ i=>exact(Ew λq:x=p=>(hH aG).1<|q▸dK h).trans<|ay (hH aG).2 h
def UG{α:Type}(g:Str->Option α):∀{vs:List α},ps.length=vs.length->(∀(i:Nat) (x:Str),ps[i]? =some x->g x=vs[i]?)->ps.filterMap (λn=>(g n).map λv=>(n,v))=ps.zip vs:=by
 induction ps with
 |nil=>exactλB B=>rfl
 |cons p ps ay=>
  intro vs ao bA;cases vs with
  |nil=>exact absurd ao<|qx _
  |cons v vs=>refine(List.filterMap_cons_some (f:=λn=>(g n).map λv=>(n,v)) (b:=(p,v))<|ai (Option.map λv=>(p,v))<|show g p=some v from bA 0 p rfl).trans ?_;exact ai (List.cons (p,v))<|ay (nl ao) λi=>bA<|i+1
def UH{α β:Type}(f:α->β->Sem (ForInStep β))(g:β->α->β)(hf:∀x b,f x b=pure (.yield<|g b x))(l:List α):∀b:β,forIn l b f=(pure (l.foldl g b):Sem β):=by
 induction l with
 |nil=>exactλB=>rfl
 |cons x l ay=>exactλb=>(List.forIn_cons ..).trans<|V (hf x b)<|ay<|g b x
noncomputable def t8(eS:List (Str×Value))(x:Str×Value):List (Str×Value):=if(eS.lookup x.1).isNone then eS++[(x.1,x.2)]else eS
def UI{p:Str}:∀{us:List Value} {d:Value},ps[us.length]? =some p->ps.zip (us++[d])=ps.zip us++[(p,d)]:=by
 induction ps with
 |nil=>exactλh=>bf h
 |cons q ps ay=>
  intro us d h;cases us with
  |nil=>exact bp h▸List.zip_cons_cons.trans (ai (_::·) List.zip_nil_right)
  |cons u us=>exact ai ((q,u)::·)<|ay h
def UJ(aG:ps.Nodup):∀{vs:List Value} {fd k:Nat},vs.length=fd+k->fd+ds.length=ps.length->((ps.drop fd).zip ds).foldl t8 (ps.zip vs)=ps.zip (vs++ds.drop k):=by
 induction ds with
 |nil=>exactλB B=>V List.zip_nil_right<|V List.drop_nil<|V (ew _) rfl
 |cons e ds ay=>
  intro vs fd k aS ao;have aQ:fd<ps.length:=ao▸nw (pF _);have ab:=jh aQ;refine V (List.drop_eq_getElem_cons aQ)<|V List.zip_cons_cons<|V List.foldl_cons ?_;have vK:fd+1+ds.length=ps.length:=(vE fd ds.length).trans ao;have x5:(ps.zip vs).lookup ps[fd]=vs[fd]? :=AI aG ab;cases k with
  |zero=>refine V (show t8 (ps.zip vs) (ps[fd],e)=ps.zip (vs++[e])from(bh<|show(List.lookup ps[fd]<|ps.zip vs).isNone=true from V x5<|V (List.getElem?_eq_none<|cM aS) rfl).trans (UI<|V aS ab).symm) ?_;exact(ay (k:=0) (V eo (ai (·+1) aS)) vK).trans<|V (iG _ _ _) rfl
  |succ k=>refine V (show t8 (ps.zip vs) (ps[fd],e)=ps.zip vs from bH<|show¬(List.lookup ps[fd]<|ps.zip vs).isNone=true from V x5<|V (jh<|aS▸nw (pF _)) Bool.false_ne_true) ?_;exact ay (k:=k) (aS.trans (vE fd k).symm) vK
def Kq{α:Type}{Q:α->Shared->Prop}{p:Prop}[Decidable p]{a b:Sem α}(h:¬p)(k:wpAny df A b Q aB s):wpAny df A (if p then a else b) Q aB s:=V (bH h) k
def UK{n v:Nat}(h:d<=n)(k:n<=v+d)(aS:v<=n):v=n-d+(d-(n-v)):=((Nat.sub_add_sub_cancel h<|Nat.sub_le_iff_le_add'.mpr k).trans<|Nat.sub_sub_self aS).symm
def Kr{a n:Nat}(h:a<=n)(k:n<=a+d):a+(d-(d-(n-a)))=n:=(ai (a+·)<|Nat.sub_sub_self<|Nat.sub_le_iff_le_add'.mpr k).trans<|Nat.add_sub_cancel' h
def UL{a1:Type}{Q:a1->Shared->Prop}{p q:Option (Array Value)->Prop}[∀r,Decidable<|p r][∀r,Decidable<|q r]{aD aF:Option (Array Value)->Sem a1}{l:Option (Array Value)->List (Str×Value)}{b:List (Str×Value)}{f:Str×Value->List (Str×Value)->Sem (ForInStep<|List<|Str×Value)}{k:List (Str×Value)->Sem a1}{x:a1}(Ex:∀{tT:Option (Array Value)->Shared->Prop},(∀r:Option (Array Value),(r.getD #[]).toList=ds->tT r s)->wpAny df A (seqItems? v) tT aB s)(ab:∀r,(r.getD #[]).toList=ds->¬p r)(aC:∀r,(r.getD #[]).toList=ds->¬q r)(hf:∀x b,f x b=pure (.yield<|t8 b x))(an:∀r,(r.getD #[]).toList=ds->k ((l r).foldl t8 b)=pure x)(h:Q x s):wpAny df A (seqItems? v>>=λr=>if p r then aD r else if q r then aF r else forIn (l r) b f>>=k) Q aB s:=wpAny_bind<|Ex λr aH=>Kq (ab r aH)<|Kq (aC r aH)<|V (UH f t8 hf (l r) b)<|wpAny_bind<|wpAny_pure<|V (an r aH)<|wpAny_pure h
def UM(Y:fd.params.posonlyargs=[])(ae:fd.params.args.map (·.arg)=ps)(ba:fd.params.kwonlyargs=[])(cq:fd.params.vararg=none)(dF:fd.params.kwarg=none)(aG:ps.Nodup)(an:vs.length<=ps.length)(bC:ds.length<=ps.length)(hm:ps.length<=vs.length+ds.length)(vV:(ds=[]/\fd.defaults=.none)\/∃T o n,fd.defaults=.ref T/\s.heap.get? T=some o/\o.data=.seq ds.toArray n):BindsTo s fd ⟨vs,[]⟩ (ps.zip<|vs++ds.drop (ds.length-(ps.length-vs.length))):=by
 intro df A aB Q es;have Ex:∀{tT:Option (Array Value)->Shared->Prop},(∀r:Option (Array Value),(r.getD #[]).toList=ds->tT r s)->wpAny df A (seqItems? fd.defaults) tT aB s:=λh=>vV.elim (λq=>V q.2<|wpAny_pure<|h none q.1.symm) λ⟨T,o,n,e,aA,aJ⟩=>V e<|wpAny_seqItems aA aJ<|h _ rfl
 have bS:(List.filter (λn=>(List.lookup n<|ps.zip vs).isNone)<|List.take (ps.length-ds.length) ps)=[]:=List.filter_eq_nil_iff.mpr λx ac=>by
  obtain⟨i,ah⟩:=List.getElem?_of_mem ac;have ks:i<ps.length-ds.length:=c7 (h7 ah).1<|List.length_take_le _ _;exact V (AI aG<|(List.getElem?_take_of_lt ks).symm.trans ah)<|V (jh<|c7 ks<|Nat.sub_le_iff_le_add.mpr hm) Bool.false_ne_true
 have aD:ds.drop (ds.length-ps.length)=ds:=V (Nat.sub_eq_zero_of_le bC) rfl;have mb:=UJ (vs:=vs) (ds:=ds) (fd:=ps.length-ds.length) (k:=ds.length-(ps.length-vs.length)) aG (UK bC hm an)<|Nat.sub_add_cancel bC;have UN:=UG (ps:=ps) (vs:=vs++ds.drop (ds.length-(ps.length-vs.length))) (List.lookup · (ps.zip<|vs++ds.drop (ds.length-(ps.length-vs.length)))) ((Kr an hm).symm.trans<|V eo<|V List.length_drop rfl) λi x h=>AI aG h
 clear vV bC hm
 obtain⟨hy,eW,⟨po,mc,hK,qS,kr,kw,acN⟩,nx,sa,sf,sd,AJ,acO,acP,acQ,acR,acS,acT,acU⟩:=fd;dsimp only at Y ae ba cq dF;subst Y ae ba cq dF;exact UL (p:=λB=>(decide (vs.length>(mc.map (·.arg)).length)&&true)=true) (q:=λr=>(!(List.filter (λn=>(List.lookup n ((mc.map (·.arg)).zip vs)).isNone) (List.take ((mc.map (·.arg)).length-((r.getD #[]).toList.drop ((r.getD #[]).toList.length-(mc.map (·.arg)).length)).length) (mc.map (·.arg)))).isEmpty)=true)
  (l:=λr=>((mc.map (·.arg)).drop ((mc.map (·.arg)).length-((r.getD #[]).toList.drop ((r.getD #[]).toList.length-(mc.map (·.arg)).length)).length)).zip ((r.getD #[]).toList.drop ((r.getD #[]).toList.length-(mc.map (·.arg)).length)))
  Ex (λB B q=>lu an<|dx<|bP q) (λr aH=>V aH<|V aD<|V bS Bool.false_ne_true) (λx b=>by dsimp only[t8];split<;>rfl) (λr aH=>V aH (V aD (V mb (show(pure (List.filterMap (λn=>(List.lookup n ((mc.map (·.arg)).zip (vs++ds.drop (ds.length-((mc.map (·.arg)).length-vs.length))))).map λv=>(n,v)) (mc.map (·.arg)++[])):Sem (List<|Str×Value))=pure _ from V (ew _)<|V UN rfl)))) es
section
def UO(h0:∀m,b [] m=m)(Y:∀n u r m,b ((n,u)::r) m=b r (f n u m))(ae:∀n u m,x≠n->f n u m x=m x){l:List (Str×Value)}:
  ∀{m:Str->Option Value},x∉l.map (·.1)->b l m x=m x:=by
 induction l with
 |nil=>exactλB=>V (h0 _) rfl
 |cons p r ay=>exactλac=>V (Y p.1 p.2 r _)<|(ay λq=>ac<|bQ _ q).trans<|ae _ _ _ λe=>ac<|e▸bo
def Ks(h0:∀m,b [] m=m)(Y:∀n u r m,b ((n,u)::r) m=b r (f n u m))(ae:∀n u m,x≠n->f n u m x=m x)(ba:∀u m,f x u m x=some u){l:List (Str×Value)}:
  ∀{m:Str->Option Value},(l.map (·.1)).Nodup->l.lookup x=some v->b l m x=some v:=by
 induction l with
 |nil=>exactλB h=>bf h
 |cons p r ay=>
  intro m aG h;refine V (Y p.1 p.2 r _) ?_;by_cases e:x=p.1
  ·obtain⟨n,u⟩:=p;dsimp only at e;subst e;exact(UO h0 Y ae (hH aG).1).trans<|(ba u m).trans<|br Ev h
  ·exact ay (hH aG).2<|(Ew e).symm.trans h
def AK{p:Prop}[Decidable p]{f g:Str->Option Value}{v:Option Value}(hf:p->f x=v)(bA:¬p->g x=v):(if p then f else g) x=v:=by
 by_cases h:p
 ·exact V (bh h)<|hf h
 ·exact V (bH h)<|bA h
def UP{l:List (Str×Value)}(aG:(l.map (·.1)).Nodup)(h:l.lookup x=some v)(an:qS x=some .local):bindL qS l m x=some v:=Ks (b:=bindL qS) (f:=λn v m=>if qS n=some .local thenλy=>if y=n then some v else m y else m) (λB=>rfl) (λB B B B=>rfl) (λB B B e=>AK (λB=>bH e) λB=>rfl) (λB B=>AK (λB=>bh rfl) λq=>absurd an q) aG h
def UQ{l:List (Str×Value)}(aG:(l.map (·.1)).Nodup)(h:l.lookup x=some v)(an:qS x≠some .local):bindC qS l m x=some v:=Ks (b:=bindC qS) (f:=λn v m=>if qS n=some .local then m elseλy=>if y=n then some v else m y) (λB=>rfl) (λB B B B=>rfl) (λB B B e=>AK (λB=>rfl) λB=>bH e) (λB B=>AK (λq=>absurd q an) λB=>bh rfl) aG h
def Kt{y:Str}{n:Addr}{acc:List (Str×Addr)}(h:x≠y->(acc.lookup x).isSome=true):(((y,n)::acc).lookup x).isSome=true:=by
 by_cases e:x=y
 ·exact e▸V Ev rfl
 ·exact V (Ew e)<|h e
def Ku:∀{n:Nat} {acc:List (Str×Addr)},((x,NameKind.cell)∈names\/(acc.lookup x).isSome=true)->((cellsFrom n names acc).lookup x).isSome=true:=by
 induction names with
 |nil=>exactλh=>h.elim (λh=>absurd h b5) id
 |cons p r ay=>
  intro n acc h;obtain⟨y,k⟩:=p;show((if(k==.cell)=true then cellsFrom (n+1) r ((y,n)::acc)else cellsFrom n r acc).lookup x).isSome=true;by_cases q:(k==.cell)=true
  ·exact V (bh q)<|ay<|h.elim (λh=>(cS h).elim (λe=>.inr<|Kt λq=>absurd (kO e).1 q) .inl) λh=>.inr<|Kt λB=>h
  ·exact V (bH q)<|ay<|h.imp_left λh=>(cS h).resolve_left λe=>q<|beq_iff_eq.mpr (kO e).2.symm
def nD{a b:Bool}(h:(a&&b)=true)(k:a->b->R):R:=k (bP h)<|cO h
def Kv{G:gS}{args:Arguments}{hG:List I}(h:Db G args body scope hG=some fn)(k:args.posonlyargs=[]->args.vararg=none->args.kwonlyargs=[]->args.kwarg=none->args.args.map (·.arg)=(scope.names.map (·.1)).take fn.np->(args.args.map (·.arg)).length=fn.np->(scope.names.map (·.1)).Nodup->fn.hG.length<=fn.np->
   (∀x∈scope.names.take fn.np,x.2=.local\/x.2=.cell)->tE scope.names->(∀p∈scope.names,p.2≠.free/\p.1≠(".0":Str))->scope.kind=.function->scope.isGenerator=false->scope.isCoroutine=false->fn.hG=hG->
   of G (h5 (scope.names.map (·.1)) 0) scope.names.length scope.names body=some fn.body->R):R:=by
 refine dZ h λag h=>dt h λb aj bM=> ?_;subst bM
 clear h
 refine nD ag λag vW=>nD ag λag qT=>nD ag λag qU=>nD ag λag pP=>nD ag λag jF=>nD ag λag jk=>nD ag λag fN=>nD ag λag gM=>nD ag λag gV=>nD ag λag eQ=>nD ag λag d2=>nD ag λa6 bS=> ?_;exact k (t9.mp a6) (Option.isNone_iff_eq_none.mp bS) (t9.mp d2) (Option.isNone_iff_eq_none.mp eQ) (eq_of_beq gV) rfl (dx gM) (dx fN)
  (λx ac=>((qP _ _).mp<|hg jk x ac).imp eq_of_beq eq_of_beq) jF (λp ab=>have q:=hg pP p ab;⟨bne_iff_ne.mp<|bP q,bne_iff_ne.mp<|cO q⟩) (eq_of_beq qU) ((oA _).mp qT) ((oA _).mp vW) rfl aj
structure x6(c:Ctx)(G:gS)(fn:fp)(a:Addr):Prop where
 ex:∃o fd body,c.au.get? a=some o/\o.data=.func fd/\fd.body=.stmts body/\fd.closure=[]/\fd.globals=mainGlobals/\fd.builtins=builtinsNs/\c.au.CodeRec fd.code fd.qualname/\Db G fd.params body fd.scope fn.hG=some fn/\
  ((fn.hG=[]/\fd.defaults=.none)\/∃T o dP n,fd.defaults=.ref T/\c.au.get? T=some o/\o.data=.seq dP n/\b9 c.au [] dP.toList fn.hG)
section
variable{P:jx}{G:gS}
variable{x:I}{a b:Value}
noncomputable def Ey(fd:FuncData)(X a:Addr):List Addr:=X::fd.scope.names.filterMap λp=>(callEnvC fd X a).cells.lookup p.1
def UR{a:Addr}{np:Nat}{cF:List Value}{k2:List I}(bW:bJ c.w c.N c.au s.heap M C)(gV:ps=(fd.scope.names.map (·.1)).take np)(gM:ps.length=np)(fN:(fd.scope.names.map (·.1)).Nodup)(pP:tE fd.scope.names)(qU:∀p∈fd.scope.names,p.2≠.free/\p.1≠(".0":Str))(qT:fd.scope.kind=.function)(bA:fd.globals=mainGlobals)(aj:fd.builtins=builtinsNs)(aV:b9 s.heap M cF k2)(ao:k2.length=np)(x:InCallC s (callEnvC fd s.heap.objs.size a).locals (bindL (callEnvC fd s.heap.objs.size a).kindOf (ps.zip cF) λB=>none) (callEnvC fd s.heap.objs.size a).cells
   (bindC (callEnvC fd s.heap.objs.size a).kindOf (ps.zip cF) λB=>none) aY):
  dR c (Ey fd s.heap.objs.size a) fd.scope.names.length (h5 (fd.scope.names.map (·.1)) 0) fd.scope.names (callEnvC fd s.heap.objs.size a) aY.heap M (λi=>k2[i]?)/\
  bY c [] s M aY M C/\(∀b∈Ey fd s.heap.objs.size a,s.heap.get? b=none):=by
 obtain⟨aO,tk,rfl,k⟩:=x.done;have g:bY c [] s M {s with heap:=aO,toks:=tk} M C:=.oo bW ⟨aO,tk,rfl,k⟩;have Ez:∀y ca,(callEnvC fd s.heap.objs.size a).cells.lookup y=some ca->s.heap.objs.size<ca:=λy ca h=>x.above y ca<|mem_of_lookup h;have away:∀b,s.heap.objs.size<=b->b∉foot M/\c.au.get? b=none:=λb aj=>bW.tO<|zZ aj;have AL:ps.length=cF.length:=gM.trans<|br ao aV.length.symm;have EA:ps.Nodup:=gV▸fN.sublist (List.take_sublist _ _);have Kw:((ps.zip cF).map (·.1)).Nodup:=V (List.map_fst_zip<|cM AL) EA;have val:∀{y i e},(h5 (fd.scope.names.map (·.1)) 0).lookup y=some i->k2[i]? =some e->∃v,(ps.zip cF).lookup y=some v/\bb aO M v e:=λ{y i e} Y ae=>(aV.get ae).elim λv q=>⟨v,(AI EA<|gV▸(List.getElem?_take_of_lt<|ao▸(h7 ae).1).trans (Aq Y).2).trans q.1,q.2.keep g.keep⟩
 have alive:∀b∈Ey fd s.heap.objs.size a,s.heap.objs.size<=b:=λb aj=>(cS aj).elim (λe=>cM e.symm) λaj=>(List.mem_filterMap.mp aj).elim λp q=>hi<|Ez _ _ q.2;have US:k2.length<=fd.scope.names.length:=V (ao.trans gM.symm)<|V gV<|a3 (vA _ _)<|cM<|c2 _
 clear k bW aV gM AL EA
 refine⟨?_,g,λb aj=>zZ<|alive b aj⟩;exact
  {kind:=qT,glob:=bA,blt:=aj,kinds:=λy k h=>.inl h,nodict:=λy k h=>(oA _).mp<|hg pP _<|mem_of_lookup h,lt:=λy i h=>c7 (vN h).2.2<|cM<|(ot _).trans<|c2 _,
   top:=λi ah=>List.getElem?_eq_none<|a3 US ah,dot:=Ar λhm=>(e4 hm).elim λp q=>(qU p q.1).2 q.2,inj:=λy w i Y ae=>JT Y ae,
   ns:=⟨_,x.toInCall.ns,λy i e Y ae ba=>(val ae ba).elim λv q=>⟨v,UP Kw q.1 Y,q.2⟩⟩,
   cells:=λy i Y ae=>by
    have ag:fd.scope.names.lookup y=some .cell:=Y.elim id λh=>absurd rfl (qU _<|mem_of_lookup h).1;obtain⟨ca,r5⟩:=hT<|Ku (n:=s.heap.objs.size+1) (acc:=[])<|.inl<|mem_of_lookup ag;exact⟨ca,_,r5,x.cell y ca r5,λe he=>(val ae he).elim λv q=>⟨v,UQ Kw q.1 λr=>NameKind.noConfusion<|bp<|br ag r,q.2⟩⟩,
   r0:=away _<|gF _,ny:=λy ca h=>have q:=away ca<|hi<|Ez y ca h;⟨q.1,q.2,dd<|Ez y ca h⟩,lw:=λy ca h=>⟨_,x.cell y ca h⟩,apart:=λy w ca Y ae=>name_of_addr x.apart (mem_of_lookup Y)<|mem_of_lookup ae,xO:=bo,
   DG:=λy ca h0 h=>bQ _<|List.mem_filterMap.mpr ⟨_,mem_of_lookup h0,h⟩,
   lx:=λb aj=>have q:=away b<|alive b aj;⟨q.1,q.2,(cS aj).elim (λe=>x.toInCall.ns.elim λo q=>q.elim λaw q=>q.elim λep q=>⟨o,e▸q.1,λ⟨B,cr,r⟩=>nomatch q.2.1.symm.trans r⟩)
    λaj=>(List.mem_filterMap.mp aj).elim λp q=>(x.cell _ _ q.2).elim λo q=>⟨o,q.1,λ⟨B,cr,r⟩=>nomatch q.2.symm.trans r⟩⟩}
def UT{fu:eG}{v:I}(h:(match fu with|.ret v=>some (v,ax)|.next=>some (.none,ax))=some (z,S))(dJ:fu=.next->z=.none->ax=S->R)(fi:∀v,fu=.ret v->v=z->ax=S->R):R:=by
 cases fu with
 |next=>exact dJ rfl (dD h).1.symm (dD h).2
 |ret v=>exact fi v rfl (dD h).1 (dD h).2
theorem UU(T:fY c P G K cV eg e5)(ie:r1 c P cV O d){a:Addr}(vX:x6 c G fn a){args:List I}{R:Result->Shared->Prop}(aH:tA O fn args C=some (z,S))(aX:en (d+1) A)(bW:bJ c.w c.N c.au s.heap M C)(cb:b9 s.heap M vs args)(h:eN c s M S z λv aY=>R (.ok<|.ret v) aY):codeAny (model c.prog c.w) A (.call (.ref a) ⟨vs,[]⟩) R s:=by
 obtain⟨o,fd,body,aA,bC,UV,UW,UX,UY,Ad,Kx,vV⟩:=vX.ex;refine Kv Kx λa6 bS d2 eQ gV gM fN jk jF pP qU qT vW AM EB UZ=> ?_;refine bX aH λH EC Y=>c0 Y λfu hy ac ae=>dZ EC λhle EC=> ?_;obtain⟨aT,ax⟩:=hy;obtain rfl:=bp EC
 clear Kx vX Y aH
 obtain⟨ds,oy,AN⟩:∃ds:List Value,((ds=[]/\fd.defaults=.none)\/∃T o n,fd.defaults=.ref T/\s.heap.get? T=some o/\o.data=.seq ds.toArray n)/\b9 s.heap M ds fn.hG:=vV.elim (λq=>⟨[],.inl ⟨rfl,q.2⟩,V q.1 .nil⟩) λ⟨T,o,dP,n,aD,aF,cP,et⟩=>⟨dP.toList,.inr ⟨T,o,n,aD,bW.keep _ _ aF,cP⟩,et.keep ⟨⟨M,(List.nil_append _).symm⟩,λb o e B B B=>⟨bW.keep _ _ e,λhm=>bf<|(bW.fR _ hm).symm.trans e⟩⟩⟩
 refine codeAny_call_function (c1 (cT _ _) aX.depth) (bW.keep _ _ aA) bC AM vW UV (Ad.keeps bW.keep) ?_;have oC:=cb.length;have AO:=AN.length;refine UM (ds:=ds) a6 rfl d2 bS eQ (gV▸fN.sublist (List.take_sublist _ _)) (gM▸oC▸hle.1) (gM▸AO▸jk) (gM▸oC▸AO▸hle.2) oy _ _ _ _ ?_;have t4:b9 s.heap M (vs++ds.drop (ds.length-((fd.params.args.map (·.arg)).length-vs.length))) (args++fn.hG.drop (fn.hG.length-(fn.np-args.length))):=V gM<|V oC<|V AO<|cb.append<|AN.drop _;refine V UW<|wpAny_newFunctionEnv_cells qT (λx ac=> ?_) λaN he aY x=> ?_
 ·obtain⟨nm,v⟩:=x;obtain⟨p,ab,e⟩:=e4 (show nm∈(fd.scope.names.take fn.np).map (·.1)from V List.map_take<|eF gV (List.of_mem_zip ac).1);have qV:=List.mem_of_mem_take ab;exact e▸(jF p ab).imp (λq=>(xV fN qV).trans<|ai some q) λq=>⟨(xV fN qV).trans<|ai some q,Ku<|.inl<|q▸qV⟩
 ·subst he;obtain⟨F,g1,hv⟩:=UR (a:=a) bW gV gM fN pP qU qT UX UY t4 (eo.trans ((ai (_+·) List.length_drop).trans<|Kr hle.1 hle.2)) x;refine⟨(T.lim.keeps bW.keep).keeps x.toInCall.keep,codeAny_func ?_⟩;have U0:en d (A.deeper<|callEnvC fd s.heap.objs.size a):=⟨Qg aX.depth,by have:=aX.units;show A.units+3+_+_<_;lia,aX.handled⟩
  clear vV oy AN oC AO t4 a6 bS d2 eQ gV gM fN jk jF pP qU qT vW AM EB hle cb x
  refine x3 (G:=G) (O:=O) (d:=d) body (λst B=>UF T ie (λe=>(Kh T ie (sizeOf e+1) e<|Nat.lt_add_one _).1) (λe=>(Kh T ie (sizeOf e+1) e<|Nat.lt_add_one _).2) (sizeOf st+1) st<|Nat.lt_add_one _) UZ ac U0 F g1.ok λbF ft dm bd cD bg=> ?_;have AG:bY c [] s M bF ft ax:=(g1.ib.trans bd).tI hv;refine UT (v:=z) ae (λaD aF cP=> ?_) λu aD aF cP=> ?_
  ·subst aD aF cP;cases dm with
   |next=>exact h bF ft _ AG .none
   |_=>exact bg.elim
  ·subst aD aF cP;cases dm with
   |ret w=>exact h bF ft _ AG bg
   |_=>exact bg.elim
end
end
section
structure AP(c:Ctx)(P:jx)(K:Frag)(cV:Nat->Addr):Prop where
 made:∀(k:Nat) (aI:Addr),c.N.ca[k]? =some aI->makesIn K aI=true
 init:∀(k f:Nat) (aI:Addr),P.init k=some f->c.N.ca[k]? =some aI->findIn K (.ref aI) "__init__"=some (some<|.ref<|cV f)/\isFn K (.ref<|cV f)=true
 Ky:∀(k:Nat) (aI:Addr),P.init k=none->c.N.ca[k]? =some aI->findIn K (.ref aI) "__init__"=some (some<|.builtin "object.__init__")
def qW(c:Ctx)(P:jx)(cV:Nat->Addr)(d:Nat):Prop:=
 ∀f args C z S,a0 P d f args C=some (z,S)->(∃fn,P.pv[f]? =some fn)/\
  ∀(A:Around) (R:Result->Shared->Prop) (s:Shared) (M:c6) (vs:List Value),en d A->bJ c.w c.N c.au s.heap M C->b9 s.heap M vs args->eN c s M S z (λv aY=>R (.ok<|.ret v) aY)->codeAny (model c.prog c.w) A (.call (.ref<|cV f) ⟨vs,[]⟩) R s
section
variable{P:jx}{G:gS}
variable{x:I}{a b:Value}
noncomputable def AQ(P:jx)(d:Nat):xn:=match d with
 |0=>λB B B=>none
 |d+1=>λc args C=>match P.init c with
  |some f=>(a0 P d f (.L C.length::args)<|C++[.cR c λB=>none]).bind λr=>if r.1=.none then some (.L C.length,r.2)else none
  |none=>if args=[]then some (.L C.length,C++[.cR c λB=>none])else none
def U1(P:jx)(d f:Nat)(args:List I)(C:St):a0 P (d+1) f args C=(P.pv[f]?).bind λfn=>tA {fn:=a0 P d,make:=AQ P d,b1:=P.b1} fn args C:=by
 cases d<;>rfl
def U2(args:Args):(Code.builtin "type.__call__" args).weight<=1:=
 have q:∀b:Bool,(Code.builtin "type.__call__" ⟨[],[]⟩).frames+(if b then 1 else 0)+(if(Code.builtin "type.__call__" ⟨[],[]⟩).isGuard then 1 else 0)+(if(Code.builtin "type.__call__" ⟨[],[]⟩).isCaller then claimMargin else 0)<=1:=by decide
 q (Code.isCreation<|Code.builtin "type.__call__" args)
def U3(args:Args):(Code.builtin "type.__call__" args).cUnits<=1:=(by decide:(Code.builtin "type.__call__" ⟨[],[]⟩).cUnits<=1)
def U4{a x l:Nat}(h:x<=1)(k:a+(d+1)<l):a+x+d<l:=c1 (V (rR a x d)<|hA h<|a+d) k
theorem U5{a x l:Nat}(h:x<=1)(k:a+10*(d+1)+300<l):a+x+10*d+300<l:=by lia
def U6(args:Args)(aX:en (d+1) A):en d (A.under<|.builtin "type.__call__" args):=⟨U4 (U2 args) aX.depth,U5 (U3 args) aX.units,aX.handled⟩
def Kz:((h.push emptyDict).push<|instObj aI h.objs.size).get? (h.objs.size+1)=some (instObj aI h.objs.size):=eF (Heap.size_push h emptyDict)<|Heap.get?_push_size _ rfl
def bb.U7(r:bb h M v .none):v=.none:=by cases r;rfl
def U8(bW:bJ c.w c.N c.au s.heap M C)(eX:c.N.ca[k]? =some aI):bY c [] s M {s with heap:=(s.heap.push emptyDict).push<|instObj aI s.heap.objs.size} (M++[(s.heap.objs.size+1,some s.heap.objs.size)]) (C++[.cR k λB=>none]):=by
 have cy:∀b o,s.heap.get? b=some o->((s.heap.push emptyDict).push<|instObj aI s.heap.objs.size).get? b=some o:=λb o e=>Heap.get?_push_of_some _<|Heap.get?_push_of_some _ e;have hn:∀b∈foot [(s.heap.objs.size+1,some s.heap.objs.size)],s.heap.get? b=none:=mJ.mpr ⟨zZ<|jZ _,mJ.mpr ⟨rT _,λB h=>absurd h b5⟩⟩;refine⟨⟨⟨_,rfl,λb aj=>.inl<|hn b aj⟩,λb y e B B=>cy b y e,λb y e B=>⟨y,cy b y e⟩,λB b y B B e=>cy b y e⟩,bW.push hn (List.pairwise_pair.mpr<|Nat.succ_ne_self _) cy (λK=> ?_) bW.alive,rfl,rfl,rfl⟩;exact⟨aI,s.heap.objs.size,[],0,eX,rfl,Kz,Heap.get?_push_of_some _<|Heap.get?_push_size _ rfl,(λe he=>absurd he b5:rO []),jA _,λx=>by
  cases c.N.fr.idxOf? x<;>exact trivial,λx ac=>Bool.noConfusion ac⟩
def U9{args:List I}(aH:AQ P (d+1) k args C=some (z,S))(dJ:∀f,P.init k=some f->∀ax,a0 P d f (.L C.length::args) (C++[.cR k λB=>none])=some (.none,ax)->z=.L C.length->ax=S->R)(fi:P.init k=none->args=[]->z=.L C.length->C++[.cR k λB=>none]=S->R):R:=by
 have aH:(match P.init k with
  |some f=>(a0 P d f (.L C.length::args)<|C++[.cR k λB=>none]).bind λr=>if r.1=.none then some (.L C.length,r.2)else none
  |none=>if args=[]then some (.L C.length,C++[.cR k λB=>none])else none)=some (z,S):=aH
 cases ah:P.init k with
 |some f=>rw[ah]at aH;exact c0 aH λfb ax Y aH=>dZ aH λhz aH=>dJ f ah ax ((show fb=.none from hz)▸Y) (dD aH).1.symm (dD aH).2
 |none=>rw[ah]at aH;exact dZ aH λh aH=>fi ah h (dD aH).1.symm (dD aH).2
def Va(T:fY c P G K cV eg e5)(df:AP c P K cV)(vY:qW c P cV d){args:List I}(aH:AQ P (d+1) k args C=some (z,S))(eX:c.N.ca[k]? =some aI)(aX:en (d+1) A)(bW:bJ c.w c.N c.au s.heap M C)(cb:b9 s.heap M vs args)(h:eN c s M S z Q):wpAny (model c.prog c.w) A (call (.ref aI) vs) Q aB s:=by
 have a4:K.In s.heap:=T.cls.xM.keeps bW.keep;have cI:=@makes_of _ (model c.prog c.w) _ a4 _<|df.made k aI eX;have g1:=U8 (s:=s) bW eX;have rV:bb ((s.heap.push emptyDict).push<|instObj aI s.heap.objs.size) (M++[(s.heap.objs.size+1,some s.heap.objs.size)]) (.ref<|s.heap.objs.size+1) (.L C.length):=bb.last (p:=(s.heap.objs.size+1,some s.heap.objs.size)) bW;refine U9 aH (λf hf ax Y aD aF=> ?_) λhf bM aD aF=> ?_
 ·subst aD aF;have q:=df.init k f aI hf eX;refine wpAny_call<|make_core cI (looks_findIn a4 q.1) (λi6=>bind_fn a4 i6<|beq_iff_eq.mp q.2) (.inl rfl) ?_;exact(vY _ _ _ _ _ Y).2 _ _ _ _ _ (U6 _ aX) g1.ok (.cons rV<|cb.keep g1.keep) λbF ft v bd bg=>⟨bg.U7,h bF ft _ (g1.trans bd)<|rV.keep bd.keep⟩
 ·subst aD aF bM;obtain rfl:=xu cb.length;refine wpAny_call<|make_core cI (looks_findIn a4<|df.Ky k aI hf eX) (λi6=>Looks.of_pure<|oi_bind i6) (.inr ⟨rfl,rfl⟩) ?_;have gu:Looks (model c.prog c.w) ((s.heap.push emptyDict).push<|instObj aI s.heap.objs.size) (isInstance (.ref<|s.heap.objs.size+1)<|.type "object") true:=((Looks.ld Kz).andThen .now).andThen<|cI.top.keeps λb o e=>Heap.get?_push_of_some _<|Heap.get?_push_of_some _ e;exact codeAny_call_builtin oi_plain entry_oi<|@check_slot (model c.prog c.w) _ _ _ "object.__init__" "object" "__init__" (.ref<|s.heap.objs.size+1) [] [] _ oi_kind oi_split gu (oi_args<|.ref<|s.heap.objs.size+1)<|V (oi_run _)<|wpAny_pure ⟨rfl,h _ _ _ g1 rV⟩
def Vb(T:fY c P G K cV eg e5)(df:AP c P K cV)(vY:qW c P cV d)(ED:∀ua,d=ua+1->qW c P cV ua):r1 c P cV {fn:=a0 P d,make:=AQ P d,b1:=P.b1} d where
 b1:=rfl
 fn:=λf args C z S h=>⟨(vY f args C z S h).1,λA aB s M vs Q aX bW cb fE=>wpAny_call<|(vY f args C z S h).2 A _ s M vs aX bW cb fE⟩
 make:=λk args C z S aI h eX A aB s M vs Q aX bW cb fE=>by
  cases d with
  |zero=>contradiction
  |succ d=>exact Va T df (ED d rfl) h eX aX bW cb fE
def Vc(T:fY c P G K cV eg e5)(df:AP c P K cV)(vX:∀f fn,P.pv[f]? =some fn->x6 c G fn (cV f))(d:Nat):qW c P cV d/\qW c P cV (d+1):=by
 have step:∀d,qW c P cV d->(∀ua,d=ua+1->qW c P cV ua)->qW c P cV (d+1):=λd vY ED f args C z S h=>bX ((U1 P d f args C).symm.trans h) λfn rZ h=>⟨⟨fn,rZ⟩,λA R s M vs aX bW cb fE=>UU T (Vb T df vY ED) (vX f fn rZ) h aX bW cb fE⟩
 have zero:qW c P cV 0:=λf args C z S h=>bf h;induction d with
 |zero=>exact⟨zero,step 0 zero λua h=>Nat.noConfusion h⟩
 |succ d ay=>exact⟨ay.2,step (d+1) ay.2 λua h=>nl h▸ay.1⟩
end
end
section
set_option backward.match.sparseCases true
def Sub(K dQ:Frag):Prop:=∀a o,K.lookup a=some o->dQ.lookup a=some o
@[elab_as_elim] def KA{y x:Option Obj}{p:Option Obj->Prop}(a9:∀o,x=some o->y=some o)(h:p x)(hn:¬p none):p y:=by
 cases x with
 |none=>exact absurd h hn
 |some o=>exact V (a9 o rfl) h
def KB{α:Type}{p:Prop}[Decidable p]{x r:Option α}(h:p)(k:x=r):(if p then x else none)=r:=V (bh h) k
def pQ{α:Type}[BEq α][LawfulBEq α]{x y:Option α}{r:α}(a9:x=some r->y=some r)(h:(x==some r)=true):(y==some r)=true:=beq_iff_eq.mpr<|a9<|beq_iff_eq.mp h
def AR{α:Type}{x:Option α}{a:α}{f:α->Bool}(h:x=some a)(k:f a):x.any f:=V h k
section
variable{dQ:Frag}
def Vd(a9:Sub K dQ){ns:Addr}(e:nsIn K ns x=some r):nsIn dQ ns x=some r:=by delta nsIn at e⊢;exact KA (a9 ns) e λq=>bf q
def x7(a9:Sub K dQ){cd:ClassData}(e:clsIn K aI=some cd):clsIn dQ aI=some cd:=by delta clsIn at e⊢;exact KA (a9 aI) e λq=>bf q
def KC:ownIn K x (.ref a)=(clsIn K a).bind λcd=>nsIn K cd.ns x:=by
 delta clsIn;show(match K.lookup a with
  |some ⟨B,cr,.cls cd,eE⟩=>nsIn K cd.ns x
  |_=>none)=_
 cases K.lookup a with
 |none=>exact(rfl:(none:Option (Option Value))=none)
 |some o=>
  obtain⟨c,d,nE,eS⟩:=o;cases nE with
  |cls cd=>exact rfl
  |_=>exact(rfl:(none:Option (Option Value))=none)
def KD:findIn K (.ref a) x=(clsIn K a).bind λcd=>alongIn K x cd.mro:=by
 delta clsIn;show(match K.lookup a with
  |some ⟨B,cr,.cls cd,eE⟩=>alongIn K x cd.mro
  |_=>none)=_
 cases K.lookup a with
 |none=>exact(rfl:(none:Option (Option Value))=none)
 |some o=>
  obtain⟨c,d,nE,eS⟩:=o;cases nE with
  |cls cd=>exact rfl
  |_=>exact(rfl:(none:Option (Option Value))=none)
def Ve(a9:Sub K dQ)(e:ownIn K x v=some r):ownIn dQ x v=some r:=by
 cases v with
 |ref a=>exact bX (br KC e) λcd Y ae=>KC.trans<|bB (x7 a9 Y)<|Vd a9 ae
 |_=>exact e
def Vf(a9:Sub K dQ){l:List Value}:alongIn K x l=some r->alongIn dQ x l=some r:=by
 induction l with
 |nil=>exact id
 |cons c l ay=>
  intro e;have e:(match ownIn K x c with
   |some (some v)=>some<|some v
   |some none=>alongIn K x l
   |none=>none)=some r:=e
  show(match ownIn dQ x c with
   |some (some v)=>some<|some v
   |some none=>alongIn dQ x l
   |none=>none)=some r
  cases aA:ownIn K x c with
  |none=>rw[aA]at e;exact bf e
  |some y=>
   rw[aA]at e;refine V (Ve a9 aA) ?_;cases y with
   |none=>exact ay e
   |some v=>exact e
def sg(a9:Sub K dQ){t:Value}(e:findIn K t x=some r):findIn dQ t x=some r:=by
 cases t with
 |ref a=>exact bX (br KD e) λcd Y ae=>KD.trans<|bB (x7 a9 Y)<|Vf a9 ae
 |_=>exact e
def KE(a9:Sub K dQ){t:Value}(e:typeIn K v=some t):typeIn dQ v=some t:=by
 cases v with
 |ref a=>exact dt e λo aA q=>(ai (Option.map Obj.cls)<|a9 _ _ aA).trans<|ai some q
 |_=>exact e
def Vg(a9:Sub K dQ){b:Value}{r:Bool}(e:mroIn K aI b=some r):mroIn dQ aI b=some r:=bX e λcd Y ae=>bB (x7 a9 Y) ae
def Vh(a9:Sub K dQ){t b:Value}{r:Bool}(e:subIn K t b=some r):subIn dQ t b=some r:=by
 cases t with
 |ref aI=>exact Vg a9 e
 |_=>exact e
def Vi(a9:Sub K dQ){b:Value}{r:Bool}(e:instIn K v b=some r):instIn dQ v b=some r:=bX e λt Y ae=>bB (KE a9 Y)<|Vh a9 ae
def KF(a9:Sub K dQ)(e:specialIn K v x=some r):specialIn dQ v x=some r:=bX e λt Y ae=>bB (KE a9 Y)<|sg a9 ae
def Vj(a9:Sub K dQ)(e:plainGet K aI x):plainGet dQ aI x:=dI (pQ (sg a9)<|bP e)<|pQ (sg a9)<|cO e
def Vk(a9:Sub K dQ)(e:hasDictIn K aI):hasDictIn dQ aI:=(any_some e).elim λcd q=>AR (x7 a9 q.1) q.2
def Vl(a9:Sub K dQ)(e:plainOver K aI):plainOver dQ aI:=(any_some e).elim λcd q=>AR (x7 a9 q.1) q.2
def Vm(a9:Sub K dQ)(e:keepIn K v):keepIn dQ v:=by
 cases v with
 |ref a=>
  have e:(match K.lookup a with
   |some ⟨B,cr,.func eE,hb⟩=>true
   |some ⟨B,cr,.cls eE,hb⟩=>specialIn K (.ref a) "__call__"==some (some<|.builtin "type.__call__")
   |_=>false)=true:=e
  show(match dQ.lookup a with
   |some ⟨B,cr,.func eE,hb⟩=>true
   |some ⟨B,cr,.cls eE,hb⟩=>specialIn dQ (.ref a) "__call__"==some (some<|.builtin "type.__call__")
   |_=>false)=true
  cases ao:K.lookup a with
  |none=>rw[ao]at e;exact b7 e
  |some o=>
   rw[ao]at e;refine V (a9 _ _ ao) ?_
   clear ao
   obtain⟨c,d,nE,eS⟩:=o;cases nE with
   |func B=>exact rfl
   |cls cd=>exact pQ (KF a9) e
   |_=>exact b7 e
 |_=>exact e
def Vn(a9:Sub K dQ)(e:makesIn K aI):makesIn dQ aI:=by
 delta makesIn at e⊢;cases ao:K.lookup aI with
 |none=>rw[ao]at e;exact b7 e
 |some o=>
  rw[ao]at e;refine V (a9 _ _ ao) ?_
  clear ao
  obtain⟨c,d,nE,eS⟩:=o;cases nE with
  |cls cd=>exact dI (dI (bP<|bP e)<|pQ (KF a9)<|cO<|bP e)<|pQ (Vi a9)<|cO e
  |_=>exact b7 e
end
abbrev g7:=Nat->Option Obj
def qX(g eO:g7):Prop:=∀a o,g a=some o->eO a=some o
noncomputable def md(g:g7)(as:List Nat):Frag:=as.filterMap λa=>(g a).map λo=>(a,o)
def EE{g:g7}{b:Nat}{x:Obj}(h:g b=some x):md g (b::as)=(b,x)::md g as:=List.filterMap_cons_some<|ai (Option.map λo=>(b,o)) h
def KG{g:g7}{b:Nat}(h:g b=none):md g (b::as)=md g as:=List.filterMap_cons_none<|ai (Option.map λo=>(b,o)) h
def KH{α:Type}{x p:Nat}{b:α}{aw:List (Nat×α)}(h:x≠p):((p,b)::aw).lookup x=aw.lookup x:=V List.lookup_cons<|V (beq_eq_false_iff_ne.mpr h) rfl
def EF{g:g7}{a:Nat}:(md g as).lookup a=some o->a∈as/\g a=some o:=by
 induction as with
 |nil=>exactλh=>bf h
 |cons b as ay=>
  intro h;cases aj:g b with
  |none=>exact(ay<|KG aj▸h).imp_left<|bQ _
  |some x=>
   have h:((b,x)::md g as).lookup a=some o:=EE aj▸h;by_cases aC:a=b
   ·subst aC;exact⟨bo,aj.trans<|br List.lookup_cons_self h⟩
   ·exact(ay<|(KH aC).symm.trans h).imp_left<|bQ _
def KI{g:g7}{a:Nat}(h:g a=some o):a∈as->(md g as).lookup a=some o:=by
 induction as with
 |nil=>exactλhm=>absurd hm b5
 |cons b as ay=>
  intro hm;by_cases hab:a=b
  ·subst hab;exact V (EE h) List.lookup_cons_self
  ·have ay:=ay<|(cS hm).resolve_left hab;cases aj:g b with
   |none=>exact V (KG aj) ay
   |some x=>exact V (EE aj)<|(KH hab).trans ay
def EG{g eO:g7}{bs:List Nat}(e:qX g eO)(h:∀a∈as,a∈bs):Sub (md g as) (md eO bs):=λa o ao=>KI (e _ _ (EF ao).2)<|h _ (EF ao).1
def Vo(as:List Nat):Frag.In (md h.get? as) h:=λa o ao=>(EF ao).2
noncomputable def KJ(v:Value):Option Int:=v.casesOn none none none (λB=>none) (λi B=>some i) (λB B=>none) (λB B=>none) (λB B=>none) (λB=>none) (λB=>none) λB=>none
noncomputable def EH(v:Value):Option Str:=v.casesOn none none none (λB=>none) (λB B=>none) (λB B=>none) (λs B=>some s) (λB B=>none) (λB=>none) (λB=>none) λB=>none
noncomputable def KK(v:Value):Option Addr:=v.casesOn none none none (λB=>none) (λB B=>none) (λB B=>none) (λB B=>none) (λB B=>none) (λB=>none) (λB=>none) some
noncomputable def EI(d:Data):Option (Array Value):=d.casesOn none (λB=>none) (λdP B=>some dP) (λB B=>none) (λB B B=>none) (λB B=>none) (λB=>none) (λB=>none) (λB=>none) (λB=>none) none
noncomputable def KL(d:Data):Option (Array Value):=d.casesOn none (λB=>none) (λB B=>none) (λB B=>none) (λB B B=>none) (λB B=>none) (λB=>none) (λB=>none) (λB=>none) some none
noncomputable def KM(d:Data):Option FuncData:=d.casesOn none (λB=>none) (λB B=>none) (λB B=>none) (λB B B=>none) (λB B=>none) (λB=>none) some (λB=>none) (λB=>none) none
noncomputable def KN:FuncBody->Option (List Stmt)
 |.stmts b=>some b
 |_=>none
def Vp{i:Int}(h:KJ v=some i):∃t,v=.int i t:=by
 cases v with
 |int j t=>exact⟨t,ai (Value.int · t)<|bp h⟩
 |_=>exact bf h
def KO{s:Str}(h:EH v=some s):∃t,v=.str s t:=by
 cases v with
 |str j t=>exact⟨t,ai (Value.str · t)<|bp h⟩
 |_=>exact bf h
def Vq(h:KK v=some a):v=.ref a:=by
 cases v with
 |ref b=>exact ai Value.ref<|bp h
 |_=>exact bf h
def KP{d:Data}(h:EI d=some dP):∃n,d=.seq dP n:=by
 cases d with
 |seq a n=>exact⟨n,ai (Data.seq · n)<|bp h⟩
 |_=>exact bf h
def Vr{d:Data}(h:KL d=some dP):d=.fields dP:=by
 cases d with
 |fields a=>exact ai Data.fields<|bp h
 |_=>exact bf h
def KQ{d:Data}(h:KM d=some fd):d=.func fd:=by
 cases d with
 |func a=>exact ai Data.func<|bp h
 |_=>exact bf h
def Vs{d:FuncBody}{b:List Stmt}(h:KN d=some b):d=.stmts b:=by
 cases d with
 |stmts a=>exact ai FuncBody.stmts<|bp h
 |_=>exact bf h
noncomputable def vZ{β:Type}(g:g7)(f:Obj->Option β)(v:Value):Option β:=(KK v).bind λt=>(g t).bind f
def EJ{β:Type}{g eO:g7}(aB:qX g eO){f:Obj->Option β}{r:β}(h:vZ g f v=some r):vZ eO f v=some r:=bX h λt Y ae=>bX ae λo ba cq=>bB Y<|bB (aB _ _ ba) cq
def EK{β:Type}{g:g7}{f:Obj->Option β}{r:β}(h:vZ g f v=some r)(k:∀t o,v=.ref t->g t=some o->f o=some r->R):R:=bX h λt Y ae=>bX ae λo ba cq=>k t o (Vq Y) ba cq
noncomputable def x8(ok:Value->I->Bool)(l:List I)(dP:Array Value):Bool:=dP.size==l.length&&(dP.toList.zip l).all λp=>ok p.1 p.2
def KR{f g:Value->I->Bool}(k:∀{v d},f v d->g v d)(h:x8 f l dP):x8 g l dP:=dI (bP h)<|nt.mpr λp ab=>k<|hg (cO h) p ab
noncomputable def qY(v:Value)(d:I):Bool:=d.casesOn (decide<|v=.none) (λb=>decide<|v=.bool b) (λi=>decide<|KJ v=some i) (λs=>decide<|EH v=some s) (λB=>false) λB=>false
noncomputable def Vt(o:Obj):Option (Array Value):=if decide (o.cls=.type "tuple")=true then EI o.data else none
noncomputable def ub(g:g7)(n:Nat):Value->I->Bool:=n.rec qY λB ay v d=>d.casesOn (qY v d) (λB=>qY v d) (λB=>qY v d) (λB=>qY v d) (λl=>(vZ g Vt v).any λdP=>decide (l.length<=16000000)&&x8 ay l dP) λB=>qY v d
def Vu:∀{vs:List Value},vs.length=l.length->(∀p∈vs.zip l,bb h M p.1 p.2)->b9 h M vs l:=by
 induction l with
 |nil=>exactλe B=>xu e▸.nil
 |cons d l ay=>
  intro vs e k;cases vs with
  |nil=>exact absurd e.symm<|qx _
  |cons v vs=>exact .cons (k (v,d) bo)<|ay (nl e) λp ab=>k p<|bQ _ ab
def KS{ok:Value->I->Bool}(k:∀{v d},ok v d->bb h M v d)(e:x8 ok l dP):b9 h M dP.toList l:=Vu (eq_of_beq<|bP e) λp ab=>k<|hg (cO e) p ab
def AS{g eO:g7}(aB:qX g eO)(n:Nat):∀{v:Value} {d:I},ub g n v d->ub eO n v d:=by
 induction n with
 |zero=>exact id
 |succ n ay=>
  intro v d;cases d with
  |ak l=>exactλh=>(any_some h).elim λdP q=>AR (EJ aB q.1)<|dI (bP q.2)<|KR ay<|cO q.2
  |_=>exact id
def KU{d:I}(e:qY v d):bb h [] v d:=by
 cases d with
 |none=>exact(dx e:v=.none)▸.none
 |bool b=>exact(dx e:v=.bool b)▸.bool b
 |int i=>exact(Vp<|dx e).elim λt q=>q▸.int i t
 |str s=>exact(KO<|dx e).elim λt q=>q▸.str s t
 |_=>exact b7 e
def EL(n:Nat):∀{v:Value} {d:I},ub h.get? n v d->bb h [] v d:=by
 induction n with
 |zero=>exact KU
 |succ n ay=>
  intro v d;cases d with
  |ak l=>exactλe=>(any_some e).elim λdP q=>EK q.1 λt o aS aA aJ=>dZ aJ λag aJ=>(KP aJ).elim λfH bC=>aS▸.ak ⟨o,aA,dx ag,fH,bC⟩ ⟨λq=>absurd q b5,dx<|bP q.2⟩ (KS ay<|cO q.2)
  |_=>exactλe=>KU<|show qY v _=true from e
noncomputable def EM(g:g7)(v:Value)(l:List I):Bool:=decide (v=.none)&&l.isEmpty||(vZ g (λo=>EI o.data) v).any (x8 (ub g 4) l)
noncomputable def Vv(g:g7)(v:Value)(q:Str):Bool:=decide<|vZ g (λo=>(KL o.data).bind λvs=>(vs[1]?).bind EH) v=some q
noncomputable def pR(G:gS)(g:g7)(a:Nat)(l:List I):Option fp:=(g a).bind λo=>if decide (o.cls=.type "function")=true then(KM o.data).bind λfd=>if(fd.closure.isEmpty&&fd.globals==mainGlobals&&fd.builtins==builtinsNs&&Vv g fd.code fd.qualname&&EM g fd.defaults l)=true then(KN fd.body).bind λb=>Db G fd.params b fd.scope l else none else none
def Vw{g eO:g7}(aB:qX g eO)(h:EM g v l):EM eO v l:=(qP _ _).mpr<|((qP _ _).mp h).imp_right λh=>(any_some h).elim λdP q=>AR (EJ aB q.1)<|KR (AS aB 4) q.2
def Vx{G:gS}{g eO:g7}(aB:qX g eO){a:Nat}(h:pR G g a l=some fn):pR G eO a l=some fn:=bX h λo Y h=>dZ h λq h=>bX h λfd ae h=>dZ h λeW h=>bB (aB _ _ Y)<|KB q<|bB ae<|KB (dI (dI (bP<|bP eW)<|ck<|EJ aB<|dx<|cO<|bP eW)<|Vw aB<|cO eW) h
def Vy{G:gS}{a:Nat}(h:pR G c.au.get? a l=some fn):x6 c G fn a/\∃o,c.au.get? a=some o/\o.cls=.type "function"/\∃fd,o.data=.func fd:=by
 refine bX h λo Y h=>dZ h λq h=>bX h λfd ae h=>dZ h λeW h=>bX h λb ba h=> ?_;obtain rfl:fn.hG=l:=Kv h λB B B B B B B B B B B B B B q B=>q;refine⟨⟨⟨o,fd,b,Y,KQ ae,Vs ba,t9.mp<|bP<|bP<|bP<|bP eW,eq_of_beq<|cO<|bP<|bP<|bP eW,eq_of_beq<|cO<|bP<|bP eW,?_,h,?_⟩⟩,o,Y,dx q,fd,KQ ae⟩
 ·exact EK (dx<|cO<|bP eW) λt o aS aA aJ=>bX aJ λvs hf aJ=>bX aJ λu bD aJ=>(KO aJ).elim λtk e=>⟨t,o,vs,tk,aS,aA,Vr hf,e▸bD⟩
 ·exact((qP _ _).mp<|cO eW).imp (λq=>⟨t9.mp<|cO q,dx<|bP q⟩) λq=>(any_some q).elim λdP q=>EK q.1 λt o aS aA aJ=>(KP aJ).elim λn bC=>⟨t,o,dP,n,aS,aA,bC,KS (EL 4) q.2⟩
end
variable{eO:g7}
noncomputable abbrev e6:Program:=PySem.Challenge.rw_pq0592_01.row.toRowW.1
noncomputable def stmts:List Stmt:=behindTheImports e6
noncomputable def eS(a b:Nat):List Stmt:=(stmts.drop a).take<|b-a
noncomputable def sh:Env:={scope:=e6.main.scope,locals:=mainNs,globals:=mainNs,cells:=[],code:=.ref 13,frame:=some 14}
noncomputable def ih:Code:=.body stmts sh
noncomputable def uc:Nat->(Nat->Obj)->BT
 |0,B=>.nil
 |d+1,g=>.node (g 0) (uc d λi=>g<|2*i+1)<|uc d λi=>g<|2*i+2
noncomputable def me(g:Nat->Obj)(n tk:Nat)(os:OsState):SharedT:={tree:=uc 11 g,n,life:={},gens:= #[],drawn:={},toks:=tk,os}
noncomputable def mN(w:World)(fuel:Nat)(s:SharedT)(a b:Nat)(p:Pos):Option (Flow×SharedT×Code×Pos):=PySem.W.Fast.tw10110043849684766642 PySem.W.Fast.tw14364793385576792824 e6 w 11 (some<|.ref 6) 1 fuel s<|piecesOf (eS a b) sh ih p [topFrame ⟨0,0,0,0⟩]
noncomputable def AT(P:Params)(l:List (Str×Nat×Value)):List DictEntry:=l.map λp=>{hash:=PyData.keyHash P p.1,key:=.str p.1 p.2.1,val:=p.2.2}
noncomputable def EN:List (Str×Nat×Value):=[
 (aa "__doc__",166,.none),
 (aa "__package__",167,.none),
 (aa "__loader__",168,(.builtin "__main__.__loader__#opaque")),
 (aa "__spec__",169,.none),
 (aa "__annotations__",170,(.ref 6)),
 (aa "__builtins__",171,(.ref 4)),
 (aa "__file__",173,(.str (aa "/claim/cut.py") 172)),
 (aa "__cached__",174,.none),
 (aa "_wall",193,(.ref 21)),
 (aa "U_ANY",197,(.int (1) 196)),
 (aa "U_PROP",199,(.int (3) 198)),
 (aa "U_READONLY",201,(.int (4) 200)),
 (aa "U_ENUM",203,(.int (10) 202)),
 (aa "U_OPTION",205,(.int (11) 204)),
 (aa "U_VAR",207,(.int (15) 206)),
 (aa "KeepError",238,(.ref 39)),
 (aa "TooDeep",267,(.ref 60)),
 (aa "HostFault",294,(.ref 80)),
 (aa "Notes",345,(.ref 120)),
 (aa "Y_KEY",349,(.int (1) 348)),
 (aa "Y_BOOL",351,(.int (2) 350)),
 (aa "Y_STR",353,(.int (3) 352)),
 (aa "Y_NUM",355,(.int (4) 354)),
 (aa "Y_ENUM",357,(.int (5) 356)),
 (aa "Y_UNION",359,(.int (6) 358)),
 (aa "Y_INTER",361,(.int (7) 360)),
 (aa "Y_OBJ",363,(.int (8) 362)),
 (aa "Y_REF",365,(.int (9) 364)),
 (aa "Y_PARAM",367,(.int (10) 366)),
 (aa "Y_ARRAY",369,(.int (11) 368)),
 (aa "Y_TUPLE",371,(.int (12) 370)),
 (aa "Y_SIG",373,(.int (13) 372)),
 (aa "Y_KEYOF",375,(.int (14) 374)),
 (aa "Y_INDEX",377,(.int (15) 376)),
 (aa "Y_COND",379,(.int (16) 378)),
 (aa "Y_MAPPED",381,(.int (17) 380)),
 (aa "Y_TPL",383,(.int (18) 382)),
 (aa "Y_ALIAS",385,(.int (19) 384)),
 (aa "ANY",387,(.int (0) 386)),
 (aa "UNKNOWN",389,(.int (1) 388)),
 (aa "NEVER",391,(.int (2) 390)),
 (aa "VOID",393,(.int (3) 392)),
 (aa "UNDEF",395,(.int (4) 394)),
 (aa "NULLT",397,(.int (5) 396)),
 (aa "STRING",399,(.int (6) 398)),
 (aa "NUMBER",401,(.int (7) 400)),
 (aa "FALSE_T",403,(.int (8) 402)),
 (aa "TRUE_T",405,(.int (9) 404)),
 (aa "OBJECTT",407,(.int (10) 406)),
 (aa "EMPTY",409,(.int (11) 408)),
 (aa "ERR",411,(.int (13) 410)),
 (aa "FRESH_F",413,(.int (14) 412)),
 (aa "FRESH_T",415,(.int (15) 414)),
 (aa "P_OPT",417,(.int (1) 416)),
 (aa "P_READONLY",419,(.int (2) 418)),
 (aa "P_METHOD",421,(.int (4) 420)),
 (aa "P_PRIVATE",423,(.int (8) 422)),
 (aa "P_PROTECTED",425,(.int (16) 424)),
 (aa "P_GETONLY",427,(.int (32) 426)),
 (aa "V_CO",429,(.int (1) 428)),
 (aa "MAX_UNION",431,(.int (400) 430)),
 (aa "FIRST_ROWS",453,(.ref 147)),
 (aa "LITERAL_ROWS",454,(.ref 148)),
 (aa "MARKED_ROWS",455,(.ref 149)),
 (aa "TypeTable",510,(.ref 180)),
 (aa "Decl",555,(.ref 201)),
 (aa "str_type",565,(.ref 213)),
 (aa "num_type",575,(.ref 221)),
 (aa "bool_type",585,(.ref 229)),
 (aa "ref_type",594,(.ref 236)),
 (aa "sorted_props",600,(.ref 241)),
 (aa "obj_type",614,(.ref 253)),
 (aa "func_type",622,(.ref 260)),
 (aa "new_decl",632,(.ref 267)),
 (aa "parts_of",641,(.ref 274)),
 (aa "whole_of_row",649,(.ref 281)),
 (aa "regular_twin",658,(.ref 288)),
 (aa "join_bools",665,(.ref 295)),
 (aa "stays_beside",674,(.ref 302)),
 (aa "top_of",682,(.ref 309)),
 (aa "union",688,(.ref 314)),
 (aa "add_undef",696,(.ref 321)),
 (aa "is_literal",704,(.ref 328)),
 (aa "is_unit",712,(.ref 335)),
 (aa "is_fresh",721,(.ref 342)),
 (aa "regular_one",729,(.ref 349)),
 (aa "R_ASSIGN",733,(.int (1) 732)),
 (aa "R_COMPARE",735,(.int (2) 734)),
 (aa "R_IDENT",737,(.int (3) 736)),
 (aa "R_SUBTYPE",739,(.int (4) 738)),
 (aa "RULE_MEET",741,(.int (1) 740)),
 (aa "RULE_DEFERRED",743,(.int (2) 742)),
 (aa "RULE_SIG",745,(.int (3) 744)),
 (aa "RULE_LIST",747,(.int (4) 746)),
 (aa "RULE_OBJECT",749,(.int (5) 748)),
 (aa "RULE_CHOICE",751,(.int (6) 750)),
 (aa "RULE_CALLS",753,(.int (8) 752)),
 (aa "RULE_INDEX",755,(.int (10) 754)),
 (aa "RULE_REFS",757,(.int (11) 756)),
 (aa "RULE_PLACES",759,(.int (12) 758)),
 (aa "RULE_WORD",761,(.int (14) 760)),
 (aa "VALUE_ROWS",762,(.ref 350)),
 (aa "LIST_ROWS",763,(.ref 351)),
 (aa "SHAPED_ROWS",764,(.ref 352)),
 (aa "DEFERRED_ROWS",765,(.ref 353)),
 (aa "OPEN_ROWS",766,(.ref 355)),
 (aa "MAX_OPEN",768,(.int (60) 767)),
 (aa "RelRule",837,(.ref 400)),
 (aa "Rel",929,(.ref 463)),
 (aa "by_rule",940,(.ref 474)),
 (aa "silent_with",949,(.ref 481)),
 (aa "twin_of",956,(.ref 488)),
 (aa "cut_back",964,(.ref 495)),
 (aa "settled",972,(.ref 502)),
 (aa "ask_kinds",983,(.ref 509)),
 (aa "kept",995,(.ref 516)),
 (aa "close_trail",1004,(.ref 523)),
 (aa "tells",1011,(.ref 530)),
 (aa "taken_wider",1020,(.ref 537)),
 (aa "slot_notes",1031,(.ref 544)),
 (aa "all_related",1041,(.ref 551)),
 (aa "simple_related",1054,(.ref 558)),
 (aa "tops_related",1063,(.ref 565)),
 (aa "unknown_told",1072,(.ref 572)),
 (aa "is_numeric_enum",1079,(.ref 579)),
 (aa "values_related",1090,(.ref 586)),
 (aa "number_to_enum",1100,(.ref 593)),
 (aa "structured",1112,(.ref 600)),
 (aa "rule_for",1120,(.ref 607)),
 (aa "from_union",1130,(.ref 614)),
 (aa "some_part",1142,(.ref 621)),
 (aa "lay_again",1151,(.ref 628)),
 (aa "to_union",1163,(.ref 635)),
 (aa "same_kind",1175,(.ref 642)),
 (aa "each_in",1185,(.ref 649)),
 (aa "MOST_PLAIN",1189,(.int (40) 1188)),
 (aa "PLAIN_ROWS",1190,(.ref 650)),
 (aa "plain_shape",1200,(.ref 657)),
 (aa "base_did",1209,(.ref 664)),
 (aa "MOST_ROUNDS",1213,(.int (200) 1212)),
 (aa "MOST_SHAPES",1215,(.int (40) 1214)),
 (aa "Thin",1385,(.ref 793)),
 (aa "RefHost",1439,(.ref 835)),
 (aa "find_prop",1448,(.ref 844)),
 (aa "prop_row",1459,(.ref 851)),
 (aa "read_type",1467,(.ref 858)),
 (aa "has_base",1473,(.ref 863)),
 (aa "is_weak",1481,(.ref 868)),
 (aa "shows_nothing",1491,(.ref 875)),
 (aa "is_weak_kind",1497,(.ref 880)),
 (aa "weak_fault",1503,(.ref 885)),
 (aa "MAX_ROAD",1507,(.int (24) 1506)),
 (aa "LENGTH_CHANGERS",1512,(.ref 886)),
 (aa "did_of",1519,(.ref 893)),
 (aa "rises",1532,(.ref 900)),
 (aa "too_deep",1542,(.ref 907)),
 (aa "objects_related",1555,(.ref 914)),
 (aa "refs_related",1569,(.ref 921)),
 (aa "opened",1581,(.ref 928)),
 (aa "is_readonly",1588,(.ref 935)),
 (aa "weak_asked",1596,(.ref 942)),
 (aa "shape_related",1609,(.ref 949)),
 (aa "relshape_within_literal",1615,(.ref 954)),
 (aa "rest_related",1625,(.ref 961)),
 (aa "lacking",1634,(.ref 968)),
 (aa "owners_fit",1646,(.ref 975)),
 (aa "marks_fit",1656,(.ref 982)),
 (aa "loss_notes",1666,(.ref 989)),
 (aa "prop_related",1679,(.ref 996)),
 (aa "same_objects",1690,(.ref 1003)),
 (aa "same_shapes",1703,(.ref 1010)),
 (aa "same_prop",1714,(.ref 1017)),
 (aa "RelshapeObjectRule",1750,(.ref 1041)),
 (aa "install_rel_objects",1757,(.ref 1050)),
 (aa "_law_masks",1776,(.ref 1051)),
 (aa "_law_draw",1787,(.ref 1058)),
 (aa "_law_norm",1794,(.ref 1065)),
 (aa "_law_kind",1800,(.ref 1070)),
 (aa "_law_prop",1812,(.ref 1077)),
 (aa "_law_moved",1818,(.ref 1082)),
 (aa "_law_other",1824,(.ref 1087)),
 (aa "_law_nodes",1830,(.ref 1092)),
 (aa "_law_read",1837,(.ref 1099)),
 (aa "_law_count",1843,(.ref 1104)),
 (aa "_law_alike",1849,(.ref 1109)),
 (aa "_law_twins",1855,(.ref 1114)),
 (aa "_law_table",1866,(.ref 1121)),
 (aa "_law_atom",1875,(.ref 1128)),
 (aa "_law_type",1881,(.ref 1133)),
 (aa "_law_shape",1887,(.ref 1138)),
 (aa "_law_told",1897,(.ref 1145)),
 (aa "_law_rel",1906,(.ref 1152)),
 (aa "law",1912,(.ref 1157))]
noncomputable def fI(P:Params)(nm:Value)(k:Nat):Obj:={cls:=.type "dict",data:=.dict (AT P ((aa "__name__",165,nm)::EN.take (k-1))).toArray k}
noncomputable def Vz:List (Int×Nat):=[(1,20),(11,27),(16,48),(21,68),(26,88),(85,155),(111,190),(129,212),(131,220),(133,228),(135,235),(137,240),(142,252),(144,259),(146,266),(150,273),(157,280),(166,287),(171,294),(175,301),(179,308),(184,313),(201,320),(203,327),(205,334),(207,341),(210,348),(236,361),(252,410),(287,473),(290,480),(295,487),(301,494),(305,501),(310,508),(328,515),(350,522),(356,529),(358,536),(361,543),(367,550),(372,557),(388,564),(405,571),(412,578),(414,585),(428,592),(435,599),(444,606),(454,613),(462,620),(476,627),(482,634),(495,641),(504,648),(512,656),(527,663),(533,670),(588,803),(604,843),(609,850),(617,857),(619,862),(631,867),(635,874),(643,879),(648,884),(656,892),(658,899),(666,906),(673,913),(685,920),(695,927),(707,934),(709,941),(711,948),(722,953),(731,960),(737,967),(748,974),(756,981),(762,988),(767,995),(785,1002),(793,1009),(805,1016),(811,1023),(820,1049),(824,1057),(829,1064),(839,1069),(845,1076),(850,1081),(853,1086),(862,1091),(867,1098),(869,1103),(871,1108),(883,1113),(894,1120),(908,1127),(916,1132),(919,1137),(922,1144),(938,1151),(942,1156)]
noncomputable def gw(k:Nat):Obj:={cls:=.none,data:=.fields ((Vz.take k).flatMap λp=>[.int p.1 0,.int 0 0,.ref p.2]).toArray}
noncomputable def ev(P:Params):Obj:={cls:=.none,data:=.dict (AT P [(aa "type.__subclasses__.Exception.0",235,(.int (39) 0)),(aa "type.__subclasses__.Exception.n",236,(.int (1) 0))]).toArray 2}
noncomputable def EO(P:Params):Obj:=
 {cls:=.type "dict",data:=.dict (AT P [
 (aa "__module__",776,(.str (aa "kindkeep.relbase") 730)),
 (aa "__firstlineno__",780,(.int (236) 779)),
 (aa "holds",790,(.ref 369)),
 (aa "loose",800,(.ref 376)),
 (aa "sig",810,(.ref 383)),
 (aa "blank",819,(.ref 390)),
 (aa "tells",829,(.ref 397)),
 (aa "__static_attributes__",830,(.ref 398)),
 (aa "__dict__",832,(.ref 401)),
 (aa "__weakref__",834,(.ref 402)),
 (aa "__doc__",835,.none)]).toArray 4}
noncomputable def EP:Obj:={cls:=.type "type",data:=.cls {name:=aa "RelRule",bases:=[.type "object"],mro:=[.ref 400,.type "object"],ns:=399,qualname:=aa "RelRule"},slots:= #[none,none,(some<|.str (aa "RelRule") 769),(some<|.str (aa "RelRule") 777),(some<|.builtin "object.__new__"),(some<|.bool true)]}
noncomputable def KV:List (Nat×List I):=[(96,[]),(103,[]),(117,[])]
noncomputable def KW:List fp:=(kT.drop 0).take 3
noncomputable def KX:List (Nat×I):=[]
noncomputable def KY:List (List Nat×Nat×Nat):=[([120,119],0,120)]
noncomputable def KZ:List (Nat×List I):=[(163,[]),(170,[]),(177,[]),(198,[])]
noncomputable def K0:List fp:=(kT.drop 3).take 4
noncomputable def K1:List (Nat×I):=[(147,.ak [.ak [.int<|1,.str<|aa "any"],.ak [.int<|1,.str<|aa "unknown"],.ak [.int<|1,.str<|aa "never"],.ak [.int<|1,.str<|aa "void"],.ak [.int<|1,.str<|aa "undefined"],.ak [.int<|1,.str<|aa "null"],.ak [.int<|1,.str<|aa "string"],.ak [.int<|1,.str<|aa "number"],.ak [.int<|2,.int<|0,.int<|0],.ak [.int<|2,.int<|1,.int<|0],.ak [.int<|1,.str<|aa "object"],.ak [.int<|8,.ak [],.ak [],.ak [],.ak [],.ak [],.int<|0],.ak [.int<|6,.ak [.int<|8,.int<|9]],.ak [.int<|1,.str<|aa "error"],.ak [.int<|2,.int<|0,.int<|1],.ak [.int<|2,.int<|1,.int<|1]]),
 (148,.ak [.int<|2,.int<|3,.int<|4,.int<|5]),
 (149,.ak [.int (2),.int (3),.int (4),.int (5),.int (8)])]
noncomputable def K2:List (List Nat×Nat×Nat):=[([180,179],1,180),([201,200],2,201)]
noncomputable def K3:List (Nat×List I):=[(213,[.int<|0]),(221,[.int<|0]),(229,[.int<|0]),(236,[]),(241,[]),(253,[.ak [],.ak [],.ak [],.ak [],.int<|0]),(260,[]),(267,[]),(274,[]),(281,[]),(288,[]),(295,[]),(302,[]),(309,[]),(314,[]),(321,[]),(328,[]),(335,[]),(342,[]),(349,[])]
noncomputable def K4:List fp:=(kT.drop 7).take 20
noncomputable def K5:List (Nat×I):=[(351,.ak [.int<|11,.int<|12]),
 (350,.ak [.int<|1,.int<|2,.int<|3,.int<|4,.int<|5]),
 (353,.ak [.int<|10,.int<|14,.int<|15,.int<|16,.int<|17,.int<|18,.int<|19]),
 (355,.ak [.int<|6,.int<|7,.int<|10,.int<|14,.int<|15,.int<|16,.int<|17,.int<|18,.int<|19]),
 (352,.ak [.int (8),.int (9)])]
noncomputable def K6:List (List Nat×Nat×Nat):=[]
noncomputable def K7:List (Nat×List I):=[(369,[]),(383,[]),(418,[]),(425,[]),(432,[]),(439,[]),(446,[]),(453,[])]
noncomputable def K8:List fp:=(kT.drop 27).take 8
noncomputable def K9:List (Nat×I):=[]
noncomputable def La:List (List Nat×Nat×Nat):=[([463,462],3,463)]
noncomputable def Lb:List (Nat×List I):=[(474,[]),(481,[]),(488,[]),(495,[]),(502,[]),(509,[]),(516,[]),(523,[]),(530,[]),(537,[]),(544,[]),(551,[]),(558,[]),(565,[]),(572,[]),(579,[]),(586,[]),(593,[]),(600,[]),(607,[]),(614,[]),(621,[]),(628,[]),(635,[]),(642,[]),(649,[])]
noncomputable def Lc:List fp:=(kT.drop 35).take 26
noncomputable def Ld:List (Nat×I):=[]
noncomputable def Le:List (List Nat×Nat×Nat):=[]
noncomputable def Lf:List (Nat×List I):=[(657,[]),(664,[]),(678,[]),(685,[]),(720,[]),(783,[]),(811,[]),(818,[])]
noncomputable def Lg:List fp:=(kT.drop 61).take 8
noncomputable def Lh:List (Nat×I):=[(650,.ak [.int<|1,.int<|2,.int<|3,.int<|4,.int<|5])]
noncomputable def Li:List (List Nat×Nat×Nat):=[([835,834,793,792],4,835)]
noncomputable def Lj:List (Nat×List I):=[(844,[]),(851,[]),(858,[]),(863,[]),(868,[]),(875,[]),(880,[]),(885,[]),(893,[]),(900,[]),(907,[]),(914,[]),(921,[]),(928,[]),(935,[]),(942,[]),(949,[])]
noncomputable def Lk:List fp:=(kT.drop 69).take 17
noncomputable def Ll:List (Nat×I):=[(886,.ak [.str<|aa "pop",.str<|aa "push",.str<|aa "reverse",.str<|aa "shift"])]
noncomputable def Lm:List (List Nat×Nat×Nat):=[]
noncomputable def EQ:List (Nat×List I):=[(954,[]),(961,[]),(968,[]),(975,[]),(982,[]),(989,[]),(996,[]),(1003,[]),(1010,[]),(1017,[]),(1031,[]),(1050,[])]
noncomputable def ER:List fp:=(kT.drop 86).take 12
noncomputable def ES:List (Nat×I):=[]
noncomputable def ET:List (List Nat×Nat×Nat):=[([1041,1040,400,399],5,1041)]
noncomputable def Ln:List (Nat×List I):=[(1058,[]),(1065,[]),(1070,[]),(1077,[]),(1082,[]),(1087,[]),(1092,[]),(1099,[]),(1104,[]),(1109,[]),(1114,[]),(1121,[]),(1128,[]),(1133,[]),(1138,[]),(1145,[]),(1152,[]),(1157,[])]
noncomputable def Lo:List fp:=(kT.drop 98).take 18
noncomputable def Lp:List (Nat×I):=[(1051,.ak [.int<|1,.int<|2,.int<|4,.int<|8,.int<|3,.int<|32,.int<|36,.int<|192,.int<|0,.int<|256,.int<|512,.int<|513,.int<|1024,.int<|2048,.int<|4096,.int<|64])]
noncomputable def Lq:List (List Nat×Nat×Nat):=[]
noncomputable def x9:List (Nat×List I):=KV++KZ++K3++K7++Lb++Lf++Lj++EQ++Ln
noncomputable def AU:List fp:=KW++K0++K4++K8++Lc++Lg++Lk++ER++Lo
noncomputable def Lr:List (Nat×I):=KX++K1++K5++K9++Ld++Lh++Ll++ES++Lp
noncomputable def EU:List (List Nat×Nat×Nat):=KY++K2++K6++La++Le++Li++Lm++ET++Lq
noncomputable def Ls:Obj:={cls:=.type "code",data:=.fields #[.str (aa "<module>") 182,.str (aa "<module>") 183,.str (aa "/claim/cut.py") 184,.int 1 0,.int 0 0,.int 0 0,.int 0 0,.int 0 0,.ref 11,.bool false,.int 181 0,.ref 12,.none,.none,.none,.none,.int 185 0,.int 1 0,.str (aa "/claim/cut.py") 186]}
noncomputable def gW(w:World)(aF cP k5:Obj)(f:Nat->Obj)(i:Nat):Obj:=cond (Nat.beq i 3) cP<|cond (Nat.beq i 12) k5<|cond (Nat.beq i 2) aF<|cond (Nat.beq i 0) (boot_o_0 w.params)<|cond (Nat.beq i 4) (boot_o_4 w.params)<|cond (Nat.beq i 13) Ls<|cond (Nat.beq i 1) (boot_o_1 w.params)<|f i
noncomputable def AV(w:World)(f:Nat->Obj)(i:Nat):Obj:=cond (Nat.beq i 399) (EO w.params)<|cond (Nat.beq i 400) EP<|f i
noncomputable def lB(w:World)(aF cP k5:Obj):List Obj:=[boot_o_0 w.params,boot_o_1 w.params,boot_o_4 w.params,Ls,aF,cP,k5]
noncomputable def qZ(o:Option Obj):Option Obj:=match o with
 |some ⟨.type t,d,nE,eS⟩=>cond (t=="list") none<|some ⟨.type t,d,nE,eS⟩
 |x=>x
noncomputable def ud(h:Heap):g7:=λa=>qZ<|h.get? a
noncomputable def si(n:Nat)(ku:Nat->Bool)(F:Nat->Obj):g7:=λa=>cond (Nat.ble 15 a&&Nat.blt a n&& !ku a) (qZ<|alive<|F a) none
noncomputable def sj(T:BT)(a:Nat):Obj:=(T.get a).getD default
noncomputable def iu(n:Nat)(skip:Nat->Bool):List Nat:=(List.range n).filter λa=>Nat.ble 15 a&& !skip a
noncomputable def jl:Nat->Bool:=λB=>false
noncomputable def j7:Nat->Bool:=λa=>Nat.beq a 400
noncomputable def k6(f:Nat):Nat:=((x9[f]?).map (·.1)).getD 0
noncomputable def q0(K:Frag)(k aI:Nat):Bool:=plainGet K aI ""&&hasDictIn K aI&&findIn K (.ref aI) "__setattr__"==some (some<|.builtin "object.__setattr__")&&plainOver K aI&&makesIn K aI&&keepIn K (.ref aI)&&
  (match oh k with
  |some f=>findIn K (.ref aI) "__init__"==some (some<|.ref<|k6 f)
  |none=>findIn K (.ref aI) "__init__"==some (some (.builtin "object.__init__")))&&
  fr.zipIdx.all λp=>match dw k p.2 with
  |some f=>findIn K (.ref aI) p.1==some (some<|.ref<|k6 f)
  |none=>findIn K (.ref aI) p.1==some none
noncomputable def VA(g:g7)(as:List Nat)(k aI:Nat):Bool:=q0 (md g as) k aI
noncomputable def oO(n:Nat)(ku:Nat->Bool)(as xs:List Nat)(e7:List (Nat×List I))(el:g7->Bool)(r:Flow×SharedT×Code×Pos):=(r.1,r.2.2,r.2.1.n,r.2.1.life,r.2.1.gens,r.2.1.drawn,r.2.1.toks,r.2.1.os,[0,1,4,13,2,3,12].map<|sj r.2.1.tree,as.map<|sj r.2.1.tree,xs.map<|sj r.2.1.tree,e7.map<|λp=>pR G (si n ku<|sj r.2.1.tree) p.1 p.2,el<|si n ku<|sj r.2.1.tree)
noncomputable def oP(ts:List (Nat×I))(cs:List (List Nat×Nat×Nat))(g:g7):Bool:=ts.all (λp=>ub g 6 (.ref p.1) p.2)&&cs.all λp=>VA g p.1 p.2.1 p.2.2
def Lu{p:Nat}(h:i+1<p*2)(q:i%2=1):i/2+1<p/\2*(i/2)+1=i:=
 have e:2*(i/2)+1=i:=(ai (2*(i/2)+·) q).symm.trans<|Nat.div_add_mod i 2
 ⟨Nat.lt_of_mul_lt_mul_right (a:=2) (c1 (cM ((Nat.mul_comm _ 2).trans (ai (·+1) e))) h),e⟩
def Lv{p:Nat}(h:i+1<p*2)(h0:i≠0)(q:¬i%2=1):i/2-1+1<p/\2*(i/2-1)+2=i:=by
 have e:2*(i/2)=i:=(ai (2*(i/2)+·)<|(Nat.mod_two_eq_zero_or_one i).resolve_right q).symm.trans<|Nat.div_add_mod i 2;cases m:i/2 with
 |zero=>exact absurd (br e (ai (2*·) m)) h0
 |succ k=>rw[m]at e;exact⟨Nat.lt_of_mul_lt_mul_right (a:=2)<|c1 (cM<|(Nat.mul_comm _ 2).trans e)<|Nat.lt_of_succ_lt h,e⟩
def EV(d:Nat):∀{g:Nat->Obj} {i:Nat},i+1<2^d->(uc d g).get i=some (g i):=by
 induction d with
 |zero=>exactλh=>absurd (Nat.lt_of_succ_lt_succ h)<|t7 _
 |succ d ay=>
  intro g i h;refine V (BT.get_node ..) ?_;by_cases h0:i=0
  ·exact V (bh h0)<|ai (λk=>some<|g k) h0.symm
  ·refine V (bH h0) ?_;by_cases Y:i%2=1
   ·exact V (bh Y)<|(ay (g:=λi=>g<|2*i+1) (Lu h Y).1).trans<|ai (λk=>some<|g k) (Lu h Y).2
   ·exact V (bH Y)<|(ay (g:=λi=>g<|2*i+2) (Lv h h0 Y).1).trans<|ai (λk=>some<|g k) (Lv h h0 Y).2
def VB{T a7:BT}{n:Nat}{life:Life}(h:∀i,i<n->(T.get i).getD default=(a7.get i).getD default):absHeap T n life=absHeap a7 n life:=ai (λl:List Obj=>Heap.mk l.toArray life)<|tL λi ah=>h i<|pH.mp ah
def pS{c:Nat}{e x y:Obj}(h:i=c->e=y)(k:x=y):cond (Nat.beq i c) e x=y:=by
 cases q:Nat.beq i c with
 |true=>exact h<|Nat.eq_of_beq_eq_true q
 |false=>exact k
def Lw{F:Nat->Obj}(h:[0,1,4,13,2,3,12].map F=lB w aF cP k5)(i:Nat):gW w aF cP k5 F i=F i:=h2 h λh0 h=>h2 h λY h=>h2 h λcq h=>h2 h λj8 h=>h2 h λae h=>h2 h λba h=>h2 h λEW B=>pS (λq=>q▸ba.symm)<|pS (λq=>q▸EW.symm)<|pS (λq=>q▸ae.symm)<|pS (λq=>q▸h0.symm)<|pS (λq=>q▸cq.symm)<|pS (λq=>q▸j8.symm)<|pS (λq=>q▸Y.symm) rfl
def ue{c:Nat}{e x y:Obj}(h:15<=i)(ag:c<15)(k:x=y):cond (Nat.beq i c) e x=y:=pS (λq=>absurd (c7 ag h)<|q▸Nat.lt_irrefl i) k
def pT{f:Nat->Obj}(h:15<=i):gW w aF cP k5 f i=f i:=ue h (by decide) (ue h (by decide)<|ue h (by decide)<|ue h (by decide)<|ue h (by decide)<|ue h (by decide)<|ue h (by decide) rfl)
def VC{n:Nat}{a:Nat}(EX:15<=a)(hn:a<n)(aJ:skip a=false):a∈iu n skip:=r6.mpr ⟨pH.mpr hn,dI (Nat.ble_eq_true_of_le EX)<|V aJ rfl⟩
noncomputable abbrev ya(g:Nat->Obj)(n tk:Nat)(os:OsState):Shared:=⟨absHeap (uc 11 g) n {},#[],{},tk,os⟩
noncomputable abbrev pU:Option Value:=some<|.ref 6
noncomputable abbrev sk:List Frame:=[topFrame ⟨0,0,0,0⟩]
def VD{n:Nat}{r:SharedT}(aD:r.n=n)(DC:r.life={})(Lx:r.gens= #[])(et:r.drawn={})(j0:r.toks=tk)(v0:r.os=os)(dp:[0,1,4,13,2,3,12].map (sj r.tree)=lB w aF cP k5)(hn:n<2047):
  r.abs=ya (gW w aF cP k5<|sj r.tree) n tk os:=by
 obtain⟨T,m,life,gens,drawn,toks,lC⟩:=r;dsimp only at aD DC Lx et j0 v0;subst aD DC Lx et j0 v0;exact ai (λh=>Shared.mk h #[] {} toks lC)<|VB λi ah=>(Lw dp i).symm.trans<|V (EV 11<|tV<|ea ah hn) rfl
def VE{α β kP yb:Type}{a EY:α}{b b':β}{c:kP}{d:yb}{q:kP×yb}(h:a=EY)(k:b=b')(l:q=(c,d)):some (a,b,q)=some (EY,b',c,d):=by subst h k l;rfl
def q1{g Ly:Nat->Obj}{n a b fuel EZ:Nat}{pos:Pos}{xs:List Nat}{ys:List Obj}{bs:List (Option fp)}{el:g7->Bool}(h:(mN w fuel (me g n tk os) a b pos).map (oO eH ku (iu n skip) xs e7 el)=some (.next,(ih,pos'),eH,{},#[],{},EZ,os,lB w aF cP k5,(iu n skip).map g,ys,bs,true))(hn:eH<2047)(bA:∀x,15<=x->g x=Ly x)(k:∀F:Nat->Obj,segRun treeTable e6 w 11 pU 1 fuel (ya g n tk os) (piecesOf (eS a b) sh ih pos sk)=some (.next,ya (gW w aF cP k5 F) eH EZ os,ih,pos')->
   (∀x,15<=x->x<n->skip x=false->F x=Ly x)->xs.map F=ys->e7.map (λp=>pR G (si eH ku F) p.1 p.2)=bs->el (si eH ku F)=true->
   (∀{α:Type} (look:Shared->α) (v:α),(mN w fuel (me g n tk os) a b pos).map (λr=>look r.2.1.abs)=some v->look (ya (gW w aF cP k5 F) eH EZ os)=v)->R):R:=by
 refine dt h λr aH aA=>jw aA λaD aA=>jw aA λaF aA=>jw aA λcP aA=>jw aA λet aA=>jw aA λj0 aA=>jw aA λv0 aA=>jw aA λVF aA=>jw aA λVG aA=>jw aA λdp aA=>jw aA λaP aA=>jw aA λac aA=>jw aA λhf ag=> ?_;have aJ:=VD cP et j0 v0 VF VG dp hn;have run:segRunT treeTable e6 w 11 pU 1 fuel (me g n tk os) (piecesOf (eS a b) sh ih pos sk)=some (r.1,r.2.1,r.2.2.1,r.2.2.2):=V PySem.W.Fast.te10110043849684766642<|V PySem.W.Fast.te14364793385576792824 aH;exact k (sj r.2.1.tree) ((segRun_of run).trans<|VE aD aJ aF) (λx Y ae ba=>(List.map_inj_left.mp aP x<|VC Y ae ba).trans<|bA x Y) ac hf ag λlook v ao=>eF aJ<|dt ao λr' mO q=>(bp<|br aH mO)▸q
def q2{r:Shared}{a b fuel N:Nat}{pos:Pos}(h:segRun treeTable e6 w 11 pU 1 fuel s (piecesOf (eS a b) sh ih pos sk)=some (.next,aY,ih,pos'))(hab:a<=b)(k:topRun treeTable e6 w 11 pU N aY (restOf (stmts.drop b) sh ih pos' sk)=some r):topRun treeTable e6 w 11 pU (fuel+N) s (restOf (stmts.drop a) sh ih pos sk)=some r:=V (show stmts.drop a=eS a b++stmts.drop b from(List.take_append_drop (b-a)<|stmts.drop a).symm.trans (ai (eS a b++·) (List.drop_drop.trans (ai (stmts.drop ·)<|Nat.add_sub_cancel' hab))))<|piece_app h k
def VH(w:World)(os:OsState)(f:Nat->Obj):(mN w 1142 (me (gW w (boot_o_2 w.params) (fI w.params (.str (aa "__main__") 164) 9) (gw 0) f) 15 187 os) 0 12 ⟨0,0,0,0⟩).map (oO 125 j7 (iu 15 jl) [] KV<|oP KX KY)=
  some (.next,(ih,⟨26,0,38,28⟩),125,{},#[],{},346,os,lB w (ev w.params) (fI w.params (.str (aa "kindkeep.diags") 194) 20)<|gw 5,(iu 15 jl).map<|gW w (boot_o_2 w.params) (fI w.params (.str (aa "__main__") 164) 9) (gw 0) f,[],KW.map some,true):=by kernel_rfl
def VI(w:World)(os:OsState)(f:Nat->Obj):(mN w 1071 (me (gW w (ev w.params) (fI w.params (.str (aa "kindkeep.diags") 194) 20) (gw 5) f) 125 346 os) 12 60 ⟨26,0,38,28⟩).map (oO 206 j7 (iu 125 jl) [] KZ<|oP K1 K2)=
  some (.next,(ih,⟨111,0,128,20⟩),206,{},#[],{},556,os,lB w (ev w.params) (fI w.params (.str (aa "kindkeep.types") 346) 67)<|gw 7,(iu 125 jl).map<|gW w (ev w.params) (fI w.params (.str (aa "kindkeep.diags") 194) 20) (gw 5) f,[],K0.map some,true):=by kernel_rfl
def VJ(w:World)(os:OsState)(f:Nat->Obj):(mN w 882 (me (gW w (ev w.params) (fI w.params (.str (aa "kindkeep.types") 346) 67) (gw 7) f) 206 556 os) 60 102 ⟨111,0,128,20⟩).map (oO 356 j7 (iu 206 jl) [] K3<|oP K5 K6)=
  some (.next,(ih,⟨235,0,235,8⟩),356,{},#[],{},769,os,lB w (ev w.params) (fI w.params (.str (aa "kindkeep.relbase") 730) 108)<|gw 27,(iu 206 jl).map<|gW w (ev w.params) (fI w.params (.str (aa "kindkeep.types") 346) 67) (gw 7) f,[],K4.map some,true):=by kernel_rfl
def VK(w:World)(os:OsState)(f:Nat->Obj):(mN w 792 (me (gW w (ev w.params) (fI w.params (.str (aa "kindkeep.relbase") 730) 108) (gw 27) f) 356 769 os) 102 104 ⟨235,0,235,8⟩).map (oO 468 j7 (iu 356 jl) [399,400] K7<|oP K9 La)=
  some (.next,(ih,⟨252,0,286,16⟩),468,{},#[],{},930,os,lB w (ev w.params) (fI w.params (.str (aa "kindkeep.relbase") 730) 110)<|gw 29,(iu 356 jl).map<|gW w (ev w.params) (fI w.params (.str (aa "kindkeep.relbase") 730) 108) (gw 27) f,[EO w.params,EP],K8.map some,true):=by kernel_rfl
def VL(w:World)(os:OsState)(f:Nat->Obj):(mN w 833 (me (gW w (ev w.params) (fI w.params (.str (aa "kindkeep.relbase") 730) 110) (gw 29) f) 468 930 os) 104 130 ⟨252,0,286,16⟩).map (oO 650 j7 (iu 468 jl) [] Lb<|oP Ld Le)=
  some (.next,(ih,⟨504,0,508,15⟩),650,{},#[],{},1186,os,lB w (ev w.params) (fI w.params (.str (aa "kindkeep.relbase") 730) 136)<|gw 55,(iu 468 jl).map<|gW w (ev w.params) (fI w.params (.str (aa "kindkeep.relbase") 730) 110) (gw 29) f,[],Lc.map some,true):=by kernel_rfl
def VM(w:World)(os:OsState)(f:Nat->Obj):(mN w 1226 (me (gW w (ev w.params) (fI w.params (.str (aa "kindkeep.relbase") 730) 136) (gw 55) f) 650 1186 os) 130 140 ⟨504,0,508,15⟩).map (oO 838 j7 (iu 650 jl) [] Lf<|oP Lh Li)=
  some (.next,(ih,⟨588,0,603,17⟩),838,{},#[],{},1440,os,lB w (ev w.params) (fI w.params (.str (aa "kindkeep.hosts") 1210) 144)<|gw 59,(iu 650 jl).map<|gW w (ev w.params) (fI w.params (.str (aa "kindkeep.relbase") 730) 136) (gw 55) f,[],Lg.map some,true):=by kernel_rfl
def VN(w:World)(os:OsState)(f:Nat->Obj):(mN w 571 (me (gW w (ev w.params) (fI w.params (.str (aa "kindkeep.hosts") 1210) 144) (gw 59) f) 838 1440 os) 140 161 ⟨588,0,603,17⟩).map (oO 950 j7 (iu 838 jl) [] Lj<|oP Ll Lm)=
  some (.next,(ih,⟨711,0,721,39⟩),950,{},#[],{},1610,os,lB w (ev w.params) (fI w.params (.str (aa "kindkeep.relshape") 1504) 163)<|gw 76,(iu 838 jl).map<|gW w (ev w.params) (fI w.params (.str (aa "kindkeep.hosts") 1210) 144) (gw 59) f,[],Lk.map some,true):=by kernel_rfl
def VO(w:World)(os:OsState)(f:Nat->Obj):(mN w 637 (me (gW w (ev w.params) (fI w.params (.str (aa "kindkeep.relshape") 1504) 163) (gw 76)<|AV w f) 950 1610 os) 161 173 ⟨711,0,721,39⟩).map (oO 1051 jl (iu 950 j7) [] EQ<|oP ES ET)=
  some (.next,(ih,⟨820,0,821,49⟩),1051,{},#[],{},1758,os,lB w (ev w.params) (fI w.params (.str (aa "kindkeep.relshape") 1504) 175)<|gw 88,(iu 950 j7).map<|gW w (ev w.params) (fI w.params (.str (aa "kindkeep.relshape") 1504) 163) (gw 76)<|AV w f,[],ER.map some,true):=by kernel_rfl
def VP(w:World)(os:OsState)(f:Nat->Obj):(mN w 552 (me (gW w (ev w.params) (fI w.params (.str (aa "kindkeep.relshape") 1504) 175) (gw 88) f) 1051 1758 os) 173 193 ⟨820,0,821,49⟩).map (oO 1158 jl (iu 1051 jl) [] Ln<|oP Lp Lq)=
  some (.next,(ih,⟨942,0,991,15⟩),1158,{},#[],{},1913,os,lB w (ev w.params) (fI w.params (.str (aa "law_pq0592_01") 1758) 194)<|gw 106,(iu 1051 jl).map<|gW w (ev w.params) (fI w.params (.str (aa "kindkeep.relshape") 1504) 175) (gw 88) f,[],Lo.map some,true):=by kernel_rfl
noncomputable def mf:Program:={e6 with main:={e6.main with body:=eS 192 193}}
noncomputable def sl:List Str:=(EN.map (·.1)).dropLast
noncomputable def E0(h₀:Heap)(s:Shared):Bool:=staticsOk (importedModules e6.main.body) h₀ s.heap&&namesBound e6 s.heap&&gensDone s&&laidKept h₀ s.heap
def VQ(w:World)(os:OsState)(f:Nat->Obj):(mN w 552 (me (gW w (ev w.params) (fI w.params (.str (aa "kindkeep.relshape") 1504) 175) (gw 88) f) 1051 1758 os) 173 193 ⟨820,0,821,49⟩).map (λr=>(E0 (boot_heap w.params) r.2.1.abs,openSeen mf sl (importedModules e6.main.body) (λB=>true) true r.2.1.abs))=some (true,openGood mf sl):=by kernel_rfl
def VR(w:World)(os:OsState):(topGo treeTable e6 w 11 pU 12 ⟨boot_heap w.params,#[],boot_drawn,boot_toks,os⟩<|topStub e6).map (λr=>(r.2,r.1.heap.objs.size,r.1.heap.life,r.1.gens,r.1.drawn,r.1.toks,r.1.os,[0,1,4,13,2,3,12].map<|λa=>(r.1.heap.objs[a]?).getD default))=
  some (⟨denote treeTable ih,ih,⟨0,0,0,0⟩,sk⟩,15,{},#[],{},187,os,lB w (boot_o_2 w.params) (fI w.params (.str (aa "__main__") 164) 9)<|gw 0):=by kernel_rfl
def VS(w:World)(s:Shared):segRun treeTable e6 w 11 pU 1 1 s (blockOf stmts sh ih ⟨0,0,0,0⟩ sk)=some (.next,s,ih,⟨0,0,0,0⟩):=by kernel_rfl
def VT(w:World)(s:Shared)(p:Pos):topRun treeTable e6 w 11 pU 2 s ⟨doneF .next,ih,p,sk⟩=some s:=by
 obtain⟨h,g,d,t,o⟩:=s
 kernel_rfl
def VU:stmts.drop 193=[]:=by kernel_rfl
def VV{n:Nat}(hn:h.objs.size=n)(ao:h.life={})(aj:n<2047)(dp:[0,1,4,13,2,3,12].map (λa=>(h.objs[a]?).getD default)=lB w aF cP k5):
  h=absHeap (uc 11<|gW w aF cP k5 λa=>(h.objs[a]?).getD default) n {}:=by
 obtain⟨objs,life⟩:=h;dsimp only at hn ao dp;subst ao;refine ai (Heap.mk · {})<|Array.ext_getElem? λi=>V (absHeap_at (uc 11<|gW w aF cP k5 λa=>(objs[a]?).getD default) n {} i) ?_;by_cases ah:i<n
 ·have Y:i<objs.size:=hn▸ah;exact V (bh ah)<|V (EV 11<|tV<|ea ah aj)<|V (show(some<|gW w aF cP k5 (λa=>(objs[a]?).getD default) i).getD default=_ from Lw dp i)<|V (Array.getElem?_eq_getElem Y) rfl
 ·exact V (bH ah)<|Array.getElem?_eq_none<|hn▸Nat.le_of_not_lt ah
def AW{g:Nat->Obj}{n:Nat}(hn:n<2047){a:Nat}(h:a<n):(ya g n tk os).heap.get? a=alive (g a):=abs_get h<|EV 11<|tV<|ea h hn
structure kv(w:World)(h:Heap):Prop where
 gl:h.get? 3=some (fI w.params (.str (aa "law_pq0592_01") 1758) 194)
 VW:h.get? 0=some (boot_o_0 w.params)
 Lz:h.get? 1=some (boot_o_1 w.params)
 pv:x9.map (λp=>pR G (ud h) p.1 p.2)=AU.map some
 LA:∀p∈Lr,ub (ud h) 6 (.ref p.1) p.2=true
 LB:∀p∈EU,q0 (md (ud h) p.1) p.2.1 p.2.2=true
def E1{dQ:Frag}(a9:Sub K dQ){aI:Nat}(h:q0 K k aI):q0 dQ k aI:=by
 refine dI (dI (dI (dI (dI (dI (dI (Vj a9<|bP<|bP<|bP<|bP<|bP<|bP<|bP h)<|Vk a9<|cO<|bP<|bP<|bP<|bP<|bP<|bP h)<|pQ (sg a9)<|cO<|bP<|bP<|bP<|bP<|bP h)<|Vl a9<|cO<|bP<|bP<|bP<|bP h)<|Vn a9<|cO<|bP<|bP<|bP h)<|Vm a9<|cO<|bP<|bP h) ?_)<|nt.mpr λp ab=> ?_
 ·have h:=cO<|bP h;cases q:oh k with
  |some f=>rw[q]at h;exact pQ (sg a9) h
  |none=>rw[q]at h;exact pQ (sg a9) h
 ·have h:=hg (cO h) p ab;cases q:dw k p.2 with
  |some f=>rw[q]at h;exact pQ (sg a9) h
  |none=>rw[q]at h;exact pQ (sg a9) h
def v1(g:g7)(e7:List (Nat×List I))(bs:List fp)(ts:List (Nat×I))(cs:List (List Nat×Nat×Nat)):Prop:=e7.map (λp=>pR G g p.1 p.2)=bs.map some/\(∀p∈ts,ub g 6 (.ref p.1) p.2=true)/\∀p∈cs,q0 (md g p.1) p.2.1 p.2.2=true
def LC{α:Type}{P:α->Prop}{l m:List α}(h:∀x∈l,P x)(k:∀x∈m,P x):∀x∈l++m,P x:=λx ac=>(gb ac).elim (h x)<|k x
def v1.sm{g:g7}{LD:List (Nat×List I)}{bs LF:List fp}{LG:List (Nat×I)}{LH:List (List Nat×Nat×Nat)}(h:v1 g e7 bs ts cs)(k:v1 g LD LF LG LH):v1 g (e7++LD) (bs++LF) (ts++LG) (cs++LH):=⟨iI.trans<|V h.1<|V k.1 iI.symm,LC h.2.1 k.2.1,LC h.2.2 k.2.2⟩
def E2{g:g7}(aB:qX g eO):∀{bs:List fp},e7.map (λp=>pR G g p.1 p.2)=bs.map some->e7.map (λp=>pR G eO p.1 p.2)=bs.map some:=by
 induction e7 with
 |nil=>exact id
 |cons f e7 ay=>
  intro bs h;cases bs with
  |nil=>exact nomatch h
  |cons b bs=>exact h2 h λY ae=>uf.mpr ⟨Vx aB Y,ay ae⟩
def VX{F lz:Nat->Obj}{n:Nat}{g:g7}(h:∀a,15<=a->a<n->ku a=false->lz a=F a)(bA:∀a,15<=a->a<n->g a=qZ (alive<|lz a)):qX (si n ku F) g:=λa o e=>by
 delta si at e;cases ag:Nat.ble 15 a&&Nat.blt a n&& !ku a with
 |false=>rw[ag]at e;exact bf e
 |true=>rw[ag]at e;have Y:=pV<|bP<|bP ag;have ae:a<n:=pV<|cO<|bP ag;exact V (bA a Y ae)<|V (h a Y ae<|(oA _).mp<|cO ag) e
def q3{F lz:Nat->Obj}{n:Nat}{g:g7}{bs:List fp}(bA:∀a,15<=a->a<eH->g a=qZ (alive<|lz a))(h:∀a,15<=a->a<n->ku a=false->lz a=F a)(f:e7.map (λp=>pR G (si n ku F) p.1 p.2)=bs.map some)(c:oP ts cs (si n ku F)=true)(le:n<=eH):v1 g e7 bs ts cs:=
 have aB:=VX (g:=g) h λa Y ae=>bA a Y<|c7 ae le
 ⟨E2 aB f,λp ab=>AS aB 6<|hg (bP c) p ab,λp ab=>E1 (EG aB λB h=>h)<|hg (cO c) p ab⟩
def ug{F g6 cD:Nat->Obj}{n:Nat}{LI q4:Nat->Bool}(f:∀x,15<=x->x<eH->LI x=false->cD x=g6 x)(k:∀x,15<=x->x<n->ku x=false->g6 x=F x)(le:n<=eH)(q:∀x,q4 x=false->LI x=false/\ku x=false):∀x,15<=x->x<n->q4 x=false->cD x=F x:=λx Y ae ba=>(f x Y (c7 ae le) (q x ba).1).trans<|k x Y ae (q x ba).2
def VY{F:Nat->Obj}(h:F 399=EO w.params)(k:F 400=EP):AV w F=F:=funext λi=>pS (λq=>q▸h.symm)<|pS (λq=>q▸k.symm) rfl
noncomputable def E3:Nat:=12+(1+(1142+(1071+(882+(792+(833+(1226+(571+(637+(552+2))))))))))
def VZ(w:World)(os:OsState):∃gN:Shared,topRun treeTable e6 w 11 pU E3 ⟨boot_heap w.params,#[],boot_drawn,boot_toks,os⟩ (topStub e6)=some gN/\E0 (boot_heap w.params) gN=true/\
  openSeen mf sl (importedModules e6.main.body) (λB=>true) true gN=openGood mf sl/\kv w gN.heap:=by
 refine dt (VR w os) λs0 h0 aA=>jw aA λnF aA=>jw aA λeZ aA=>jw aA λhB aA=>jw aA λlD aA=>jw aA λsn aA=>jw aA λv2 aA=>jw aA λLJ dp=> ?_;obtain⟨⟨ab,gens,drawn,toks,lC⟩,t0⟩:=s0;dsimp only at nF eZ hB lD sn v2 LJ dp;subst nF lD sn v2 LJ;generalize hR:(λ(a:Nat)=>(ab.objs[a]?).getD (default:Obj))=V0 at dp;have bM:=VV eZ hB (by decide)<|hR▸dp;rw[hR]at bM;subst bM;refine q1 (VH w lC V0) (by decide) (λB=>pT) λg6 fM gh x0 f0 oQ B=> ?_;refine q1 (VI w lC g6) (by decide) (λB=>pT) λcD bi dJ v3 f1 a6 B=> ?_;refine q1 (VJ w lC cD) (by decide) (λB=>pT) λlA bg fi v5 f2 bS B=> ?_;refine q1 (VK w lC lA) (by decide) (λB=>pT) λAw eA og uh hk d2 B=> ?_;refine q1 (VL w lC Aw) (by decide) (λB=>pT) λV1 dW qu acV f4 eQ B=> ?_;refine q1 (VM w lC V1) (by decide) (λB=>pT) λV2 xT LK acW kx gV B=> ?_;refine q1 (VN w lC V2) (by decide) (λB=>pT) λAX jE AY acX mP gM B=> ?_;have j4:∀x,x<468->15<=x->AX x=Aw x:=λx Y ae=>(AY x ae (c7 Y<|by decide) rfl).trans ((LK x ae (c7 Y<|by decide) rfl).trans<|qu x ae Y rfl);have V3:AV w AX=AX:=h2 uh λr7 uh=>h2 uh λui B=>VY ((j4 399 (by decide)<|by decide).trans r7) ((j4 400 (by decide)<|by decide).trans ui);refine q1 (eF V3 (P:=λf=>(mN w 637 (me (gW w (ev w.params) (fI w.params (.str (aa "kindkeep.relshape") 1504) 163) (gw 76) f) 950 1610 lC) 161 173 ⟨711,0,721,39⟩).map (oO 1051 jl (iu 950 j7) [] EQ<|oP ES ET)=
  some (.next,(ih,⟨820,0,821,49⟩),1051,{},#[],{},1758,lC,lB w (ev w.params) (fI w.params (.str (aa "kindkeep.relshape") 1504) 175) (gw 88),(iu 950 j7).map (gW w (ev w.params) (fI w.params (.str (aa "kindkeep.relshape") 1504) 163) (gw 76) f),[],ER.map some,true)) (VO w lC AX)) (by decide) (λB=>pT) λLL lE V4 acY oR fN B=> ?_
 refine q1 (VP w lC LL) (by decide) (λB=>pT) λV5 v7 LM acZ f8 jk V6=> ?_;have LN:=ug (q4:=j7) LM V4 (by decide) λB h=>⟨rfl,h⟩;have LO:=ug (q4:=j7) LN AY (by decide) λB h=>⟨h,rfl⟩;have LP:=ug (q4:=j7) LO LK (by decide) λB h=>⟨h,rfl⟩;have LQ:=ug (q4:=j7) LP qu (by decide) λB h=>⟨h,rfl⟩;have LR:=ug (q4:=j7) LQ og (by decide) λB h=>⟨h,rfl⟩;have LS:=ug (q4:=j7) LR fi (by decide) λB h=>⟨h,rfl⟩;have V7:=ug (q4:=j7) LS dJ (by decide) λB h=>⟨h,rfl⟩;have look:=V6 (λs=>(E0 (boot_heap w.params) s,openSeen mf sl (importedModules e6.main.body) (λB=>true) true s)) _<|VQ w lC LL;refine⟨_,go_top h0<|piece_block (VS w _)<|q2 (a:=0) fM (by decide)<|q2 bi (by decide)<|q2 bg (by decide)<|q2 eA (by decide)<|q2 dW (by decide)<|q2 xT (by decide)<|q2 jE (by decide)<|q2 lE (by decide)<|q2 v7 (by decide)<|V VU<|VT w _ _,(kO look).1,(kO look).2,?_⟩;have bA:=λa (Y:15<=a) (ae:a<1158)=>ai qZ ((AW (g:=gW w (ev w.params) (fI w.params (.str (aa "law_pq0592_01") 1758) 194) (gw 106) V5) (n:=1158) (tk:=1913) (os:=lC) (by decide) ae).trans<|ai alive<|pT Y);have X:=(((((((v1.sm (q3 bA V7 f0 oQ<|by decide)<|q3 bA LS f1 a6<|by decide).sm<|q3 bA LR f2 bS<|by decide).sm<|q3 bA LQ hk d2<|by decide).sm<|q3 bA LP f4 eQ<|by decide).sm<|q3 bA LO kx gV<|by decide).sm<|q3 bA LN mP gM<|by decide).sm<|q3 bA LM oR fN<|by decide).sm (q3 (ku:=jl) bA (λB B B B=>rfl) f8 jk<|by decide);exact⟨AW (by decide)<|by decide,AW (by decide)<|by decide,AW (by decide)<|by decide,X.1,X.2.1,X.2.2⟩
def LU{α:Type}{t:List (List<|Str×α)}{a:α}(h:zG t x=some a):(x,a)∈t.flatten:=bX h λl ao ac=>List.mem_flatten.mpr ⟨l,dK ao,mem_of_lookup ac⟩
noncomputable def AZ:List Addr:=[120,180,201,463,835,1041]
noncomputable def v8:vo:=⟨AZ,fr⟩
noncomputable def A0:jx:=⟨AU,dw,oh⟩
noncomputable def E4(P:Params):Array DictEntry:=(AT P ((aa "__name__",165,.str (aa "law_pq0592_01") 1758)::EN.take 193)).toArray
noncomputable def LV:mG->Option Value->Bool
 |.val v,some u=>qY u v||Lr.any λt=>u==.ref t.1&&decide (t.2=v)
 |.fn f,some u=>u==.ref (k6 f)
 |.cls k,some u=>(AZ[k]?).any λaI=>u==.ref aI
 |.cx B,none=>true
 |.rK,B=>true
 |B,cr=>false
noncomputable def V8(p:Str×mG):Bool:=match p.2 with
 |.cx b=>bootBuiltins p.1==some (tX b)
 |_=>true
noncomputable def LW(P:Params)(p:Str×mG):Bool:=(p.1 !=("__debug__":Str))&&(p.1 !=("super":Str))&&((p.1 !=("__name__":Str))&&V8 p)&&LV p.2 (nsFind (E4 P) p.1)
def V9(P:Params):(Dc.flatten.all<|LW P)=true:=by kernel_rfl
def Wa(P:Params):(nsFind (E4 P) ("law":Str))=some (.ref 1157):=by kernel_rfl
def Wb:(H3.flatten.all λp=>fr.idxOf? p.1==some p.2)=true:=by kernel_rfl
def Wc:((List.range 6).all λk=>(EU[k]?).any λp=>p.2.1==k&&AZ[k]? ==some p.2.2)=true:=by kernel_rfl
def Wd:fr.length<=1000:=by decide
section
noncomputable def LX:List Nat:=EU.flatMap (·.1)++x9.map (·.1)
noncomputable def yc(au:Heap):Frag:=md au.get? LX
def LY{α:Type}[BEq α]{l:List (α×Nat)}{x:α}{f n:Nat}(a:∀p∈l,p.2<n)(h:l.lookup x=some f):f<n:=by
 induction l with
 |nil=>exact bf h
 |cons p l ay=>
  have h:(match x==p.1 with
   |true=>some p.2
   |false=>l.lookup x)=some f:=h
  cases q:x==p.1 with
  |true=>rw[q]at h;exact bp h▸a _ bo
  |false=>rw[q]at h;exact ay (λp ab=>a p<|bQ _ ab) h
def We{m f:Nat}(h:dw k m=some f):f<116:=LY (l:=H4) (by decide+kernel) h
def Wf{f:Nat}(h:oh k=some f):f<116:=LY (l:=H5) (by decide+kernel) h
def so:x9.length=116/\AU.length=116:=⟨rfl,rfl⟩
def pW(h au:Heap):Prop:=∀b o,h.get? b=some o->(o.cls≠.type "list"\/∀vs n,o.data≠.seq vs n)->au.get? b=some o
def E5{o:Option Obj}{x:Obj}(h:qZ o=some x):o=some x/\x.cls≠.type "list":=by
 cases o with
 |none=>exact bf h
 |some o=>
  obtain⟨c,d,nE,eS⟩:=o;cases c with
  |type t=>
   have h:∀b,(t=="list")=b->cond b none (some ⟨.type t,d,nE,eS⟩)=some x:=λb e=>e▸h;cases ag:t=="list" with
   |true=>exact bf<|h _ ag
   |false=>exact bp (h _ ag)▸⟨rfl,λq=>b7<|br ag<|beq_iff_eq.mpr<|Value.type.inj q⟩
  |_=>exact bp h▸⟨rfl,λq=>nomatch q⟩
section
variable{az:World}{au:Heap}{Wg:ExcName->Option Value}{f:Nat}
def E6(da:pW h au):qX (ud h) au.get?:=λa o e=>da _ _ (E5 e).1<|.inl (E5 e).2
def E7(da:pW h au)(n:h.Ns a m):au.Ns a m:=
 let⟨o,aw,ep,aA,bC,r⟩:=n
 ⟨o,aw,ep,da _ _ aA (.inr λvs n q=>nomatch bC.symm.trans q),bC,r⟩
def LZ(hf:f<116):k6 f=(x9[f]'(so.1▸hf)).1:=by delta k6;exact V (jh<|so.1▸hf) rfl
def L0(cI:kv az h)(da:pW h au)(hf:f<116):∃fn,AU[f]? =some fn/\x6 ⟨e6,w,v8,au⟩ G fn (k6 f)/\∃o,au.get? (k6 f)=some o/\o.cls=.type "function"/\∃fd,o.data=.func fd:=
 have e:=(br ou<|ai (λl=>l[f]?)<|E2 (E6 da) cI.pv).trans ou;have e:=(ai (Option.map _)<|jh<|so.1▸hf).symm.trans<|e.trans<|ai (Option.map some)<|jh<|so.2▸hf
 ⟨_,jh<|so.2▸hf,V (LZ hf)<|Vy (c:=⟨e6,w,v8,au⟩)<|bp e⟩
def Wh(hf:f<116):k6 f∈LX:=V (LZ hf)<|i0 _<|i1 ⟨_,List.getElem_mem<|so.1▸hf,rfl⟩
def L1(cI:kv az h)(da:pW h au)(hf:f<116):∃o,(yc au).lookup (k6 f)=some o/\o.cls=.type "function"/\∃fd,o.data=.func fd:=
 let⟨_,_,_,o,aA,ag⟩:=L0 (w:=az) cI da hf
 ⟨o,KI aA<|Wh hf,ag⟩
def L2(cI:kv az h)(da:pW h au)(hf:f<116):isFn (yc au) (.ref<|k6 f)=true:=
 let⟨o,aA,ag,_⟩:=L1 cI da hf
 beq_iff_eq.mpr ((ai (Option.map λ(x:Obj)=>x.cls) aA).trans<|ai some ag)
def uj(cI:kv az h)(da:pW h au)(eX:AZ[k]? =some aI):q0 (yc au) k aI=true:=by refine(any_some<|hg Wc k<|pH.mpr (h7 eX).1).elim λp q=> ?_;have hm:=dK q.1;obtain rfl:=eq_of_beq<|bP q.2;obtain rfl:=bp<|br eX<|eq_of_beq<|cO q.2;exact E1 (EG (E6 da) λa aU=>jg _<|List.mem_flatMap.mpr ⟨p,hm,aU⟩)<|cI.LB p hm
def Wi(h:q0 K k aI):DE K aI:=have h:=bP<|bP<|bP<|bP h;⟨bP<|bP<|bP h,cO<|bP<|bP h,eq_of_beq<|cO<|bP h,cO h⟩
def L3(h:q0 K k aI):(match oh k with
  |some f=>findIn K (.ref aI) "__init__"==some (some<|.ref<|k6 f)
  |none=>findIn K (.ref aI) "__init__"==some (some (.builtin "object.__init__")))=true:=cO (bP h)
def L4(h:q0 K k aI)(ac:fr.idxOf? x=some i):(match dw k i with
  |some f=>findIn K (.ref aI) x==some (some<|.ref<|k6 f)
  |none=>findIn K (.ref aI) x==some none)=true:=
 let⟨ao,he,_⟩:=xA.mp ac
 hg (cO h) (x,i) (List.mk_mem_zipIdx_iff_getElem?.mpr<|(jh ao).trans<|ai some<|eq_of_beq he)
def L5(cI:kv az h)(bA:h.Ns mainGlobals eg)(x:Str):eg x=nsFind (E4 az.params) x:=by obtain⟨o,aw,ep,aA,bC,B,hf⟩:=bA;obtain rfl:=bp<|br cI.gl aA;exact(hf x).symm.trans (ai (nsFind · x) (Data.dict.inj bC).1.symm)
def yd(cI:kv az h)(bA:h.Ns mainGlobals eg){g:mG}(ac:zG Dc x=some g):LW az.params (x,g)=true/\LV g (eg x)=true:=
 have q:=hg (V9 az.params) _<|LU ac
 ⟨q,V (L5 cI bA x)<|cO q⟩
def Wj(cI:kv az h)(da:pW h au)(T:Top mf loose Wg eg e5 h):fY ⟨e6,w,v8,au⟩ A0 G (yc au) k6 eg e5 where
 cls:=⟨Vo _,λk aI eX=>Wi<|uj cI da eX,λk aI x i eX ac hm=>eq_of_beq ((show dw k i=none from hm)▸L4 (uj cI da eX) ac:)⟩
 fr:=λx k ac=>eq_of_beq<|hg Wb _<|LU ac
 DK:=Wd
 sys:=⟨_,da _ _ cI.Lz<|.inl λq=>absurd (Value.type.inj q)<|by decide⟩
 lim:=let⟨Wk,a,b⟩:=T.nolimit;⟨Wk,E7 da a,b⟩
 g:=E7 da T.g
 b:=E7 da T.b
 Jw:=λx v ac=>by
  have ae:=(yd cI T.g ac).2;cases hm:eg x with
  |none=>exact b7 (hm▸ae:)
  |some u=>refine⟨u,rfl,((qP _ _).mp (hm▸ae:)).elim (λq=>EL 0 q) λq=>(pX.mp q).elim λt q=> ?_⟩;obtain rfl:=eq_of_beq<|bP q.2;exact dx (cO q.2)▸EL 6 (AS (E6 da) 6<|cI.LA t q.1)
 Jx:=λx f ac=>by
  have ae:=(yd cI T.g ac).2;cases hm:eg x with
  |none=>exact b7 (hm▸ae:)
  |some u=>exact ai some<|eq_of_beq (hm▸ae:)
 Jy:=λx k ac=>by
  have ae:=(yd cI T.g ac).2;cases hm:eg x with
  |none=>exact b7 (hm▸ae:)
  |some u=>exact(any_some (hm▸ae:)).elim λaI q=>⟨aI,q.1,ai some<|eq_of_beq q.2⟩
 DL:=λx b ac=>by
  have ae:=yd cI T.g ac;cases hm:eg x with
  |some u=>exact b7 (hm▸ae.2:)
  |none=>exact⟨rfl,(T.builtins x<|bne_iff_ne.mp<|bP<|cO<|bP ae.1).trans<|eq_of_beq<|cO<|cO<|bP ae.1⟩
 Jz:=λx g ac=>have ae:=bP<|bP (yd cI T.g ac).1;⟨(oA _).mp<|bP ae,(oA _).mp<|cO ae⟩
 DM:=λf fn hf=>by
  obtain⟨⟨c,d,nE,eS⟩,aA,B,fd,bC⟩:=L1 cI da<|so.2▸(h7 hf).1;dsimp only at bC;subst bC;unfold keepIn;simp only[aA]
 JA:=λk aI eX=>cO<|bP<|bP<|uj cI da eX
 JB:=λk m f x aI hm ac eX=>⟨eq_of_beq ((show dw k m=some f from hm)▸L4 (uj cI da eX) ac:),L2 cI da<|We hm⟩
 JC:=by exact rfl
 JD:=by exact rfl
 JE:=by exact rfl
 DN:=by exact rfl
def Wl(cI:kv az h)(da:pW h au):AP ⟨e6,w,v8,au⟩ A0 (yc au) k6 where
 made:=λk aI eX=>cO<|bP<|bP<|bP<|uj cI da eX
 init:=λk f aI hf eX=>⟨eq_of_beq ((show oh k=some f from hf)▸L3 (uj cI da eX):),L2 cI da<|Wf hf⟩
 Ky:=λk aI hf eX=>eq_of_beq ((show oh k=none from hf)▸L3 (uj cI da eX):)
def Wm(cI:kv az h)(da:pW h au)(f:Nat)(fn:fp)(hf:A0.pv[f]? =some fn):x6 ⟨e6,w,v8,au⟩ G fn (k6 f):=
 let⟨ac0,Y,ae,_⟩:=L0 (w:=w) cI da (f:=f)<|so.2▸(h7 hf).1
 bp (br Y hf)▸ae
end
end
noncomputable abbrev cH:=PySem.Challenge.rw_pq0592_01
section
def Wn:(chainsOk mf&&opensWell cH.row.prog&&(frees cH.row.toRowW&&cH.row.within.isEmpty))=true:=by kernel_rfl
def Wo:cH.row.toRowW.promised:=⟨[.list []],by kernel_rfl,by kernel_rfl⟩
section
open TablesWhole
def adn{p:Program}(Y:p.modules=[])(ae:p.parses=[])(ba:p.harvested=[])(e:(wSs gather p.main.scope ⟨p.main.scope,[],[],[],none⟩ p.main.scope p.main.body).isEmpty=true)(a:noTwice p.main.scope)(b:wSs TablesWhole.holds p.main.scope ⟨p.main.scope,[],[],[],none⟩ p.main.scope p.main.body=true):p.tablesWhole:=by show(wModule TablesWhole.holds p.main&&(Alg.all TablesWhole.holds (p.modules.map λx=>wModule TablesWhole.holds x.2.2)&&(Alg.all TablesWhole.holds (p.parses.map<|wParse TablesWhole.holds)&&(Alg.all TablesWhole.holds (p.harvested.map<|wParse TablesWhole.holds)&&true))))=true;rw[Y,ae,ba];refine dI (dI a<|dI ?_ rfl) rfl;rw[t9.mp e];exact b
end
def adk:(TablesWhole.wSs TablesWhole.gather cH.row.prog.main.scope ⟨cH.row.prog.main.scope,[],[],[],none⟩ cH.row.prog.main.scope cH.row.prog.main.body).isEmpty=true:=by kernel_rfl
def adl:TablesWhole.noTwice cH.row.prog.main.scope:=by kernel_rfl
def adm:TablesWhole.wSs TablesWhole.holds cH.row.prog.main.scope ⟨cH.row.prog.main.scope,[],[],[],none⟩ cH.row.prog.main.scope cH.row.prog.main.body=true:=by kernel_rfl
def Wp:cH.row.prog.bare:=⟨by kernel_rfl,by kernel_rfl,by kernel_rfl,by kernel_rfl,by kernel_rfl,adn (by kernel_rfl) (by kernel_rfl) (by kernel_rfl) adk adl adm⟩
end
def E8:Prop:=∀zs:List Int,zs.length<=63->∃d S,d<=690/\a0 A0 d 115 [.L 0] [.list<|zs.map .int]=some (.bool true,S)
def kv.keeps(cI:kv w h)(k:∀b o,h.get? b=some o->aO.get? b=some o):kv w aO:=by
 have aB:qX (ud h) (ud aO):=λa o e=>by
  obtain⟨Y,ae⟩:=E5 e;unfold ud at e⊢;refine V (k _ _ Y) ?_;rw[Y]at e;exact e
 exact⟨k _ _ cI.gl,k _ _ cI.VW,k _ _ cI.Lz,E2 aB cI.pv,λp ab=>AS aB 6<|cI.LA p ab,λp ab=>E1 (EG aB λB h=>h)<|cI.LB p ab⟩
def Wq{k:Heap}{P:Params}(x:WellAll P h vs (ns.map .int)):b9 k M vs (ns.map .int):=by
 induction ns generalizing vs with
 |nil=>cases x;exact .nil
 |cons n ns ay=>cases x with
  |cons a b=>cases a;exact .cons (.int _ _)<|ay b
theorem Wr(X:E8){d:DefRec}{L6:List (Str×Expr)}(bC:d.name=("law":Str)):
  WalkO mf sl (λB B=>True) (λB h=>∃az,kv az h) cH.row.toRowW d L6 (λf vs=>PySem.call f vs):=by
 intro w ac1 gN eg e5 L7 cI a o pm cd doc ac2 ac3 aU ac4 Ad vV Ws Wt args vals as Wu ac5 AN Wv ac6;obtain⟨az,cI⟩:=cI;obtain⟨aJ,ab⟩:=pre_splitW Wu;obtain⟨iO,r,rfl,Y,ae⟩:=hasAllW_cons aJ;obtain rfl:=hasAllW_nil ae;obtain⟨xs,rfl,ba⟩:=hasW_list Y;obtain⟨ns,rfl⟩:=items_int ba;have hlen:ns.length<=63:=Nat.le_of_not_lt λag=>by
  change WTm.holds cH.row.toRowW.records (.and (.not (.«lit» (.bool<|decide<|((63:Nat):Int)<((ns.map WData.int).length:Int))))<|.«lit» (.bool true)) ⟨[],none,[],[]⟩=true at ab;rw[ck (hd<|c2 (as:=ns) WData.int▸ag)]at ab;exact b7 ab
 cases Wv with
 |cons hw hn=>
 cases hn;cases hw with
 |@list gc vs B L8 ye=>
 have E9:pW gN.heap (hideAll gN.heap [gc]):=λb o aA ag=>hideAll_get _ aA (by
  intro q;obtain rfl:=bR q;obtain rfl:=bp (br L8 aA);exact ag.elim (λq=>q rfl) λq=>q _ _ rfl)
 have T:=Wj (w:=w) cI E9 L7.T;have df:=Wl (w:=w) cI E9;have vX:=Wm (w:=w) cI E9;obtain⟨kV,S,ac7,ac⟩:=X ns hlen;have rY:a=k6 115:=by exact(Value.ref.inj<|bp<|((L5 cI L7.T.g _).trans<|(ai _ bC).trans<|Wa _).symm.trans Ws).symm
 subst rY;obtain⟨B,oH⟩:=(Vc T df vX kV).1 _ _ _ _ _ ac;have aX:en kV callerA:=⟨by show 1+claimMargin+kV<recursionLimit;delta claimMargin recursionLimit;lia,by show 4+10*kV+300<cLine;unfold cLine;lia,rfl⟩;have D0:∀b o,(hideAll gN.heap [gc]).get? b=some o->gN.heap.get? b=some o:=λb o e=>of_hideAll _ e;have Ww:bJ w v8 (hideAll gN.heap [gc]) gN.heap [(gc,none)] [.list<|ns.map .int]:=by
  refine⟨D0,λb aj=>hideAll_none _ aj,rfl,oS ⟨b5,List.nodup_nil⟩,λi p o ab aA=> ?_⟩;cases i with
  |zero=>
   cases ab;cases aA;exact⟨rfl,vs.toArray,0,L8,Wq ye,a3 (cM<|c2 _)<|a3 hlen<|by decide⟩
  |succ i=>exact bf ab
 have aV:b9 gN.heap [(gc,none)] [.ref gc] [.L 0]:=.cons (.L (p:=(gc,none)) rfl) .nil;refine wpAny_call<|oH callerA _ gN [(gc,none)] [.ref gc] aX Ww aV λaY bt v g jD=> ?_;cases jD;show GoodWG _ _ _ _ _ _ _;refine GoodW.toG ⟨.inl ⟨.bool true,.bool true,[],rfl,λcls=>rfl,.bool _,?_,λB=>⟨List.nodup_nil,λa aU=>nomatch aU⟩⟩,λb o e=> ?_,g.os,?_⟩
 ·have aF:cH.row.toRowW.post=.eq .res (.«lit» (.bool true)):=rfl;have cP:same (.bool true) (.bool true)=true:=by kernel_rfl
  show(WShape.has cH.row.toRowW.records (.bool true) .bool&&cH.row.toRowW.post.holds cH.row.toRowW.records _)=true;exact dI (by kernel_rfl) (V aF (by change WTm.holds cH.row.toRowW.records (.«lit» (.bool<|same (.bool true)<|.bool true)) ⟨[],none,[],[]⟩=true;exact V cP rfl))
 ·by_cases aj:b=gc
  ·subst aj;exact g.tr.tG (b,none) b o rfl (by exact bo) e
  ·exact g.tr.kl b o e (λq=>aj<|bR q) (by exact b5)
 ·exact gq g.gens Wt
def pY:sreFenced e6.main:=by kernel_rfl
def nG:((moduleNames e6.main.body).isEmpty||lookedIntoSs (moduleNames e6.main.body) e6.main.body)=true:=by kernel_rfl
def uk:namesResolve e6:=by kernel_rfl
def nH:e6.boundNames.all (λn=> !worldNames.contains n)=true:=by kernel_rfl
def A1:noRoadLSs {strict:= !(importedModules e6.main.body).all cThrough.contains,foot:=none,bare:=(["vars","dir","locals"]:List Str).filter<|readsOut e6 e6.main.body} e6.main.body=true:=by kernel_rfl
def Wx:(namesMeet e6 e6.main.body λB n=>attrL n)=true:=by kernel_rfl
def fF:cH.row.toRowW.solid:=by kernel_rfl
def a6:decide (cH.foot<=(behindTheImports cH.prog).length)=true:=by kernel_rfl
def bS:cH.footing.all footLine:=by kernel_rfl
def d2:noClassBlock cH.prog cH.footing:=by kernel_rfl
def eQ:noRoadLSs {strict:=true,foot:=some cH.bound',writes:=cH.writes,may:=cH.may} cH.footing=true:=by kernel_rfl
def gV:defStands cH.about cH.above:=by kernel_rfl
def gM:cH.namesIt:=by kernel_rfl
def fN:cH.bound'.all (λn=> !builtinNamed n||cH.about==[n]|| !cH.reads n)=true:=by kernel_rfl
def jF:namesMeet cH.prog cH.above (λB n=> !cH.own.contains n)=true:=by kernel_rfl
def pP:namesMeet cH.prog cH.footing (λsc n=>sc.kind==.module||sc.names.lookup n !=some .globalExplicit)=true:=by kernel_rfl
def Wy:opening e6=plainProg e6.main.scope.names:=by kernel_rfl
def Wz(s:Shared):fenceModules? e6 s=some s:=by kernel_rfl
def WA(w:World):((boot_heap w.params).isNs mainGlobals,(boot_heap w.params).objs.size,(boot_heap w.params).nsMap mainGlobals "__annotations__")=(true,11,pU):=by kernel_rfl
def WB{p q:Program}{Xt:Shared->Bool}{α:Type}{Yf:Shared->α}{y:α}{N df m0:Nat}{um:Heap}{k7:Drawn}{gh:Nat}{ann:Option Value}(aj:(fencedOpening treeTable p w N).map (λs=>(s.heap,s.gens,s.drawn,s.toks))=some (um,#[],k7,gh))(z:(um.isNs mainGlobals,um.objs.size,um.nsMap mainGlobals "__annotations__")=(true,m0,ann))(run:∀os:OsState,∃gN:Shared,topRun treeTable p w m0 ann df ⟨um,#[],k7,gh,os⟩ (topStub p)=some gN/\
   (staticsOk (importedModules p.main.body) um gN.heap&&namesBound p gN.heap&&gensDone gN&&laidKept um gN.heap)=true/\
   openSeen q loose (importedModules p.main.body) Xt true gN=openGood q loose/\Yf gN=y)(le:df<=N):
  (openEnds treeTable p w N).map (λs=>(openSeen q loose (importedModules p.main.body) Xt true s,Yf s))=some (openGood q loose,y):=by
 obtain⟨⟨h,gs,d,k,os⟩,e,e'⟩:=Option.map_eq_some_iff.mp aj;simp only[Prod.mk.injEq]at e';obtain⟨rfl,rfl,rfl,rfl⟩:=e';obtain⟨gN,r,a6,bS,cI⟩:=run os;simp only[Prod.mk.injEq]at z;obtain⟨fb,oF,vJ⟩:=z;have r':=topRun_mono (N-df) _ _ _ _ r;rw[show df+(N-df)=N from by exact HW le]at r';have t:topFrom treeTable p w N ⟨h,#[],d,k,os⟩=some gN:=by unfold topFrom;dsimp only;rw[fb,oF,vJ,r'];show(match staticsOk (importedModules p.main.body) h gN.heap&&namesBound p gN.heap&&gensDone gN&&laidKept h gN.heap with|true=>some gN|false=>none)=some gN;exact V a6 rfl
 unfold openEnds;refine V e ?_;show(topFrom treeTable p w N _).map _=_;refine V t ?_;exact ai some<|Prod.ext bS cI
def WC:E3<=20000:=by decide
def WD(w:World):(fencedOpening treeTable e6 w 20000).map (λs=>(s.heap,s.gens,s.drawn,s.toks))=some (boot_heap w.params,#[],boot_drawn,boot_toks):=boot_open (p:=e6) (N:=20000) Wy (by exact rfl) Wz w
def left:LeftO e6 mf sl (λB=>true) (λs=>∃az,kv az s.heap) (λB=>True) 20000:=λw=>WB (df:=E3) (WD w) (WA w) (λos=>let⟨gN,r,a6,bS,cI⟩:=VZ w os;⟨gN,r,a6,bS,eq_true ⟨w,cI⟩⟩) WC
def WE:cH.row.prog.theDef cH.row.name=(defOf mf cH.row.name).map λd=>(d.1.params,d.1.body,d.1.scope):=by kernel_rfl
def WF:(defOf mf cH.row.name).bind (λd=>kwWritten? d.1.params.kwonlyargs d.1.params.kw_defaults)=(defOf mf cH.row.name).map (·.2):=by kernel_rfl
def WG:(defOf mf cH.row.name).isSome=true:=by kernel_rfl
def WH:cH.most.all (λn=>decide<|63<=n)=true:=by kernel_rfl
def WI:cH.bound.all (λn=>decide<|2^63<=n)=true:=by kernel_rfl
def WJ(X:E8):cH.row.wellSaid->cH.row.Holds:=λdJ=>by
 obtain⟨⟨d,L6⟩,bC⟩:=hT WG;have ab:=WE;have an:=WF;rw[bC]at ab an;have hn:d.name=cH.row.name:=defOf_name bC;refine holds_open (r:=cH.row) (q:=mf) (loose:=sl) (Xt:=λB=>true) (XP:=λB B=>True) (Yf:=λs=>∃az,kv az s.heap) (Ya:=λB=>True) (YP:=λB h=>∃az,kv az h) (N:=20000)
  left (λw s h=>of_eq_true h) (λw h aO ⟨az,y⟩ k=>⟨az,y.keeps k⟩) (λB B=>trivial) (λB B B B B=>trivial) bC ab an (λs B=>recFacts_nil rfl) rfl dJ Wn Wp Wo (Wr X hn)
def WK:looksOpen cH.row.prog:=by unfold looksOpen;exact look_both (look_both (look_both (look_both (look_both pY nG) uk) nH) A1) Wx
def bd:cH.row.loose.isEmpty:=by kernel_rfl
def cQ:cH.row.makers.isEmpty:=by kernel_rfl
def eu:(cH.row.records.isEmpty||cH.row.raises.all λeI=>eI.1 !=.builtin "AttributeError"&&eI.1 !=.builtin "TypeError")=true:=by kernel_rfl
def i4:(cH.row.raises.all λeI=>match eI.1 with|.builtin n=> !cH.row.prog.boundNames.contains (Str.ofString n)&& !ofTheWorld.contains n|.own _=>true)=true:=by kernel_rfl
def r2:decide (cH.row.records.map (·.1)).Nodup=true:=by kernel_rfl
def DX:(cH.row.records.all λx=> !x.1.opensWith "__"&& !builtinNamed x.1&&cH.row.prog.boundNames.contains x.1&&x.2.all λf=> !f.1.opensWith "__")=true:=by kernel_rfl
def WL:cH.row.pre.litsOk:=by kernel_rfl
def WM:cH.row.post.litsOk:=by kernel_rfl
def WN:cH.row.raises.all (·.2.litsOk)=true:=by kernel_rfl
def WO:cH.row.mutates.all (λi=>match cH.row.args[i]?with
  |some hl=> !hl.arms.any WShape.isObj
  |none=>false)=true:=by kernel_rfl
def WP:cH.row.within.all (λi=>decide<|i<cH.row.args.length)=true:=by kernel_rfl
def WQ:cH.row.same.all (λi=>decide<|i<cH.row.args.length)=true:=by kernel_rfl
def WR:cH.row.partSaid:=by unfold OpenRow.partSaid;exact look_both (look_both (look_both (look_both (look_both (look_both (look_both (look_both (look_both (look_both (look_both (look_both (look_both WK bd) cQ) eu) i4) r2) DX) fF) WL) WM) WN) WO) WP) WQ
def WS:cH.row.prog.boundNames.contains cH.row.name:=by kernel_rfl
def WT:(!startupNames.contains cH.row.name)=true:=by kernel_rfl
def WU:cH.row.wellSaid:=by unfold OpenRow.wellSaid;exact look_both (look_both WR WS) WT
def Fa:(["type","isinstance","issubclass","getattr","hasattr"]:List Str).all (λn=>cH.about !=[n])=true:=by kernel_rfl
def EW:(!cH.writes||(cH.prog.main.body.flatMap importedNames).all λn=> !cH.reads n)=true:=by kernel_rfl
def j8:(cH.prog.main.body.flatMap importedNames).all (λn=> !cH.reads n||(drawsOf n cH.prog.main.body).all λL9=>L9.2 !=("attrgetter":Str)&&L9.2 !=("methodcaller":Str))=true:=by kernel_rfl
def jG:namesMeet cH.prog cH.footing (λsc n=>(!(["type","isinstance","issubclass","getattr","hasattr"]:List Str).contains n||sc.names.lookup n==some .globalImplicit)&&
  (cH.may !=some n||sc.kind==.module||sc.names.lookup n==some .globalImplicit))=true:=by kernel_rfl
def EX:cH.own.contains cH.name:=by kernel_rfl
def WV:(cH.own.eraseDups.length==cH.own.length)=true:=by kernel_rfl
def WW:cH.own.all (λn=> !builtinNamed n)=true:=by kernel_rfl
def WX:cH.wellSaid:=by unfold OpenLaw.wellSaid;exact look_both (look_both (look_both (look_both (look_both (look_both (look_both (look_both (look_both (look_both (look_both (look_both (look_both (look_both (look_both (look_both (look_both (look_both WU a6) bS) d2) WH) WI) eQ) gV) gM) Fa) fN) EW) j8) jG) EX) WV) WW) jF) pP
def ac8(X:E8):cH.Holds:=holds_law WX<|WJ X
end
section
set_option backward.match.sparseCases false
open PySem (Str)
variable{d a b k i np z j t m s u b' sM bL aG hq dg eL:Nat}{f e7:Nat->Nat->Bool}{args hG l xs ys dn:List I}{C ax S ov bq cB ik:St}{c:Bool}{R bZ Q pp:Prop}{O:ht}{body:bT->St->Option (eG×bT×St)}{st:dB}{ss:List dB}{H ci dr:bT}{v x y lax:I}{cL:od}{cg elt:b4}{iv:Option Nat}{el:St->Bool}{ms gl c8 ts aV:List Nat}{o:b3}{a1 na:Nat->Nat}{op:ob}{ifs:List b4}{nm:Str}{test:bT->St->Option (Bool×St)}{zs:List Int}{B9:Nat->I}{as dO ex ee aB:List (Nat×Nat)}{bz kM:List (I×I)}{pk:Bool->Prop}
noncomputable def a2:jx:=⟨kT,dw,oh⟩
noncomputable def sp(d:Nat):xn:=match d with
 |0=>λB B B=>none
 |d+1=>λc args C=>match oh c with
  |some f=>(a0 a2 d f (.L C.length::args)<|C++[.cR c λB=>none]).bind λr=>if r.1=.none then some (.L C.length,r.2)else none
  |none=>if args=[]then some (.L C.length,C++[.cR c λB=>none])else none
noncomputable def bk(d:Nat):ht:={fn:=a0 a2 d,make:=sp d,b1:=dw}
def WY{f:Nat}{fn:fp}(h:kT[f]? =some fn):a0 a2 (d+1) f args C=tA (bk d) fn args C:=by
 have:a0 a2 (d+1) f args C=(kT[f]?).bind λfn=>tA (bk d) fn args C:=by cases d<;>rfl
 rw[this,h];rfl
section
theorem nI(i j k l:Nat)(h:a+i<=b+j)(e:Nat.ble (k+j) (i+l)=true):a+k<=b+l:=by have:=pV e;lia
theorem jm{c:Nat}(i j k l:Nat)(Y:a+i<=b+j)(ae:b+k<=c+l):a+(i+k)<=c+(j+l):=by lia
theorem un(h:a+(k+1)<=b):a<b:=by lia
def fO{α:Type}{a:α}(h:a∈([]:List α)):R:=absurd h b5
def fc{α:Type}{l:List α}{o:α}(h:l[i]? =some o):i<l.length:=(h7 h).1
def fv(h:a≠b):a∉[b]:=λq=>h<|bR q
def mg{c:Nat}(h:a≠b)(k:a≠c):a∉[b,c]:=λq=>(cS q).elim h<|fv k
def Ma{c:Nat}(h:a≠b)(k:a≠c)(l:a≠d):a∉[b,c,d]:=λq=>(cS q).elim h<|mg k l
def Mb{c e:Nat}(h:a≠b)(k:a≠c)(l:a≠d)(m:a≠e):a∉[b,c,d,e]:=λq=>(cS q).elim h<|Ma k l m
noncomputable def cm(l:List I):bT:=λi=>l[i]?
theorem WZ(h:args.length=np):C4 np hG args=some (cm args):=by delta C4 cm;rw[bh (by lia),h,Nat.sub_self,Nat.sub_zero,List.drop_length,ew]
def W0{body:List dB}(h:args.length=np):
  tA O ⟨np,hG,body⟩ args C=(cG O body (cm args) C).bind λr=>match r.1 with
   |.ret v=>some (v,r.2.2)
   |.next=>some (.none,r.2.2):=by
 unfold tA;refine V (WZ h) ?_;rfl
def sq{f:Nat}{body:List dB}(h:kT[f]? =some ⟨np,hG,body⟩)(ao:args.length=np):
  a0 a2 (d+1) f args C=(cG (bk d) body (cm args) C).bind λr=>match r.1 with
   |.ret v=>some (v,r.2.2)
   |.next=>some (.none,r.2.2):=by
 rw[WY h,W0 ao]
def eB(h:cw O st H C=some (.next,ci,ax)):cG O (st::ss) H C=cG O ss ci ax:=by show(cw O st H C).bind _=_;refine V h ?_;rfl
def yf(h:cw O st H C=some (.ret v,ci,ax)):cG O (st::ss) H C=some (.ret v,ci,ax):=by show(cw O st H C).bind _=_;refine V h ?_;rfl
def oT{c:eG}(h:cw O st H C=some (c,ci,ax)):cG O [st] H C=some (c,ci,ax):=by
 cases c with
 |next=>refine V (eB h) ?_;rfl
 |ret v=>exact yf h
def A2{body:List dB}{z:I}(Y:bV O cg H C=some (z,ax))(ae:ni ax z=some (l,iv)):
  cw O (.gQ cL cg body) H C=fX (λs=>hc s iv l) (λx H s=>(gC cL x H).bind λci=>cG O body ci s) l H ax:=by
 show(bV O cg H C).bind _=_;refine V Y ?_;show(ni ax z).bind _=_;refine V ae ?_;rfl
def v9{de:I->bT->St->Option (eG×bT×St)}(h:el C):fX el de [] H C=some (.next,H,C):=bh h
def W2{de:I->bT->St->Option (eG×bT×St)}(h:el C)(aP:de x H C=some (.next,ci,ax)):fX el de (x::xs) H C=fX el de xs ci ax:=by show(if el C then _ else _)=_;exact V (bh h)<|V aP rfl
def mQ{de:I->bT->St->Option (eG×bT×St)}(h:el C)(aP:de x H C=some (.ret v,ci,ax)):fX el de (x::xs) H C=some (.ret v,ci,ax):=by show(if el C then _ else _)=_;exact V (bh h)<|V aP rfl
def A3(F:Nat->Option I)(i:Nat)(v:I):ar F i v i=some v:=by simp [ar]
def pZ(F:Nat->Option I)(v:I)(h:j≠i):ar F i v j=F j:=by simp [ar,h]
def Fb(i:Int):I.key (.int i)=true:=rfl
def Mc(C:St)(a b:Int):tx C (.int a) (.int b)=some (decide<|a=b):=by show(if I.key (.int a)&&I.key (.int b)then some (decide<|I.int a=I.int b)else none)=_;rw[Fb,Fb];simp
def A4(C:St)(a b:Int):eh C .eq (.int a) (.int b)=some (decide<|a=b):=Mc C a b
def W3(C:St)(a b:Int):eh C .bu (.int a) (.int b)=some (decide<|a≠b):=by unfold eh;refine V (Mc _ _ _) ?_;simp
def W4(C:St)(a b:Int):eh C .lt (.int a) (.int b)=some (decide<|a<b):=rfl
def W5(C:St)(a b:Int):eh C .gt (.int a) (.int b)=some (decide<|b<a):=rfl
def W6(C:St)(a b:Int):eh C .ge (.int a) (.int b)=some (decide<|b<=a):=rfl
def Fc(C:St)(b:Bool):h3 C (.bool b)=some b:=rfl
def Md(C:St)(i:Int):h3 C (.int i)=some (decide<|i≠0):=rfl
theorem A5(n:Nat):∀l:List Int,I.gR n (l.map .int)=true
 |[]=>by exact rfl
 |a::l=>by
  cases n with
  |zero=>exact dI rfl<|A5 0 l
  |succ n=>exact dI rfl<|A5 (n+1) l
def W7(C:St)(a:Int)(l:List Int):l3 C (.int a) (.ak<|l.map .int)=some (decide<|a∈l):=by show(if I.key (.int a)&&I.iW (l.map .int)then some (decide<|I.int a∈l.map .int)else none)=_;refine V (Fb _)<|V (show I.iW (l.map .int)=true from A5 6 l) ?_;simp
def mR(C:St)(a:Nat)(l:List Nat):l3 C (.int a) (.ak (l.map λn:Nat=>I.int n))=some (decide<|a∈l):=by
 have:=W7 C a (l.map λn:Nat=>(n:Int));rw[jB]at this;refine V (show(l.map λn:Nat=>I.int n)=List.map (I.int∘λn:Nat=>(n:Int)) l from rfl)<|V this ?_
 congr 1
 rw[decide_eq_decide,List.mem_map];constructor
 ·rintro ⟨b,aj,e⟩;have:b=a:=by exact P9 e
  exact this▸aj
 ·exactλh=>⟨a,h,rfl⟩
def Me{n:Nat}(h:i<n):jX (i:Int) n=some i:=by unfold jX;refine V (bh ⟨by exact Int.ofNat_nonneg _,by exact Qf h⟩) ?_;simp
def b0(h:l[i]? =some v):fq C (.ak l) (.int i)=some v:=by show(jX (i:Int) l.length).bind (l[·]?)=_;refine V (Me (h7 h).1) ?_;exact h
def j9(ao:C[a]? =some (.list l))(h:l[i]? =some v):fq C (.L a) (.int i)=some v:=by
 show(match C[a]?with
  |some (.list l)=>(jX (i:Int) l.length).bind (l[·]?)
  |some (.dict l)=>if e3 l (.int i)then cE l (.int i)else none
  |_=>none)=_
 refine V ao ?_;show(jX (i:Int) l.length).bind (l[·]?)=_;refine V (Me (h7 h).1) ?_;exact h
theorem W8(h:l.getLast?=some v):fq C (.ak l) (.int<|-1)=some v:=by
 show(jX (-1:Int) l.length).bind (l[·]?)=_;rw[List.getLast?_eq_getElem?]at h;have ao:l.length-1<l.length:=(h7 h).1;have:jX (-1:Int) l.length=some (l.length-1):=by
  unfold jX;refine V (bH<|by lia) (V (bh ⟨by exact by decide,by lia⟩) ?_)
  congr 1;lia
 refine V this ?_;exact h
def ky{c f:Nat}{F:Nat->Option I}(h:C[a]? =some (.cR c F))(hm:dw c f=none)(hR:F f=some v):hs dw C f (.L a)=some v:=by
 show(match C[a]?with
  |some (.cR c F)=>if dw c f=none then F f else none
  |_=>none)=_
 refine V h ?_;show(if dw c f=none then F f else none)=_;exact V (bh hm)<|V hR rfl
def W9(h:C[a]? =some (.list l))(h0:a≠0)(ao:l.length<16000000):mF a 0 [v] C=some (.none,C.set a<|.list<|l++[v]):=by unfold mF;refine V h ?_;show(if a=0 then none else if 0=pw then(if l.length<16000000 then some (I.none,C.set a<|.list<|l++[v])else none)else _)=_;exact V (bH h0)<|V (bh<|show 0=pw from rfl)<|V (bh ao) rfl
def Xa(h:C[a]? =some (.list l))(h0:a≠0)(ao:l.getLast?=some v):mF a 1 [] C=some (v,C.set a<|.list l.dropLast):=by
 unfold mF;refine V h ?_;show(if a=0 then none else if 1=pw then _ else if 1=rJ then(match ([]:List I),l.getLast? with
   |[],some v=>some (v,C.set a<|.list l.dropLast)
   |B,cr=>none)else _)=_
 rw[bH h0,bH<|show¬1=pw by decide,bh<|show 1=rJ from rfl,ao]
def Mf{r:List I}(h:C[a]? =some (.list l))(h0:a≠0)(aj:C[b]? =some (.list r))(hab:a≠b)(ao:l.length+r.length<16000000):mF a 2 [.L b] C=some (.none,C.set a<|.list<|l++r):=by
 unfold mF;refine V h ?_;show(if a=0 then none else if 2=pw then _ else if 2=rJ then _ else if 2=xl then(if a=b then none else(match C[b]?with
    |some (.list r)=>if l.length+r.length<16000000 then some (I.none,C.set a<|.list<|l++r)else none
    |_=>none))else none)=_
 rw[bH h0,bH<|show¬2=pw by decide,bH<|show¬2=rJ by decide,bh<|show 2=xl from rfl,bH hab,aj];show(if l.length+r.length<16000000 then _ else none)=_;exact bh ao
def Xb{l:List (I×I)}{k:I}(h:C[a]? =some (.dict l))(h0:a≠0)(an:e3 l k)(ao:l.length<16000000):qt C k v (.L a)=some (C.set a<|.dict<|fB l k v):=by unfold qt;simp only[h];rw[bh];refine V an ?_;simp [ao,h0]
def Xc{l:List (I×I)}{k:I}(h:C[a]? =some (.dict l))(h0:a≠0)(an:e3 l k)(ao:cE l k=some v):vk C k (.L a)=some (C.set a<|.dict<|mE l k):=by unfold vk;simp only[h];rw[bh];refine V an<|V ao ?_;simp [h0]
theorem Xd{n:Nat}(h:C[a]? =some (.list l))(h0:a≠0)(ao:n<=l.length):tz C (.int n) (.L a)=some (C.set a<|.list<|l.take n):=by unfold tz;simp only[h];refine V (bh ⟨h0,by exact Int.ofNat_nonneg _,by lia⟩) ?_;simp
def oU(h:C[a]? =some (.list l)):kQ .len (.L a) C=some (.int l.length,C):=by unfold kQ;simp only[h]
def nJ{α:Type}{l:List α}{f:α->I}(h:C[a]? =some (.list<|l.map f)):kQ .len (.L a) C=some (.int l.length,C):=(oU h).trans<|ai (λn:Nat=>some (I.int n,C))<|c2 f
def wa{c f:Nat}{F:Nat->Option I}(h:C[a]? =some (.cR c F))(h0:a≠0)(hm:dw c f=none):kj dw C f v (.L a)=some (C.set a<|.cR c<|ar F f v):=by unfold kj;simp only[h];exact bh<|And.intro h0 hm
structure ed where
 name:Str
 dc:Nat
 b2:Nat
 dG:Nat
set_option genInjectivity true in
inductive af where
 |key (s:Str)
 |bool (b f:Nat)
 |str (s:Str) (f:Nat)
 |num (n f:Nat)
 |dM (ps:List Nat)
 |obj (ps:List ed) (f:Nat)
 |ref (d:Nat)
noncomputable def af.ctorIdx(x:af):Nat:=af.casesOn x (λB=>0) (λB B=>1) (λB B=>2) (λB B=>3) (λB=>4) (λB B=>5)<|λB=>6
noncomputable abbrev J(n:Nat):I:=.int n
noncomputable def cn(p:ed):I:=.ak [.str p.name,J p.dc,J p.b2,J p.dG]
noncomputable def af.kind:af->Nat
 |.key B=>1|.bool _ _=>2|.str _ _=>3|.num _ _=>4|.dM _=>6|.obj _ _=>8|.ref _=>9
noncomputable def af.rest:af->List I
 |.key s=>[.str s]
 |.bool b f=>[J b,J f]
 |.str s f=>[.str s,J f]
 |.num n f=>[J n,J f]
 |.dM ps=>[.ak<|ps.map J]
 |.obj ps f=>[.ak<|ps.map cn,.ak [],.ak [],.ak [],.ak [],J f]
 |.ref d=>[J d,.ak []]
noncomputable def af.b6(r:af):I:=.ak (J r.kind::r.rest)
structure gO where
 t:Nat
 k7:Nat
 iO:Nat
 ev:Nat
 co:Nat
noncomputable def gO.fw(A:gO)(i:Nat):Nat:=if i=0 then A.k7 else if i=1 then A.iO else A.ev
def gO.all{A:gO}{P:Nat->Prop}(h0:P A.k7)(Y:P A.iO)(ae:P A.ev)(i:Nat):P (A.fw i):=by
 delta gO.fw;split
 ·exact h0
 ·split
  ·exact Y
  ·exact ae
structure ei(C:St)(A:gO)(T:List af):Prop where
 pos:0<A.t
 jH:∃F,C[A.t]? =some (.cR 1 F)/\F 45=some (.L<|A.t+1)/\F 23=some (.L<|A.t+2)/\F 14=some (.L<|A.t+3)/\F 41=none
 lF:C[A.t+1]? =some (.list<|T.map af.b6)
 av:C[A.t+2]? =some (.dict<|T.zipIdx.map λp=>(p.1.b6,J p.2))
structure dX(C:St)(A:gO)(T:List af)(a1:Nat->Nat):Prop where
 eC:0<A.t/\A.t+8<A.k7/\A.k7<A.iO/\A.iO<A.ev/\A.ev<A.co
 jH:∃F,C[A.t]? =some (.cR 1 F)/\F 45=some (.L<|A.t+1)/\F 23=some (.L<|A.t+2)/\F 14=some (.L<|A.t+3)/\F 41=none
 lF:C[A.t+1]? =some (.list<|T.map af.b6)
 av:C[A.t+2]? =some (.dict<|T.zipIdx.map λp=>(p.1.b6,J p.2))
 sr:C[A.t+3]? =some (.list [.none,.L A.k7,.L A.iO,.L A.ev])
 kz:∀i,i<3->∃F,C[A.fw i]? =some (.cR 2 F)/\F 10=some (J<|a1 i)/\F 9=some (.ak [])/\∃v,F 56=some (.L v)/\A.k7<=v/\v<=A.co/\C[v]? =some (.list [])
 co:∃F,C[A.co]? =some (.cR 4 F)/\F 51=some (.L A.t)/\F 20=none/\F 48=none/\F 26=none
structure bw(C S:St)(ms:List Nat):Prop where
 len:C.length<=S.length
 same:∀a,a<C.length->a∉ms->S[a]? =C[a]?
def bw.refl(C:St)(ms:List Nat):bw C C ms:=⟨gF _,λB B B=>rfl⟩
def bw.trans(x:bw C S ms)(y:bw S ov ms):bw C ov ms:=⟨a3 x.len y.len,λa h m=>(y.same a (c7 h x.len) m).trans<|x.same a h m⟩
def bw.cj{ns:List Nat}(x:bw C S ms)(h:∀a∈ms,a∈ns):bw C S ns:=⟨x.len,λa ao m=>x.same a ao λq=>m<|h a q⟩
def bw.get(x:bw C S ms)(h:C[a]? =some o)(m:a∉ms):S[a]? =some o:=by refine V (x.same a (h7 h).1 m) ?_;exact h
def bw.set(C:St)(a:Nat)(o:b3):bw C (C.set a o) [a]:=⟨by exact cM<|iX List.length_set,λb aj hm=>List.getElem?_set_ne λq=>hm<|by simp [q]⟩
def bw.push(C g:St)(ms:List Nat):bw C (C++g) ms:=⟨by simp,λa h B=>no h⟩
def hL(C:St)(a:Nat)(o:b3)(S:St):Prop:=S=C.set a o
section
variable{x:b3}{r:List I}{D:List (I×I)}{k:I}
def hL.bU(u:hL C a o S):bw C S [a]:=V u<|.set C a o
def hL.len(u:hL C a o S):S.length=C.length:=V u List.length_set
def hL.i6(u:hL C a o S)(h:C[a]? =some x):S[a]? =some o:=V u<|List.getElem?_set_self<|fc h
def hL.get(u:hL C a o S)(h:C[b]? =some x)(n:b≠a):S[b]? =some x:=V u<|(List.getElem?_set_ne n.symm).trans h
def uo(h:C[a]? =some (.list l))(h0:a≠0)(ao:l.length<16000000)(k:∀S,mF a 0 [v] C=some (.none,S)->hL C a (.list<|l++[v]) S->R):R:=k _ (W9 h h0 ao) rfl
def oV(h:C[a]? =some (.dict D))(h0:a≠0)(an:e3 D k)(ao:D.length<16000000)(c:∀S,qt C k v (.L a)=some S->hL C a (.dict<|fB D k v) S->R):R:=c _ (Xb h h0 an ao) rfl
end
def dX.keep{A:gO}{T:List af}(X:dX C A T a1)(f:bw C S ms)(h:∀a,A.t<=a->a<=A.co->a∉ms):dX S A T a1:=by
 obtain⟨gT,gD,jn,p0,yg⟩:=X.eC;obtain⟨F,g5,gu⟩:=X.jH;obtain⟨uq,Y,ae⟩:=X.co;refine⟨X.eC,⟨F,f.get g5<|h _ (by exact gF _)<|by exact HZ yg p0 jn gD,gu⟩,f.get X.lF<|h _ (by exact HR)<|by exact ea (ea (ea (un X.eC.2.1) X.eC.2.2.1) X.eC.2.2.2.1) X.eC.2.2.2.2,f.get X.av<|h _ (by exact C5)<|by exact nI 12 0 2 0 (jm 11 0 1 0 (jm 10 0 1 0 (jm 9 0 1 0 X.eC.2.1 X.eC.2.2.1) X.eC.2.2.2.1) X.eC.2.2.2.2) rfl,f.get X.sr<|h _ (by exact Qa)<|by exact nI 12 0 3 0 (jm 11 0 1 0 (jm 10 0 1 0 (jm 9 0 1 0 X.eC.2.1 X.eC.2.2.1) X.eC.2.2.2.1) X.eC.2.2.2.2) rfl,λi ah=> ?_,⟨uq,f.get Y<|h _ (by exact HZ yg p0 jn gD)<|by exact gF _,ae⟩⟩;obtain⟨Fd,hy,eW,nx,v,sa,sf,sd,AJ⟩:=X.kz i ah;refine⟨Fd,f.get hy<|h _ ?_ ?_,eW,nx,v,sa,sf,sd,f.get AJ<|h _ (by exact hi<|c7 (un X.eC.2.1) sf)<|by exact sd⟩
 ·exact gO.all (P:=(A.t<=·)) (by exact hi<|HY gD) (by exact hi<|ea (un X.eC.2.1) X.eC.2.2.1) (by exact hi<|ea (ea (un X.eC.2.1) X.eC.2.2.1) X.eC.2.2.2.1) i
 ·exact gO.all (P:=(·<=A.co)) (by exact a3 sf sd) (by exact hi<|HU p0 yg) (by exact hi yg) i
def dX.fZ{A:gO}{T:List af}(X:dX C A T a1):ei C A T:=⟨X.eC.1,X.jH,X.lF,X.av⟩
def ei.keep{A:gO}{T:List af}(X:ei C A T)(f:bw C S ms)(h:∀a,A.t<=a->a<=A.t+2->a∉ms):ei S A T:=by obtain⟨F,g5,gu⟩:=X.jH;exact⟨X.pos,⟨F,f.get g5<|h _ (by exact gF _)<|by exact C5,gu⟩,f.get X.lF<|h _ (by exact HR)<|by exact Qc,f.get X.av<|h _ (by exact C5)<|by exact gF _⟩
def dX.with{A:gO}{T a7:List af}(X:dX C A T a1)(ii:ei S A a7)(f:bw C S [A.t+1,A.t+2]):dX S A a7 a1:=by obtain⟨gT,gD,jn,p0,yg⟩:=X.eC;obtain⟨uq,Y,ae⟩:=X.co;refine⟨X.eC,ii.jH,ii.lF,ii.av,f.get X.sr<|by simp,λi ah=> ?_,⟨uq,f.get Y<|by exact mg (dd<|nI 12 0 2 0 (jm 11 0 1 0 (jm 10 0 1 0 (jm 9 0 1 0 X.eC.2.1 X.eC.2.2.1) X.eC.2.2.2.1) X.eC.2.2.2.2) rfl)<|dd<|nI 12 0 3 0 (jm 11 0 1 0 (jm 10 0 1 0 (jm 9 0 1 0 X.eC.2.1 X.eC.2.2.1) X.eC.2.2.2.1) X.eC.2.2.2.2) rfl,ae⟩⟩;obtain⟨Fd,hy,eW,nx,v,sa,sf,sd,AJ⟩:=X.kz i ah;refine⟨Fd,f.get hy ?_,eW,nx,v,sa,sf,sd,f.get AJ<|by exact mg (dd<|nI 9 0 2 0 (jm 9 0 0 0 X.eC.2.1 sf) rfl)<|dd<|nI 9 0 3 0 (jm 9 0 0 0 X.eC.2.1 sf) rfl⟩;exact gO.all (P:=(·∉[A.t+1,A.t+2])) (mg (by exact dd<|nI 9 0 2 0 X.eC.2.1 rfl)<|by exact dd<|nI 9 0 3 0 X.eC.2.1 rfl) (mg (by exact dd<|nI 10 0 2 0 (jm 9 0 1 0 X.eC.2.1 X.eC.2.2.1) rfl)<|by exact dd<|nI 10 0 3 0 (jm 9 0 1 0 X.eC.2.1 X.eC.2.2.1) rfl) (mg (by exact dd<|nI 11 0 2 0 (jm 10 0 1 0 (jm 9 0 1 0 X.eC.2.1 X.eC.2.2.1) X.eC.2.2.2.1) rfl)<|by exact dd<|nI 11 0 3 0 (jm 10 0 1 0 (jm 9 0 1 0 X.eC.2.1 X.eC.2.2.1) X.eC.2.2.2.1) rfl) i
section
variable{A:gO}{T:List af}
def ei.cJ(X:ei C A T):hs dw C 45 (.L A.t)=some (.L<|A.t+1):=let⟨_,h,ae,_⟩:=X.jH;ky h rfl ae
def ei.A6(X:ei C A T):hs dw C 23 (.L A.t)=some (.L<|A.t+2):=let⟨_,h,_,ae,_⟩:=X.jH;ky h rfl ae
def ei.row(X:ei C A T){r:af}(h:T[t]? =some r):fq C (.L<|A.t+1) (J t)=some r.b6:=j9 X.lF (by refine V ou<|V h ?_;rfl)
def ei.lt(X:ei C A T):A.t+2<C.length:=(h7 X.av).1
def dX.cJ(X:dX C A T a1):hs dw C 45 (.L A.t)=some (.L<|A.t+1):=let⟨_,h,ae,_⟩:=X.jH;ky h rfl ae
def dX.A7(X:dX C A T a1):hs dw C 14 (.L A.t)=some (.L<|A.t+3):=let⟨_,h,_,_,ae,_⟩:=X.jH;ky h rfl ae
def dX.cz(X:dX C A T a1):hs dw C 51 (.L A.co)=some (.L A.t):=let⟨_,h,ae,_⟩:=X.co;ky h rfl ae
def dX.row(X:dX C A T a1){r:af}(h:T[t]? =some r):fq C (.L<|A.t+1) (J t)=some r.b6:=j9 X.lF (by refine V ou<|V h ?_;rfl)
def cN{r:af}:fq C r.b6 (.int 0)=some (J r.kind):=b0 (i:=0) rfl
end
section
variable{A:gO}{T:List af}{r:af}
end
end
variable{A:gO}{K:ed->Bool->Prop}{q p:ed}{ps eR dN:List ed}
section
def mS{α:Type}(x:Option α)(K:α->Prop):Prop:=∀v,x=some v->K v
def q5{α:Type}(x:Option (α×St))(K:α->St->Prop):Prop:=∀v S,x=some (v,S)->K v S
def wb(x:Option (eG×bT×St))(K:eG->bT->St->Prop):Prop:=∀c aT S,x=some (c,aT,S)->K c aT S
noncomputable def Fe:Option I->Option Nat->Option (Option Nat)
 |none,some f=>some<|some f
 |B,cr=>none
noncomputable def yh(b1:Nat->Nat->Option Nat)(m:Nat):Option b3->Option (Option Nat)
 |some (.cR c F)=>Fe (F m)<|b1 c m
 |some B=>some none
 |none=>none
noncomputable def mT(b1:Nat->Nat->Option Nat)(C:St)(m:Nat):I->Option (Option Nat)
 |.L a=>yh b1 m C[a]?
 |_=>none
noncomputable def yi(a m:Nat)(args:List I)(S:St):Option b3->Option (I×St)
 |some (.list B)=>mF a m args S
 |some (.dict B)=>qr a m args S
 |_=>none
noncomputable def Ff(C:St)(m:Nat)(x:I)(args:List I)(S:St):Option (I×St):=
 match x with
 |.L a=>yi a m args S C[a]?
 |_=>none
def Fg(m:Bool)(H:bT)(i:Nat)(K:I->Prop):Prop:=
 match m with
 |true=>match H i with|some v=>K v|none=>True
 |false=>mS (H i) K
def su(C:St)(v:I)(K:Bool->Prop):Prop:=
 match v with
 |.bool b=>K b
 |v=>mS (h3 C v) K
noncomputable def yj:b4->Option I
 |.bc v=>some v
 |_=>none
mutual
noncomputable def e0(m:Bool)(O:ht):b4->bT->St->(I->St->Prop)->Prop
 |.bc v,B,C,K=>K v C
 |.E i,H,C,K=>Fg m H i λv=>K v C
 |.ak aw,H,C,K=>sv m O aw H C λl C=>K (.ak l) C
 |.fh aw,H,C,K=>sv m O aw H C λl C=>K (.L C.length)<|C++[.list l]
 |.l1,B,C,K=>K (.L C.length)<|C++[.dict []]
 |.neg e,H,C,K=>e0 m O e H C λv C=>match v with|.int i=>K (.int<|-i) C|_=>True
 |.tv e,H,C,K=>e0 m O e H C λv C=>match v with|.int i=>K (.int<|PySem.Builtin.bitNot i) C|_=>True
 |.not e,H,C,K=>e0 m O e H C λv C=>su C v λb=>K (.bool<|!b) C
 |.b8 op a b,H,C,K=>e0 m O a H C λx C=>e0 m O b H C λy C=>q5 (iF op x y C) K
 |.aK op a b,H,C,K=>e0 m O a H C λx C=>e0 m O b H C λy C=>mS (eh C op x y) λt=>K (.bool t) C
 |.xi qo qp a b c,H,C,K=>e0 m O a H C λx C=>e0 m O b H C λy C=>mS (eh C qo x y) λt=>
   match t with
   |true=>e0 m O c H C λz C=>mS (eh C qp y z) λt=>K (.bool t) C
   |false=>K (.bool false) C
 |.and a b,H,C,K=>e0 m O a H C λx C=>su C x λt=>match t with|true=>e0 m O b H C K|false=>K x C
 |.or a b,H,C,K=>e0 m O a H C λx C=>su C x λt=>match t with|true=>K x C|false=>e0 m O b H C K
 |.ite c a b,H,C,K=>e0 m O c H C λx C=>su C x λt=>match yj a,yj b with
  |some x,some y=>K (bif t then x else y) C
  |B,cr=>match t with|true=>e0 m O a H C K|false=>e0 m O b H C K
 |.aZ e f,H,C,K=>e0 m O e H C λx C=>mS (hs O.b1 C f x) λv=>K v C
 |.av e i,H,C,K=>e0 m O e H C λx C=>e0 m O i H C λy C=>mS (fq C x y) λv=>K v C
 |.je e cf ah,H,C,K=>e0 m O e H C λx C=>Fh m O cf H C λa C=>Fh m O ah H C λb C=>q5 (nh x a b C) K
 |.a5 f args,H,C,K=>sv m O args H C λl C=>q5 (O.fn f l C) K
 |.l2 c args,H,C,K=>sv m O args H C λl C=>q5 (O.make c l C) K
 |.b1 e n args,H,C,K=>e0 m O e H C λx C=>mS (mT O.b1 C n x) λs=>match s with
  |some f=>sv m O args H C λl C=>q5 (O.fn f (x::l) C) K
  |none=>sv m O args H C λl S=>q5 (Ff C n x l S) K
 |.cx b e,H,C,K=>e0 m O e H C λx C=>q5 (kQ b x C) K
 |.comp elt cL cg ifs,H,C,K=>q5 (bV O (.comp elt cL cg ifs) H C) K
 |.jW elt i cg ifs,H,C,K=>q5 (bV O (.jW elt i cg ifs) H C) K
noncomputable def sv(m:Bool)(O:ht):List b4->bT->St->(List I->St->Prop)->Prop
 |[],B,C,K=>K [] C
 |e::aw,H,C,K=>e0 m O e H C λv C=>sv m O aw H C λl C=>K (v::l) C
noncomputable def Fh(m:Bool)(O:ht):Option b4->bT->St->(Option I->St->Prop)->Prop
 |none,B,C,K=>K none C
 |some e,H,C,K=>e0 m O e H C λv C=>K (some v) C
end
mutual
noncomputable def A8(m:Bool)(O:ht):dB->bT->St->(eG->bT->St->Prop)->Prop
 |.assign cL e,H,C,K=>e0 m O e H C λv C=>match cL with
  |.aR i=>K .next (ar H i v) C
  |cL=>mS (gC cL v H) λH=>K .next H C
 |.setAttr o f e,H,C,K=>e0 m O e H C λv C=>e0 m O o H C λx C=>mS (kj O.b1 C f v x) λC=>K .next H C
 |.setItem o i e,H,C,K=>e0 m O e H C λv C=>e0 m O o H C λx C=>e0 m O i H C λk C=>mS (qt C k v x) λC=>K .next H C
 |.tw i op e,H,C,K=>wb (cw O (.tw i op e) H C) K
 |.rI o f op e,H,C,K=>wb (cw O (.rI o f op e) H C) K
 |.delItem o i,H,C,K=>e0 m O o H C λx C=>e0 m O i H C λk C=>mS (vk C k x) λC=>K .next H C
 |.xj o cf,H,C,K=>e0 m O o H C λx C=>e0 m O cf H C λk C=>mS (tz C k x) λC=>K .next H C
 |.ite c a b,H,C,K=>e0 m O c H C λx C=>su C x λt=>match t with|true=>q6 m O a [] H C K|false=>q6 m O b [] H C K
 |.gQ cL cg body,H,C,K=>wb (cw O (.gQ cL cg body) H C) K
 |.iq i cg body,H,C,K=>wb (cw O (.iq i cg body) H C) K
 |.pr c body,H,C,K=>wb (cw O (.pr c body) H C) K
 |.ret e,H,C,K=>e0 m O e H C λv C=>K (.ret v) H C
 |.xk,H,C,K=>K (.ret .none) H C
 |.expr e,H,C,K=>e0 m O e H C λB C=>K .next H C
 |.fA,B,cr,eE=>True
noncomputable def q6(m:Bool)(O:ht):List dB->List Bool->bT->St->(eG->bT->St->Prop)->Prop
 |[],B,H,C,K=>K .next H C
 |s::ss,dm,H,C,K=>match dm with
  |true::dm=>wb (cw O s H C) λc H C=>match c with
   |.next=>q6 m O ss dm H C K
   |.ret v=>K (.ret v) H C
  |dm=>A8 m O s H C λc H C=>match c with
   |.next=>q6 m O ss dm.tail H C K
   |.ret v=>K (.ret v) H C
end
def ur{K:Bool->Prop}(h:∀b,h3 C v=some b->K b):su C v K:=by
 cases v with
 |bool b=>exact h _ rfl
 |_=>exact h
def Xe{m:Bool}{K:I->Prop}(h:∀v,H i=some v->K v):Fg m H i K:=by
 cases m with
 |false=>exact h
 |true=>
  delta Fg;dsimp only;cases aS:H i with
  |none=>trivial
  |some v=>exact h _ aS
def Mg{e:b4}(h:yj e=some v):e=.bc v:=by
 cases e<;>cases h<;>rfl
mutual
theorem fk(m:Bool)(O:ht):∀(e:b4) (H:bT) (C:St) (K:I->St->Prop),(∀v S,bV O e H C=some (v,S)->K v S)->e0 m O e H C K
 |.bc v,H,C,K,h=>h _ _ rfl
 |.E i,H,C,K,h=>Xe λv aS=>h _ _<|ai (Option.map _) aS
 |.ak aw,H,C,K,h=>sw m O aw H C _ λl S e=>h _ _<|bB e rfl
 |.fh aw,H,C,K,h=>sw m O aw H C _ λl S e=>h _ _<|bB e rfl
 |.l1,H,C,K,h=>h _ _ rfl
 |.neg e,H,C,K,h=>fk m O e H C _ λv S aD=>by
  cases v with
  |int i=>exact h _ _<|bB aD rfl
  |_=>trivial
 |.tv e,H,C,K,h=>fk m O e H C _ λv S aD=>by
  cases v with
  |int i=>exact h _ _<|bB aD rfl
  |_=>trivial
 |.not e,H,C,K,h=>fk m O e H C _ λv S aD=>ur λb aF=>h _ _<|bB aD<|bB aF rfl
 |.b8 op a b,H,C,K,h=>fk m O a H C _ λx ax aD=>fk m O b H ax _ λy bq aF B B cP=>h _ _<|bB aD<|bB aF cP
 |.aK op a b,H,C,K,h=>fk m O a H C _ λx ax aD=>fk m O b H ax _ λy bq aF r cP=>h _ _<|bB aD<|bB aF<|bB cP rfl
 |.xi qo qp a b c,H,C,K,h=>fk m O a H C _ λx ax aD=>fk m O b H ax _ λy bq aF r cP=>by
  cases r with
  |false=>exact h _ _<|bB aD<|bB aF<|bB cP rfl
  |true=>exact fk m O c H bq _ λz cB et t j0=>h _ _<|bB aD<|bB aF<|bB cP<|(bh rfl).trans<|bB et<|bB j0 rfl
 |.and a b,H,C,K,h=>fk m O a H C _ λx ax aD=>ur λt aF=>by
  cases t with
  |false=>exact h _ _<|bB aD<|bB aF rfl
  |true=>exact fk m O b H ax _ λz cB et=>h _ _<|bB aD<|bB aF et
 |.or a b,H,C,K,h=>fk m O a H C _ λx ax aD=>ur λt aF=>by
  cases t with
  |false=>exact fk m O b H ax _ λz cB et=>h _ _<|bB aD<|bB aF et
  |true=>exact h _ _<|bB aD<|bB aF rfl
 |.ite c a b,H,C,K,h=>fk m O c H C _ λx ax aD=>ur λt aF=>by
  have g:∀{y cB},(if t=true then bV O a H ax else bV O b H ax)=some (y,cB)->K y cB:=λe=>h _ _<|bB aD<|bB aF e;have k:match (generalizing:=false) t with|true=>e0 m O a H ax K|false=>e0 m O b H ax K:=by
   cases t with
   |false=>exact fk m O b H ax _ λz cB et=>g et
   |true=>exact fk m O a H ax _ λz cB et=>g et
  cases ac:yj a with
  |none=>exact k
  |some x=>cases a8:yj b with
   |none=>exact k
   |some y=>refine g ?_;rw[Mg ac,Mg a8];cases t<;>rfl
 |.aZ e f,H,C,K,h=>fk m O e H C _ λx ax aD v aF=>h _ _<|bB aD<|ai (Option.map _) aF
 |.av e i,H,C,K,h=>fk m O e H C _ λx ax aD=>fk m O i H ax _ λy bq aF r cP=>h _ _<|bB aD<|bB aF<|ai (Option.map _) cP
 |.je e cf ah,H,C,K,h=>fk m O e H C _ λx ax aD=>Mh m O cf H ax _ λy bq aF=>Mh m O ah H bq _ λz cB cP B B et=>h _ _<|bB aD<|bB aF<|bB cP et
 |.a5 f args,H,C,K,h=>sw m O args H C _ λl ax aD B B aF=>h _ _<|bB aD aF
 |.l2 f args,H,C,K,h=>sw m O args H C _ λl ax aD B B aF=>h _ _<|bB aD aF
 |.b1 e n args,H,C,K,h=>fk m O e H C _ λx ax aD s aF=>by
  cases x with
  |L a=>
   have aF:yh O.b1 n ax[a]? =some s:=aF;cases aA:ax[a]?with
   |none=>rw[aA]at aF;exact bf aF
   |some o=>
    rw[aA]at aF;cases o with
    |cR c F=>
     have aF:Fe (F n) (O.b1 c n)=some s:=aF;cases hR:F n with
     |some v=>rw[hR]at aF;exact bf aF
     |none=>
      rw[hR]at aF;cases r3:O.b1 c n with
      |none=>rw[r3]at aF;exact bf aF
      |some f=>rw[r3]at aF;cases aF;exact sw m O args H ax _ λl bq cP B B et=>h _ _ (bB aD (by dsimp only;rw[aA];dsimp only;rw[hR,r3];exact bB cP et))
    |list l=>
     cases aF;exact sw m O args H ax _ λl bq cP B B et=>h _ _ (bB aD (by dsimp only;rw[aA];exact bB cP<|(ai (yi a n l bq) aA).symm.trans et))
    |dict l=>
     cases aF;exact sw m O args H ax _ λl bq cP B B et=>h _ _ (bB aD (by dsimp only;rw[aA];exact bB cP<|(ai (yi a n l bq) aA).symm.trans et))
  |_=>exact bf aF
 |.cx b e,H,C,K,h=>fk m O e H C _ λx ax aD B B aF=>h _ _<|bB aD aF
 |.comp elt cL cg ifs,H,C,K,h=>h
 |.jW elt i cg ifs,H,C,K,h=>h
theorem sw(m:Bool)(O:ht):∀(aw:List b4) (H:bT) (C:St) (K:List I->St->Prop),(∀v S,kS O aw H C=some (v,S)->K v S)->sv m O aw H C K
 |[],H,C,K,h=>h _ _ rfl
 |e::aw,H,C,K,h=>fk m O e H C _ λv ax aD=>sw m O aw H ax _ λl bq aF=>h _ _<|bB aD<|bB aF rfl
theorem Mh(m:Bool)(O:ht):∀(e:Option b4) (H:bT) (C:St) (K:Option I->St->Prop),(∀v S,zD O e H C=some (v,S)->K v S)->Fh m O e H C K
 |none,H,C,K,h=>h _ _ rfl
 |some e,H,C,K,h=>fk m O e H C _ λv ax aD=>h _ _<|bB aD rfl
end
mutual
theorem A9(m:Bool)(O:ht):∀(s:dB) (H:bT) (C:St) (K:eG->bT->St->Prop),(∀c aT S,cw O s H C=some (c,aT,S)->K c aT S)->A8 m O s H C K
 |.assign cL e,H,C,K,h=>fk m O e H C _ λv ax aD=>by
  cases cL with
  |aR i=>exact h _ _ _<|bB aD rfl
  |iV l=>exactλaT aF=>h _ _ _<|bB aD<|bB aF rfl
 |.setAttr o f e,H,C,K,h=>fk m O e H C _ λv ax aD=>fk m O o H ax _ λx bq aF s cP=>h _ _ _<|bB aD<|bB aF<|bB cP rfl
 |.setItem o i e,H,C,K,h=>fk m O e H C _ λv ax aD=>fk m O o H ax _ λx bq aF=>fk m O i H bq _ λk cB cP s et=>h _ _ _<|bB aD<|bB aF<|bB cP<|bB et rfl
 |.tw i op e,H,C,K,h=>h
 |.rI o f op e,H,C,K,h=>h
 |.delItem o i,H,C,K,h=>fk m O o H C _ λx ax aD=>fk m O i H ax _ λk bq aF s cP=>h _ _ _<|bB aD<|bB aF<|bB cP rfl
 |.xj o i,H,C,K,h=>fk m O o H C _ λx ax aD=>fk m O i H ax _ λk bq aF s cP=>h _ _ _<|bB aD<|bB aF<|bB cP rfl
 |.ite c a b,H,C,K,h=>fk m O c H C _ λx ax aD=>ur λt aF=>by
  have g:∀{c aT S},(if t=true then cG O a H ax else cG O b H ax)=some (c,aT,S)->K c aT S:=λe=>h _ _ _<|bB (bB aD<|bB aF rfl) e;cases t with
  |false=>exact wc m O b [] H ax _ λc aT S e=>g e
  |true=>exact wc m O a [] H ax _ λc aT S e=>g e
 |.gQ cL cg body,H,C,K,h=>h
 |.iq i cg body,H,C,K,h=>h
 |.pr c body,H,C,K,h=>h
 |.ret e,H,C,K,h=>fk m O e H C _ λv ax aD=>h _ _ _<|bB aD rfl
 |.xk,H,C,K,h=>h _ _ _ rfl
 |.expr e,H,C,K,h=>fk m O e H C _ λv ax aD=>h _ _ _<|bB aD rfl
 |.fA,H,C,K,h=>trivial
theorem wc(m:Bool)(O:ht):∀(ss:List dB) (dm:List Bool) (H:bT) (C:St) (K:eG->bT->St->Prop),(∀c aT S,cG O ss H C=some (c,aT,S)->K c aT S)->q6 m O ss dm H C K
 |[],dm,H,C,K,h=>h _ _ _ rfl
 |s::ss,dm,H,C,K,h=>by
  have key:∀Fi c aT S,cw O s H C=some (c,aT,S)->(match c with|.next=>q6 m O ss Fi aT S K|.ret v=>K (.ret v) aT S):=λFi c aT S aD=>by
   cases c with
   |next=>exact wc m O ss Fi aT S _ λc dr bq e=>h _ _ _<|bB aD e
   |ret v=>exact h _ _ _<|bB aD rfl
  cases dm with
  |nil=>exact A9 m O s H C _<|key _
  |cons b dm=>cases b with
   |true=>exact key dm
   |false=>exact A9 m O s H C _<|key _
end
def wd(m:Bool)(dm:List Bool)(d f:Nat)(args:List I)(C:St):Prop:=
 match kT[f]?with
 |some fn=>(match decide (args.length=fn.np)with
  |true=>q6 m (bk d) fn.body dm (cm args) C λc B S=>match c with
   |.ret v=>a0 a2 (d+1) f args C=some (v,S)
   |.next=>a0 a2 (d+1) f args C=some (.none,S)
  |false=>True)
 |none=>True
def Ba(m:Bool)(dm:List Bool)(d f:Nat)(args:List I)(C:St):wd m dm d f args C:=by
 delta wd;cases hf:kT[f]?with
 |none=>trivial
 |some fn=>
  obtain⟨np,hG,body⟩:=fn;dsimp only;cases ao:decide (args.length=np)with
  |false=>trivial
  |true=>
   refine wc _ _ _ _ _ _ _ λc aT S e=> ?_;have g:=sq (d:=d) (C:=C) hf<|dx ao;cases c with
   |next=>exact g.trans<|V e rfl
   |ret v=>exact g.trans<|V e rfl
def go{f:Nat}{r:I×St}(k:wd true [] d f args C->a0 a2 (d+1) f args C=some r):a0 a2 (d+1) f args C=some r:=k<|Ba _ _ _ _ _ _
def p1{f:Nat}{r:I×St}(k:wd false [] d f args C->a0 a2 (d+1) f args C=some r):a0 a2 (d+1) f args C=some r:=k<|Ba _ _ _ _ _ _
def gi(dm:List Bool){f:Nat}{r:I×St}(k:wd true dm d f args C->a0 a2 (d+1) f args C=some r):a0 a2 (d+1) f args C=some r:=k<|Ba _ _ _ _ _ _
def q7(dm:List Bool){f:Nat}{r:I×St}(k:wd false dm d f args C->a0 a2 (d+1) f args C=some r):a0 a2 (d+1) f args C=some r:=k<|Ba _ _ _ _ _ _
section
def ho{r:eG×bT×St}(k:q6 true O ss [] H C (λc aT S=>cG O ss H C=some (c,aT,S))->cG O ss H C=some r):cG O ss H C=some r:=k<|wc _ _ _ _ _ _ _ λB B B h=>h
def eJ{r:eG×bT×St}(k:q6 false O ss [] H C (λc aT S=>cG O ss H C=some (c,aT,S))->cG O ss H C=some r):cG O ss H C=some r:=k<|wc _ _ _ _ _ _ _ λB B B h=>h
def dk{s:dB}{r:eG×bT×St}(k:A8 true O s H C (λc aT S=>cw O s H C=some (c,aT,S))->cw O s H C=some r):cw O s H C=some r:=k<|A9 _ _ _ _ _ _ λB B B h=>h
def gx{s:dB}{r:eG×bT×St}(k:A8 false O s H C (λc aT S=>cw O s H C=some (c,aT,S))->cw O s H C=some r):cw O s H C=some r:=k<|A9 _ _ _ _ _ _ λB B B h=>h
def jj{e:b4}{r:I×St}(k:e0 true O e H C (λv S=>bV O e H C=some (v,S))->bV O e H C=some r):bV O e H C=some r:=k<|fk _ _ _ _ _ _ λB B h=>h
def i7{e:b4}{r:I×St}(k:e0 false O e H C (λv S=>bV O e H C=some (v,S))->bV O e H C=some r):bV O e H C=some r:=k<|fk _ _ _ _ _ _ λB B h=>h
def Mi{c:b4}{a b:List dB}{r:eG×bT×St}(h:jf O c H C=some (true,ax))(aj:cG O a H ax=some r):cw O (.ite c a b) H C=some r:=by show(jf O c H C).bind _=_;refine V h ?_;exact aj
def Bb{e:b4}{b:Bool}(h:bV O e H C=some (v,S))(aP:h3 S v=some b):jf O e H C=some (b,S):=by unfold jf;refine V h<|V (Option.bind_some _ _)<|V aP ?_;rfl
def Bc{e:b4}{r:Bool×St}(k:e0 true O e H C (λv S=>su S v λb=>jf O e H C=some (b,S))->jf O e H C=some r):jf O e H C=some r:=k<|fk _ _ _ _ _ _ λB B h=>ur λB ae=>Bb h ae
def Fj{e:b4}{r:Bool×St}(k:e0 false O e H C (λv S=>su S v λb=>jf O e H C=some (b,S))->jf O e H C=some r):jf O e H C=some r:=k<|fk _ _ _ _ _ _ λB B h=>ur λB ae=>Bb h ae
end
def dH{α:Type}{x:Option α}{a b:α}(h:x=some a)(e:a=b):x=some b:=e▸h
def gX{x:Option (I×St)}{a b:Bool}(h:x=some (.bool a,C))(e:a=b):x=some (.bool b,C):=e▸h
def gY{a b:Int}{t:Bool}(h:decide (a=b)=t):eh C .eq (.int a) (.int b)=some t:=by exact V (A4 _ _ _)<|V h rfl
def kA{a b:Int}{t:Bool}(h:decide (a≠b)=t):eh C .bu (.int a) (.int b)=some t:=by exact V (W3 _ _ _)<|V h rfl
def lG{a b:Int}{t:Bool}(h:decide (a<b)=t):eh C .lt (.int a) (.int b)=some t:=by exact V (W4 _ _ _)<|V h rfl
def k8{a b:Int}{t:Bool}(h:decide (b<a)=t):eh C .gt (.int a) (.int b)=some t:=by exact V (W5 _ _ _)<|V h rfl
def ka{a b:Int}{t:Bool}(h:decide (b<=a)=t):eh C .ge (.int a) (.int b)=some t:=by exact V (W6 _ _ _)<|V h rfl
def ej{t:Bool}(h:l3 C x y=some t):eh C .dT x y=some t:=h
def p2{i:Int}{t:Bool}(h:decide (i≠0)=t):h3 C (.int i)=some t:=by exact V (Md _ _)<|V h rfl
def hM{c f:Nat}{F:Nat->Option I}(h:C[a]? =some (.cR c F))(hR:F m=none)(hm:dw c m=some f):mT dw C m (.L a)=some (some f):=(ai (yh dw m) h).trans<|congr (ai Fe hR) hm
def lH(h:C[a]? =some (.list l)):mT dw C m (.L a)=some none:=ai (yh dw m) h
def Fk{l:List (I×I)}(h:C[a]? =some (.dict l)):mT dw C m (.L a)=some none:=ai (yh dw m) h
def lI{r:I×St}(h:C[a]? =some (.list l))(aj:mF a m args S=some r):Ff C m (.L a) args S=some r:=(ai (yi a m args S) h).trans aj
def Fl{l:List (I×I)}{r:I×St}(h:C[a]? =some (.dict l))(aj:qr a m args S=some r):Ff C m (.L a) args S=some r:=(ai (yi a m args S) h).trans aj
section
variable{a b c e:b4}{z:I}{f D:Nat}{aw:List b4}
def fJ(h:H i=some v):bV O (.E i) H C=some (v,C):=ai (Option.map λv=>(v,C)) h
def lJ:bV O (.bc v) H C=some (v,C):=rfl
def sx(Y:bV O a H C=some (x,ax))(ae:bV O b H ax=some (y,bq))(aj:fq bq x y=some v):bV O (.av a b) H C=some (v,bq):=bB Y<|bB ae<|ai (Option.map λv=>(v,bq)) aj
def Bd{r:Option (I×St)}(Y:bV O a H C=some (x,ax))(ae:bV O b H ax=some (y,bq))(aj:iF op x y bq=r):bV O (.b8 op a b) H C=r:=bB Y<|bB ae aj
def ut(h:bV O e H C=some (v,ax)):cw O (.assign (.aR i) e) H C=some (.next,ar H i v,ax):=bB h rfl
end
section
variable{T:List af}{r:af}
def Mj(X:ei C A T)(h:T[t]? =some r):a0 a2 (d+1) 23 [.L A.t,J t] C=some (.bool<|decide<|r.kind∈[2,3,4,5],C):=go λk=>k _ X.cJ _ (X.row h) _ cN _<|ej<|mR C r.kind [2,3,4,5]
end
end
section
def Fm(h:J a=J b):a=b:=k0<|I.int.inj h
noncomputable def nK:I->Nat
 |.int i=>i.toNat
 |_=>0
noncomputable def Fn:I->Str
 |.str s=>s
 |_=>""
noncomputable def Fo:I->List I
 |.ak l=>l
 |_=>[]
noncomputable def k9(v:I)(i:Nat):I:=(Fo v).getD i .none
noncomputable def Xf(v:I):ed:=⟨Fn<|k9 v 0,nK<|k9 v 1,nK<|k9 v 2,nK<|k9 v 3⟩
noncomputable def Mk(v:I):af:=match nK (k9 v 0)with
 |1=>.key<|Fn<|k9 v 1
 |2=>.bool (nK<|k9 v 1)<|nK<|k9 v 2
 |3=>.str (Fn<|k9 v 1)<|nK<|k9 v 2
 |4=>.num (nK<|k9 v 1)<|nK<|k9 v 2
 |6=>.dM<|(Fo<|k9 v 1).map nK
 |8=>.obj ((Fo<|k9 v 1).map Xf)<|nK<|k9 v 6
 |_=>.ref<|nK<|k9 v 1
def Ml{α:Type}{f:α->I}{g:I->α}(h:∀a,g (f a)=a)(l:List α):(l.map f).map g=l:=by
 induction l with
 |nil=>rfl
 |cons a l ay=>exact uf.mpr ⟨h a,ay⟩
def Mm(r:af):Mk r.b6=r:=by
 cases r with
 |dM ps=>exact ai af.dM<|Ml (λB=>rfl) ps
 |obj ps f=>exact ai (af.obj · f)<|Ml (λB=>rfl) ps
 |_=>rfl
def Fp{r q:af}(h:r.b6=q.b6):r=q:=(Mm r).symm.trans<|(ai Mk h).trans<|Mm q
noncomputable instance:DecidableEq af:=λB B=>decidable_of_iff _ ⟨Fp,ai af.b6⟩
noncomputable def lK(T:List af):List (I×I):=T.zipIdx.map λp=>(p.1.b6,J p.2)
def Xg{T:List af}{r:af}:∀{n k:Nat},T[n]? =some r->T.Nodup->((T.zipIdx k).map λp=>(p.1.b6,J p.2)).find? (λp=>decide<|p.1=r.b6)=some (r.b6,J<|k+n):=by
 induction T with
 |nil=>exactλh=>bf h
 |cons x T ay=>
  intro n k h aG;have aG:=hH aG;cases n with
  |zero=>exact bp h▸vG (ck rfl)
  |succ n=>exact xg (cp λq=>aG.1<|(Fp q:x=r)▸dK h)<|(ay h aG.2).trans<|ai (λj:Nat=>some (r.b6,J j))<|Nat.succ_add k n
def Xh{T:List af}{r:af}:∀{k:Nat},r∉T->((T.zipIdx k).map λp=>(p.1.b6,J p.2)).find? (λp=>decide<|p.1=r.b6)=none:=by
 induction T with
 |nil=>exactλB=>rfl
 |cons x T ay=>exactλh=>xg (cp λq=>h<|(Fp q:x=r)▸bo)<|ay λq=>h<|bQ _ q
def Be{T:List af}{r:af}{n:Nat}(h:T[n]? =some r)(aG:T.Nodup):cE (lK T) r.b6=some (J n):=ai (Option.map Prod.snd)<|(Xg (k:=0) h aG).trans<|ai (λj:Nat=>some (r.b6,J j))<|ot n
def Fq{T:List af}{r:af}(h:r∉T):cE (lK T) r.b6=none:=ai (Option.map Prod.snd)<|Xh h
def Bf{T:List af}{k:I}(h:I.key k)(ag:nf k=2):e3 (lK T) k=true:=dI h (nt.mpr λp ab=>let⟨q,_,e⟩:=e4 ab;e▸ag▸rfl)
noncomputable def iP(T:List af)(r:af):List af:=if r∈T then T else T++[r]
section
variable{T:List af}{r:af}
def we{D:List (I×I)}{k:I}(h:C[a]? =some (.dict D))(an:e3 D k):l3 C k (.L a)=some (cE D k).isSome:=by
 show(match C[a]?with
  |some (.list l)=>if I.key k&&I.iW l then some (decide<|k∈l)else none
  |some (.dict l)=>if e3 l k then some (cE l k).isSome else none
  |_=>none)=_
 exact V h<|bh an
def Bg{D:List (I×I)}{k:I}(h:C[a]? =some (.dict D))(an:e3 D k)(aS:cE D k=some v):fq C (.L a) k=some v:=by
 show(match C[a]?with
  |some (.list l)=>match k with|.int i=>(jX i l.length).bind (l[·]?)|_=>none
  |some (.dict l)=>if e3 l k then cE l k else none
  |_=>none)=_
 exact V h<|(bh an).trans aS
def ei.Mn(X:ei C A T){k:I}(h:I.key k)(ag:nf k=2):l3 C k (.L<|A.t+2)=some (cE (lK T) k).isSome:=we X.av<|Bf h ag
def Xi(X:ei C A T)(aG:T.Nodup)(an:I.key r.b6)(h:T[t]? =some r):a0 a2 (d+1) 5 [.L A.t,r.b6] C=some (J t,C):=go λk=>k _ X.A6 _ (ej<|dH (X.Mn an rfl)<|ai Option.isSome<|Be h aG) _ X.A6 _<|Bg X.av (Bf an rfl)<|Be h aG
def Xj(T:List af):(lK T).length=T.length:=(c2 _).trans List.length_zipIdx
def Xk(h:r∉T):fB (lK T) r.b6 (J T.length)=lK (T++[r]):=by delta fB;exact V (Fq h)<|(ai (λj=>lK T++[(r.b6,J j)]) (ot _).symm).trans<|br iI<|ai (List.map λ(p:af×Nat)=>(p.1.b6,J p.2)) (List.zipIdx_append (xs:=T) (ys:=[r]) (k:=0)).symm
def Fr(X:ei C A T)(an:I.key r.b6)(h:r∉T)(ao:T.length<16000000)(aq:∀S,a0 a2 (d+1) 5 [.L A.t,r.b6] C=some (J T.length,S)->ei S A (T++[r])->bw C S [A.t+1,A.t+2]->S.length=C.length->bZ):bZ:=by
 refine uo (v:=r.b6) X.lF (qx _) (V (c2 _) ao) λax aU u=> ?_;have e:=u.get X.av<|dd<|oW _;refine oV (v:=J T.length) e (qx _) (Bf an rfl) (V (Xj T) ao) λbq aJ w=> ?_;have bU:=(u.bU.cj (ns:=[A.t+1,A.t+2]) λB q=>pB.mpr<|(cS q).imp_right nofun).trans<|w.bU.cj λB=>bQ _;obtain⟨F,g5,gu,hJ,q8⟩:=X.jH;refine aq bq (go λk=>k _ X.A6 _ (ej<|dH (X.Mn an rfl)<|ai Option.isSome<|Fq h) _ X.cJ _ _ (nJ X.lF) _ X.cJ _ (lH X.lF) _ _ (lI X.lF aU) _ (ky (u.get g5<|dU<|oW _) rfl hJ) _ aJ) ⟨X.pos,⟨F,bU.get g5<|mg (dU<|oW _)<|dU<|ow<|oW _,gu,hJ,q8⟩,?_,?_⟩ bU<|w.len.trans u.len
 ·exact V iI<|w.get (u.i6 X.lF)<|dU<|oW _
 ·exact(w.i6 e).trans<|ai (λl=>some<|b3.dict l)<|Xk h
def Bh(X:ei C A T)(aG:T.Nodup)(an:I.key r.b6)(ao:T.length<16000000)(aq:∀t S,a0 a2 (d+1) 5 [.L A.t,r.b6] C=some (J t,S)->ei S A (iP T r)->bw C S [A.t+1,A.t+2]->(iP T r)[t]? =some r->S.length=C.length->bZ):bZ:=by
 delta iP at aq;by_cases h:r∈T
 ·obtain⟨t,aP⟩:=q9.mp h;rw[bh h]at aq;exact aq t C (Xi X aG an aP) X (.refl _ _) aP rfl
 ·rw[bH h]at aq;exact Fr (d:=d) X an h ao λS Y ae ba cq=>aq _ _ Y ae ba List.getElem?_concat_length cq
end
end
section
noncomputable def dS(T:List af)(t:Nat):List Nat:=if t=2 then[]else match T[t]?with
 |some (.dM ps)=>ps
 |_=>[t]
noncomputable def eY:af->Int
 |.str B cr=>6
 |.num B cr=>7
 |_=> -1
noncomputable def af.bU:af->Option Nat
 |.bool B f=>some f
 |.str B f=>some f
 |.num B f=>some f
 |.obj B f=>some f
 |_=>none
noncomputable def af.d6(r:af):Bool:=decide<|r.bU=some 1
noncomputable def af.f3:af->af
 |.bool b B=>.bool b 0
 |.str s B=>.str s 0
 |.num n B=>.num n 0
 |.obj p B=>.obj p 0
 |r=>r
noncomputable def af.bc(r:af):Bool:=decide<|r.kind∈[2,3,4,5]
noncomputable def af.val(r:af):Bool:=decide<|r.kind∈[1,2,3,4,5]
def Mo(r:af)(gh:r.bU=none->decide (r.kind∈[2,3,4,5,8])=false->R)(dJ:∀f,r.bU=some f->decide (r.kind∈[2,3,4,5,8])=true->R):R:=by
 cases r with
 |key s=>exact gh rfl rfl
 |dM ps=>exact gh rfl rfl
 |ref d=>exact gh rfl rfl
 |_=>exact dJ _ rfl rfl
section
variable{r:af}{f:Nat}
def Bi(h:r.bU=some f):fq C r.b6 (.int<|-1)=some (J f):=by
 refine W8 ?_;cases r with
 |key s=>exact bf h
 |dM ps=>exact bf h
 |ref d=>exact bf h
 |_=>exact ai (λn=>some<|J n)<|bp h
def Mp(h:r.bU=some f):nh r.b6 none (some<|.int<|-1) C=some (.ak (J r.kind::r.rest.dropLast),C):=by
 cases r with
 |key s=>exact bf h
 |dM ps=>exact bf h
 |ref d=>exact bf h
 |_=>rfl
def Mq{a b:List I}(h:a.length+b.length<=16000000):iF .add (.ak a) (.ak b) C=some (.ak<|a++b,C):=bh h
def Mr(h:r.bU=some f):iF .add (.ak (J r.kind::r.rest.dropLast)) (.ak [.int 0]) C=some (r.f3.b6,C):=by
 cases r with
 |key s=>exact bf h
 |dM ps=>exact bf h
 |ref d=>exact bf h
 |_=>exact Mq<|pV rfl
def wf{o:Option Nat}(h:r.bU=o):r.d6=decide (o=some 1):=ai (λo=>decide<|o=some 1) h
end
section
variable{T:List af}{r:af}
def cY(h:a=b):eh C .eq (J a) (J b)=some true:=gY (ck<|by exact V h rfl)
def bN(h:¬a=b):eh C .eq (J a) (J b)=some false:=gY<|cp λq=>h<|k0 q
def kb(h:¬a=b):eh C .bu (J a) (J b)=some true:=kA<|ck λq=>h<|k0 q
def kc(h:a=b):eh C .bu (J a) (J b)=some false:=kA (cp λq=>q<|by exact V h rfl)
def yk(X:ei C A T)(h:T[t]? =some r):a0 a2 (d+1) 15 [.L A.t,J t] C=some (.ak<|(dS T t).map J,C):=by
 delta dS;by_cases ae:t=2
 ·exact V (bh ae)<|go λr=>r _<|cY (b:=2) ae
 ·refine V (bH ae)<|V h ?_;have yl:=λ(t6:¬r.kind=6)=>go (d:=d) (f:=15) (args:=[.L A.t,J t]) (C:=C) (r:=(.ak [J t],C)) λk=>k _ (bN (b:=2) ae) _ X.cJ _ (X.row h) _ cN _<|bN (b:=6) t6;cases r with
  |dM ps=>exact go λk=>k _ (bN (b:=2) ae) _ X.cJ _ (X.row h) _ cN _ (cY (b:=6) rfl) _ rfl
  |_=>exact yl nofun
def uu:a0 a2 (d+1) 16 [r.b6] C=some (.int<|eY r,C):=by refine V (sq rfl rfl) ?_;cases r<;>rfl
def Bj(X:ei C A T)(h:T[t]? =some r):a0 a2 (d+1) 25 [.L A.t,J t] C=some (.bool r.d6,C):=by
 have mU:=ej<|mR C r.kind [2,3,4,5,8];refine Mo r (λhf an=>gX (go λk=>k _ X.cJ _ (X.row h) _ cN _<|dH mU an) (wf hf).symm) λf hf an=> ?_;by_cases q:f=1
 ·exact gX (go λk=>k _ X.cJ _ (X.row h) _ cN _ (dH mU an) _ (Bi hf) _<|cY (b:=1) q) ((wf hf).trans<|ck<|ai some q).symm
 ·exact gX (go λk=>k _ X.cJ _ (X.row h) _ cN _ (dH mU an) _ (Bi hf) _<|bN (b:=1) q) ((wf hf).trans<|cp λh=>q<|bp h).symm
end
end
section
def Xl{l:List (I×I)}{k:I}(h:C[a]? =some (.dict l))(an:e3 l k):qr a 3 [k,v] C=some ((cE l k).getD v,C):=by delta qr;exact V h<|bh an
def Ms{l:List (I×I)}{k:I}(h:C[a]? =some (.dict l))(an:e3 l k):qr a 3 [k] C=some ((cE l k).getD .none,C):=by delta qr;exact V h<|bh an
def Mt{r:af}(h:I.key r.b6):I.key r.f3.b6:=by
 cases r with
 |str s f=>exact(show(I.hr 5 (.str s)&&true)=true from h)
 |obj p f=>exact(show(I.hr 5 (.ak<|p.map cn)&&true)=true from h)
 |bool b f=>rfl
 |num n f=>rfl
 |_=>exact h
noncomputable def sy(T:List af)(r:af):I:=if r.d6 then(cE (lK T) r.f3.b6).getD (.int<|-1)else .int (-1)
noncomputable def gH(gl:List Nat):List (I×I):=gl.map λn=>(J n,J 1)
noncomputable def kB(gl:List Nat)(i:Int):Bool:=decide (i∈gl.map λn:Nat=>(n:Int))
def Mu{i:Int}:(cE (gH gl)<|.int i).isSome=kB gl i:=by
 induction gl with
 |nil=>rfl
 |cons n gl ay=>
  by_cases h:(n:Int)=i
  ·exact(ai (λo=>(Option.map Prod.snd o).isSome)<|vG<|ck<|ai I.int h).trans (ck<|h▸bo).symm
  ·exact(ai (λo=>(Option.map Prod.snd o).isSome)<|xg (cp λq=>h<|I.int.inj q) rfl).trans<|ay.trans<|decide_eq_decide.mpr ⟨bQ _,λq=>(cS q).resolve_left λq=>h q.symm⟩
def Fs{i:Int}:e3 (gH gl) (.int i)=true:=dI rfl (nt.mpr λp ab=>let⟨q,_,e⟩:=e4 ab;e▸rfl)
def oX{n:Nat}:kB gl (n:Int)=decide (n∈gl):=decide_eq_decide.mpr ⟨λq=>let⟨_,aj,e⟩:=e4 q;k0 e▸aj,λh=>i1 ⟨n,h,rfl⟩⟩
def sz{g:Nat}{i:Int}(h:C[g]? =some (.dict<|gH gl)):l3 C (.int i) (.L g)=some (kB gl i):=dH (we h Fs) Mu
noncomputable def kC(gl:List Nat)(n:Nat):List Nat:=if n∈gl then gl else gl++[n]
def Xm{n:Nat}:fB (gH gl) (J n) (J 1)=gH (kC gl n):=by
 delta fB kC;refine V (Mu.trans oX) ?_;by_cases hn:n∈gl
 ·exact V (ck hn)<|V (bh hn)<|jB.trans<|tL λm B=>ite_self _
 ·exact V (cp hn)<|V (bH hn) (iI (l₁:=gl) (l₂:=[n]) (f:=λn=>(J n,J 1))).symm
def Ft{n:Nat}:m∈kC gl n↔m∈gl\/m=n:=by
 delta kC;by_cases h:n∈gl
 ·exact V (bh h) ⟨.inl,λq=>q.elim id λq=>q▸h⟩
 ·exact V (bH h)<|qv.trans<|or_congr_right vx
def Fu{n:Nat}(aG:gl.Nodup):(kC gl n).Nodup:=by
 delta kC;by_cases h:n∈gl
 ·exact V (bh h) aG
 ·exact V (bH h)<|kU.mpr ⟨aG,oS ⟨nofun,.nil⟩,λa aU b aj q=>h<|bR aj▸q▸aU⟩
def ym{n:Nat}:(kC gl n).length<=gl.length+1:=by unfold kC;split<;>simp
section
variable{T:List af}{r:af}
def Fv(h:r.d6=false):sy T r=.int (-1):=bH λq=>b7<|br h q
def Xn(X:ei C A T)(qE:I.key r.b6)(h:T[t]? =some r):a0 a2 (d+1) 17 [.L A.t,J t] C=some (sy T r,C):=by
 have mU:=ej<|mR C r.kind [2,3,4,5,8];refine Mo r (λhf an=>V (Fv<|wf hf)<|go λk=>k _ X.cJ _ (X.row h) _ cN _<|dH mU an) λf hf an=> ?_;by_cases q:f=1
 ·exact V (show sy T r=(cE (lK T) r.f3.b6).getD (.int<|-1)from bh<|(wf hf).trans<|ck<|ai some q)<|go λk=>k _ X.cJ _ (X.row h) _ cN _ (dH mU an) _ (Bi hf) _ (cY (b:=1) q) _ X.A6 _ (Fk X.av) _ _ (Mp hf) _ _ (Mr hf) _ _<|Fl X.av<|Xl (v:=.int<|-1) X.av<|Bf (T:=T) (Mt qE) rfl
 ·exact V (Fv<|(wf hf).trans<|cp λh=>q<|bp h)<|go λk=>k _ X.cJ _ (X.row h) _ cN _ (dH mU an) _ (Bi hf) _<|bN (b:=1) q
noncomputable def mV(T:List af)(gl:List Nat)(r:af):Bool:=(match sy T r with
 |.int i=> !kB gl i
 |_=>true)&& !kB gl (eY r)
def Xo(T:List af)(r:af)(k:∀i:Int,sy T r=.int i->R):R:=by
 cases hf:r.d6 with
 |false=>exact k _<|Fv hf
 |true=>
  have e:sy T r=(((lK T).find? λp=>decide<|p.1=r.f3.b6).map Prod.snd).getD (.int<|-1):=bh hf;cases aC:(lK T).find? (λp=>decide<|p.1=r.f3.b6)with
  |none=>exact k _<|e.trans<|ai (λo=>(Option.map Prod.snd o).getD<|.int<|-1) aC
  |some p=>obtain⟨q,B,rfl⟩:=e4<|List.mem_of_find?_eq_some aC;exact k _<|e.trans<|ai (λo=>(Option.map Prod.snd o).getD<|.int<|-1) aC
def Xp{g:Nat}(X:ei C A T)(qE:I.key r.b6)(h:T[t]? =some r)(bA:C[g]? =some (.dict<|gH gl)):
  a0 a2 (d+2) 19 [.L A.t,.L g,J t] C=some (.bool<|mV T gl r,C):=by
 refine Xo T r λi ah=> ?_;have Y:=eF ah (P:=λv=>a0 a2 (d+1) 17 [.L A.t,J t] C=some (v,C))<|Xn X qE h;delta mV;refine V ah ?_;show _=some (I.bool<|!kB gl i&& !kB gl (eY r),C);cases dp:kB gl i with
 |true=>exact go λk=>k _ _ Y _<|dH (ej<|sz bA) dp
 |false=>exact go λk=>k _ _ Y _ (dH (ej<|sz bA) dp) _ X.cJ _ (X.row h) _ _ uu _ (ai (Option.map (!·))<|sz bA)
noncomputable def fT(gl:List Nat):Int:=if 0∈gl then 0 else if 13∈gl then 13 else if 1∈gl then 1 else-1
def lL{body:List dB}{r:eG×bT×St}(Y:bV O cg H C=some (.ak l,C))(ae:fX (λB=>true) (λx H s=>cG O body (ar H i x) s) l H C=some r):cw O (.gQ (.aR i) cg body) H C=some r:=by refine V (A2 (l:=l) (iv:=none) Y rfl) ?_;exact ae
def wg{body:List dB}{z:I}{r:Option (eG×bT×St)}(Y:bV O cg H C=some (z,ax))(ae:ni ax z=some (l,iv))(h:fX (λs=>hc s iv l) (λx H s=>(gC cL x H).bind λci=>cG O body ci s) l H ax=r):cw O (.gQ cL cg body) H C=r:=(A2 Y ae).trans h
def eT{de:I->bT->St->Option (eG×bT×St)}{r:eG×bT×St}(h:el C)(aP:de x H C=some (.next,ci,ax))(aH:fX el de xs ci ax=some r):fX el de (x::xs) H C=some r:=by exact V (W2 h aP)<|V aH rfl
def Bk{g:Nat}(bA:C[g]? =some (.dict<|gH gl)):a0 a2 (d+1) 20 [.L g] C=some (.int<|fT gl,C):=by
 have e:∀{n:Nat},n∈gl->eh C .dT (J n) (.L g)=some true:=λh=>dH (sz bA)<|oX.trans<|ck h;have n:∀{n:Nat},¬n∈gl->eh C .dT (J n) (.L g)=some false:=λh=>dH (sz bA)<|oX.trans<|cp h;delta fT;by_cases h0:0∈gl
 ·exact V (bh h0)<|go λr=>r _ _ _<|lL rfl<|mQ rfl<|ho λr=>r _<|e h0
 ·refine V (bH h0) ?_;by_cases j8:13∈gl
  ·exact V (bh j8)<|go λr=>r _ _ _<|lL rfl<|eT rfl (ho λr=>r _<|n h0)<|mQ rfl<|ho λr=>r _<|e j8
  ·refine V (bH j8) ?_;by_cases Y:1∈gl
   ·exact V (bh Y)<|go λr=>r _ _ _<|lL rfl<|eT rfl (ho λr=>r _<|n h0)<|eT rfl (ho λr=>r _<|n j8)<|mQ rfl<|ho λr=>r _<|e Y
   ·exact V (bH Y)<|go λr=>r _ _ _<|lL rfl<|eT rfl (ho λr=>r _<|n h0)<|eT rfl (ho λr=>r _<|n j8)<|eT rfl (ho λr=>r _<|n Y)<|v9 rfl
noncomputable def f5(gl:List Nat):List Nat:=if(8∈gl\/14∈gl)/\(9∈gl\/15∈gl)then kC (kC gl 8) 9 else gl
end
end
section
def p3{g:Nat}(bA:C[g]? =some (.dict<|gH gl)){n:Nat}(h:n∈gl):eh C .dT (J n) (.L g)=some true:=dH (sz bA)<|oX.trans<|ck h
def oY{g:Nat}(bA:C[g]? =some (.dict<|gH gl)){n:Nat}(h:¬n∈gl):eh C .dT (J n) (.L g)=some false:=dH (sz bA)<|oX.trans<|cp h
def Xq(gl:List Nat):(gH gl).length=gl.length:=c2 _
section
variable{T:List af}{r:af}
def Fw{g n:Nat}(bA:C[g]? =some (.dict<|gH gl))(h0:g≠0)(ao:gl.length<1001)(k:∀S,qt C (J n) (J 1) (.L g)=some S->S[g]? =some (.dict<|gH<|kC gl n)->bw C S [g]->S.length=C.length->R):R:=oV bA h0 Fs (V (Xq gl)<|ea ao<|by decide) λS e u=>k S e ((u.i6 bA).trans<|ai (λD=>some<|b3.dict D) Xm) u.bU u.len
def Xr{g:Nat}(bA:C[g]? =some (.dict<|gH gl))(h0:g≠0)(ao:gl.length<1000)(aq:∀S,a0 a2 (d+1) 18 [.L g] C=some (.none,S)->S[g]? =some (.dict<|gH<|f5 gl)->bw C S [g]->S.length=C.length->bZ):bZ:=by
 delta f5 at aq;by_cases aU:8∈gl\/14∈gl
 ·by_cases aj:9∈gl\/15∈gl
  ·refine Fw (n:=8) bA h0 (ow ao) λax be g1 f1 dV=>Fw (n:=9) g1 h0 (c1 ym<|tV ao) λbq bF bd f2 d1=>aq bq ?_ (V (bh ⟨aU,aj⟩) bd) (f1.trans f2)<|d1.trans dV;by_cases iL:8∈gl
   ·by_cases gv:9∈gl
    ·exact go λr=>r _ (p3 bA iL) _ (p3 bA gv) _ be _ bF
    ·exact go λr=>r _ (p3 bA iL) _ (oY bA gv) _ (p3 bA<|aj.resolve_left gv) _ be _ bF
   ·by_cases gv:9∈gl
    ·exact go λr=>r _ (oY bA iL) _ (p3 bA<|aU.resolve_left iL) _ (p3 bA gv) _ be _ bF
    ·exact go λr=>r _ (oY bA iL) _ (p3 bA<|aU.resolve_left iL) _ (oY bA gv) _ (p3 bA<|aj.resolve_left gv) _ be _ bF
  ·refine aq C ?_ (V (bH λq=>aj q.2) bA) (.refl _ _) rfl;by_cases iL:8∈gl
   ·exact go λr=>r _ (p3 bA iL) _ (oY bA λq=>aj<|.inl q) _<|oY bA λq=>aj<|.inr q
   ·exact go λr=>r _ (oY bA iL) _ (p3 bA<|aU.resolve_left iL) _ (oY bA λq=>aj<|.inl q) _<|oY bA λq=>aj<|.inr q
 ·exact aq C (go λr=>r _ (oY bA λq=>aU<|.inl q) _<|oY bA λq=>aU<|.inr q) (V (bH λq=>aU q.1) bA) (.refl _ _) rfl
def Xs{g:Nat}(h0:g≠0)(c8:List Nat):∀{gl:List Nat} {H:bT} {C:St},H 2=some (.L g)->C[g]? =some (.dict<|gH gl)->gl.length+c8.length<1000->(∀aT S,fX (λB=>true) (λx H s=>(gC (.aR 4) x H).bind λci=>cG O [.setItem (.E 2) (.E 4)<|U 1] ci s) (c8.map J) H C=some (.next,aT,S)->(∀i,i≠4->aT i=H i)->S[g]? =some (.dict<|gH<|c8.foldl kC gl)->bw C S [g]->S.length=C.length->bZ)->bZ:=by
 induction c8 with
 |nil=>exactλae bA ao aq=>aq _ _ rfl (λB B=>rfl) bA (.refl _ _) rfl
 |cons q c8 ay=>intro gl H C ae bA ao aq;refine Fw (n:=q) bA h0 (pG<|hi<|c1 (cT _ _) ao) λax aJ g1 f1 dV=> ?_;exact ay (H:=ar H 4<|J q) ae g1 (c1 (a3 (fl ym _)<|cM<|vE _ _) ao) λaT S aD aF cP et j0=>aq aT S (eT rfl (eJ λr=>r _ ae _ rfl _ aJ) aD) (λi ah=>(aF i ah).trans<|pZ _ _ ah) cP (f1.trans et)<|j0.trans dV
noncomputable def gather(T:List af)(ts:List Nat)(gl:List Nat):List Nat:=ts.foldl (λgl t=>(dS T t).foldl kC gl) gl
noncomputable def wh(T:List af)(ts:List Nat):Nat:=(ts.map λt=>(dS T t).length).sum
def Mv(c8:List Nat):∀{gl:List Nat},(c8.foldl kC gl).length<=gl.length+c8.length:=by
 induction c8 with
 |nil=>exact gF _
 |cons q c8 ay=>exact a3 ay<|a3 (fl ym _)<|cM<|vE _ _
def Xu{p:Nat}:∀{gl:List Nat},p∈c8.foldl kC gl↔p∈gl\/p∈c8:=by
 induction c8 with
 |nil=>exact⟨.inl,λq=>q.resolve_right b5⟩
 |cons q c8 ay=>exact ay.trans<|(or_congr_left Ft).trans<|or_assoc.trans<|or_congr_right pB.symm
def Xv:∀{gl:List Nat},gl.Nodup->(c8.foldl kC gl).Nodup:=by
 induction c8 with
 |nil=>exact id
 |cons q c8 ay=>exactλh=>ay<|Fu h
def Fx{p:Nat}:∀{gl:List Nat},p∈gather T ts gl↔p∈gl\/∃t∈ts,p∈dS T t:=by
 induction ts with
 |nil=>exact⟨.inl,λq=>q.resolve_right λ⟨B,h,cr⟩=>b5 h⟩
 |cons t ts ay=>exact ay.trans<|(or_congr_left Xu).trans<|or_assoc.trans<|or_congr_right ⟨λq=>q.elim (λh=>⟨t,bo,h⟩) λ⟨x,h,k⟩=>⟨x,bQ _ h,k⟩,λ⟨x,h,k⟩=>(cS h).elim (λe=>.inl<|e▸k) λh=>.inr ⟨x,h,k⟩⟩
def Xw:∀{gl:List Nat},gl.Nodup->(gather T ts gl).Nodup:=by
 induction ts with
 |nil=>exact id
 |cons t ts ay=>exactλh=>ay<|Xv h
def Xx(ts:List Nat):∀gl:List Nat,(gather T ts gl).length<=gl.length+wh T ts:=by
 induction ts with
 |nil=>exactλgl=>gF _
 |cons t ts ay=>exactλgl=>a3 (ay _)<|a3 (fl (Mv _) _)<|cM<|iZ _ _ _
def Xy{g:Nat}{cg:Option Nat}{items:List I}(dp:A.t+2<g)(ts:List Nat):∀{gl:List Nat} {H:bT} {C:St},ei C A T->H 0=some (.L A.t)->H 2=some (.L g)->C[g]? =some (.dict<|gH gl)->gl.length+wh T ts<1000->(∀t∈ts,(T[t]?).isSome=true)->(∀s:St,bw C s [g]->hc s cg items)->
  (∀aT S,fX (λs=>hc s cg items) (λx H s=>(gC (.aR 3) x H).bind λci=>cG (bk<|d+1) [.gQ (.aR 4) (.a5 15 [(.E 0),(.E 3)]) [.setItem (.E 2) (.E 4)<|U 1]] ci s) (ts.map J) H C=some (.next,aT,S)->(∀i,i≠4->i≠3->aT i=H i)->S[g]? =some (.dict<|gH<|gather T ts gl)->bw C S [g]->S.length=C.length->bZ)->bZ:=by
 induction ts with
 |nil=>exactλX fM bg bA ao aS hI aq=>aq _ _ (v9<|hI _<|.refl _ _) (λB B B=>rfl) bA (.refl _ _) rfl
 |cons t ts ay=>intro gl H C X fM bg bA ao aS hI aq;obtain⟨r,aH⟩:=hT<|aS t bo;have ao:gl.length+(dS T t).length+wh T ts<1000:=c1 (cM<|iZ _ _ _) ao;refine Xs (O:=bk<|d+1) (dd<|lM dp) (dS T t) (H:=ar H 3<|J t) bg bA (c1 (cT _ _) ao) λci ax pY nG uk nH A1=> ?_;exact ay (X.keep nH λa B h=>fv<|dU<|c1 h dp) ((nG 0<|by decide).trans fM) ((nG 2<|by decide).trans bg) uk (c1 (fl (Mv _) _) ao) (λt aP=>aS t<|bQ _ aP) (λs aJ=>hI s<|nH.trans aJ) λdr bq fF hu mW Fy Xz=>aq dr bq (eT (hI C<|.refl _ _) (oT<|lL (i7 λk=>k _ fM _ rfl _ _<|yk X aH) pY) fF) (λi cq ba=>(hu i cq ba).trans<|(nG i cq).trans<|pZ _ _ ba) mW (nH.trans Fy)<|Xz.trans A1
noncomputable def kd(x:Nat):List Nat->List Nat
 |[]=>[x]
 |y::r=>if x<=y then x::y::r else y::kd x r
noncomputable def la:List Nat->List Nat
 |[]=>[]
 |x::r=>kd x<|la r
def XA{x:Nat}{l:List Nat}:qq (x:Int) (l.map λn:Nat=>(n:Int))=(kd x l).map λn:Nat=>(n:Int):=by
 induction l with
 |nil=>rfl
 |cons y l ay=>
  by_cases h:x<=y
  ·exact V (show kd x (y::l)=x::y::l from bh h)<|bh<|Int.ofNat_le.mpr h
  ·exact V (show kd x (y::l)=y::kd x l from bH h)<|(bH λq=>h<|Int.ofNat_le.mp q).trans<|ai _ ay
def XB{l:List Nat}:vj (l.map λn:Nat=>(n:Int))=(la l).map λn:Nat=>(n:Int):=by
 induction l with
 |nil=>rfl
 |cons x l ay=>exact(ai _ ay).trans XA
def Mw{x y:Nat}{l:List Nat}:y∈kd x l↔y=x\/y∈l:=by
 induction l with
 |nil=>exact pB
 |cons z l ay=>
  by_cases h:x<=z
  ·exact V (show kd x (z::l)=x::z::l from bh h) pB
  ·exact V (show kd x (z::l)=z::kd x l from bH h)<|pB.trans<|(or_congr_right ay).trans<|or_left_comm.trans<|or_congr_right pB.symm
def uv{y:Nat}{l:List Nat}:y∈la l↔y∈l:=by
 induction l with
 |nil=>exact Iff.rfl
 |cons x l ay=>exact Mw.trans<|(or_congr_right ay).trans pB.symm
def XC{x:Nat}{l:List Nat}:x∉l->l.Nodup->(kd x l).Nodup:=by
 induction l with
 |nil=>exactλB B=>oS ⟨b5,.nil⟩
 |cons z l ay=>
  intro ac aG;by_cases h:x<=z
  ·exact V (show kd x (z::l)=x::z::l from bh h)<|oS ⟨ac,aG⟩
  ·exact V (show kd x (z::l)=z::kd x l from bH h)<|oS ⟨λq=>(Mw.mp q).elim (λe=>ac<|e▸bo) (hH aG).1,ay (λq=>ac<|bQ _ q) (hH aG).2⟩
def XD{l:List Nat}:l.Nodup->(la l).Nodup:=by
 induction l with
 |nil=>exact id
 |cons x l ay=>exactλh=>XC (λq=>(hH h).1<|uv.mp q)<|ay (hH h).2
def XE{x:Nat}{l:List Nat}:(kd x l).length=l.length+1:=by
 induction l with
 |nil=>rfl
 |cons z l ay=>
  by_cases h:x<=z
  ·exact V (show kd x (z::l)=x::z::l from bh h) rfl
  ·exact V (show kd x (z::l)=z::kd x l from bH h)<|ai Nat.succ ay
def Mx{l:List Nat}:(la l).length=l.length:=by
 induction l with
 |nil=>rfl
 |cons x l ay=>exact XE.trans<|ai Nat.succ ay
def XF(l:List Nat):xm (l.map J)=some (l.map λn:Nat=>(n:Int)):=by
 induction l with
 |nil=>rfl
 |cons x l ay=>exact ai (Option.map _) ay
def XG{g:Nat}(bA:C[g]? =some (.dict<|gH gl))(ao:gl.length<64):kQ .sorted (.L g) C=some (.L C.length,C++[.list<|(la gl).map J]):=by
 have e:ty ((gH gl).map Prod.fst)=some ((la gl).map J):=by rw[show(gH gl).map Prod.fst=gl.map J from jB];delta ty;exact(bh<|V (c2 _) ao).trans<|V (XF _)<|ai some<|(ai _ XB).trans jB
 show(match C[g]?with
  |some (b3.dict l)=>(ty<|l.map Prod.fst).map λr=>(I.L C.length,C++[b3.list r])
  |_=>none)=_
 exact V bA<|ai (Option.map λr=>(I.L C.length,C++[b3.list r])) e
def sB{de:I->St->Option (Option I×St)}{y:Option I}(ag:el C)(aP:de x C=some (y,ax))(h:ir el de xs ax=some (ys,bq)):ir el de (x::xs) C=some (y.toList++ys,bq):=by show(if el C then _ else _)=_;refine(bh ag).trans<|V aP ?_;show(match ir el de xs ax with|none=>none|some (ys,bq)=>some (y.toList++ys,bq))=_;exact V h rfl
def sC{de:I->St->Option (Option I×St)}(ag:el C)(aP:de x C=some (some v,ax))(h:ir el de xs ax=some (ys,bq)):ir el de (x::xs) C=some (v::ys,bq):=sB ag aP h
def XH{de:I->St->Option (Option I×St)}{p:Nat->Bool}(ag:el C)(xs:List Nat):(∀x∈xs,de (J x) C=some (if p x then some (J x)else none,C))->ir el de (xs.map J) C=some ((xs.filter p).map J,C):=by
 induction xs with
 |nil=>exactλB=>bh ag
 |cons x xs ay=>
  intro h;refine(sB ag (h x bo)<|ay λy a8=>h y<|bQ _ a8).trans<|ai (λl=>some (l,C)) ?_;cases ab:p x with
  |true=>exact V (xB ab) rfl
  |false=>exact V (vv λq=>b7<|br ab q) rfl
end
end
section
def Fz(C:St)(x:I)(ts:List Nat):Prop:=x=.ak (ts.map J)\/∃a,x=.L a/\C[a]? =some (.list<|ts.map J)
noncomputable def dq(T:List af)(ts:List Nat):List Nat:=gather T ts []
noncomputable def d3(T:List af)(ts:List Nat):List Nat:=(la<|f5<|dq T ts).filter λn=>match T[n]?with
 |some r=>mV T (f5<|dq T ts) r
 |none=>false
noncomputable def hN(T:List af)(ts:List Nat):List af:=if 0<=fT (dq T ts)then T else if 2<=(d3 T ts).length then iP T (.dM<|d3 T ts)else T
structure wi(T:List af)(ts:List Nat)(u:Nat):Prop where
 top:0<=fT (dq T ts)->(u:Int)=fT (dq T ts)
 none:fT (dq T ts)<0->d3 T ts=[]->u=2
 aR:fT (dq T ts)<0->∀x,d3 T ts=[x]->u=x
 iV:fT (dq T ts)<0->2<=(d3 T ts).length->(hN T ts)[u]? =some (.dM<|d3 T ts)
def Bl{n:Nat}(l:List Nat):I.gR n (l.map J)=true:=(ai (I.gR n) (jB (g:=I.int) (f:=λn:Nat=>(n:Int)) (l:=l)).symm).trans<|A5 n _
def XI(gl:List Nat):(f5 gl).length<=gl.length+2:=by
 delta f5;by_cases h:(8∈gl\/14∈gl)/\(9∈gl\/15∈gl)
 ·exact V (bh h)<|a3 ym<|kX ym
 ·exact V (bH h)<|cT _ _
def XJ(aG:gl.Nodup):(f5 gl).Nodup:=by
 delta f5;by_cases h:(8∈gl\/14∈gl)/\(9∈gl\/15∈gl)
 ·exact V (bh h)<|Fu<|Fu aG
 ·exact V (bH h) aG
def wj{p:Nat}:p∈f5 gl↔p∈gl\/((p=8\/p=9)/\(8∈gl\/14∈gl)/\(9∈gl\/15∈gl)):=by
 delta f5;by_cases h:(8∈gl\/14∈gl)/\(9∈gl\/15∈gl)
 ·exact V (bh h)<|Ft.trans<|(or_congr_left Ft).trans<|or_assoc.trans<|or_congr_right ⟨λq=>⟨q,h⟩,And.left⟩
 ·exact V (bH h) ⟨.inl,λq=>q.elim id λq=>absurd q.2 h⟩
def My(gl:List Nat):fT gl=0\/fT gl=13\/fT gl=1\/fT gl= -1:=by
 delta fT;by_cases h0:0∈gl
 ·exact .inl<|bh h0
 ·refine .inr<|V (bH h0) ?_;by_cases Y:13∈gl
  ·exact .inl<|bh Y
  ·refine .inr<|V (bH Y) ?_;by_cases ae:1∈gl
   ·exact .inl<|bh ae
   ·exact .inr<|bH ae
section
variable{T:List af}{r:af}
def ra{z:I}(Y:bV O cg H C=some (z,ax))(ae:ni ax z=some (l,iv))(ba:ir (λs=>hc s iv l) (λx s=>(gC cL x H).bind λci=>(gp O ifs ci s).bind λq=>if q.1 then(bV O elt ci q.2).bind λu=>some (some u.1,u.2)else some (none,q.2)) l ax=some (ys,bq)):
  bV O (.comp elt cL cg ifs) H C=some (.L bq.length,bq++[.list ys]):=bB Y<|bB ae<|bB ba rfl
def lN(h:C[a]? =some (.list l)):ni C (.L a)=some (l,some a):=by show(match C[a]?with|some (.list l)=>some (l,some a)|_=>none)=_;exact V h rfl
def iw(h:C[a]? =some (.list l)):hc C (some a) l=true:=by show(match C[a]?with|some (.list m)=>decide (m=l)|_=>false)=_;exact V h<|ck rfl
def uw(h:C[a]? =some (.list l)):h3 C (.L a)=some (!l.isEmpty):=by show(match C[a]?with|some (.list l)=>some (!l.isEmpty)|_=>none)=_;exact V h rfl
def yn(h:C[a]? =some (.list l)):kQ .tuple (.L a) C=some (.ak l,C):=by show(match C[a]?with|some (.list l)=>some (I.ak l,C)|_=>none)=_;exact V h rfl
def d8{l:List b3}:(C++o::l)[C.length]? =some o:=(wk<|gF _).trans<|V (Nat.sub_self _) rfl
def Mz{e:b4}{b:Bool}(h:bV O e H C=some (.bool b,ax)):gp O [e] H C=some (b,ax):=bB h (by cases b<;>rfl)
def MA{e:b4}{b:Bool}(h:bV O e (ar H i x) C=some (.bool b,C)):
  ((gC (.aR i) x H).bind λci=>(gp O [e] ci C).bind λq=>if q.1 then(bV O (.E i) ci q.2).bind λu=>some (some u.1,u.2)else some (none,q.2))=some (if b then some x else none,C):=
 bB (x:=gC (.aR i) x H) rfl (bB (Mz h) (by cases b;exact rfl;exact bB (ai (Option.map _)<|A3 _ _ _) rfl))
def XK(ac:Fz C x ts)(k:∀iv,ni (C++[o]) x=some (ts.map J,iv)->(∀s:St,bw (C++[o]) s [C.length]->hc s iv (ts.map J)=true)->R):R:=ac.elim (λe=>k none (e▸rfl) λB B=>rfl) λ⟨a,e,aU⟩=>have h:=(bw.push C [o] []).get aU b5;k (some a) (e▸lN h) λs aJ=>iw<|aJ.get h<|fv<|dU<|fc aU
def MB(X:ei C A T)(aG:T.Nodup)(qE:∀r∈T,I.key r.b6)(hlen:T.length<16000000)(ac:Fz C x ts)(aS:∀t∈ts,(T[t]?).isSome=true)(XL:∀t∈ts,∀p∈dS T t,(T[p]?).isSome=true)(iL:(T[8]?).isSome=true)(gv:(T[9]?).isSome=true)(ao:wh T ts<60)(aq:∀u S,a0 a2 (d+3) 21 [.L A.t,x] C=some (J u,S)->ei S A (hN T ts)->bw C S [A.t+1,A.t+2]->wi T ts u->bZ):bZ:=by
 have MC:(dq T ts).length<60:=c1 (a3 (Xx ts [])<|cM<|ot _) ao;have f1:bw C (C++[.dict []]) []:=bw.push _ _ _;have dC:=X.keep f1 λB B B h=>nomatch h;have FA:∀a,A.t<=a->a<=A.t+2->a∉[C.length]:=λa B h=>fv<|dU<|c1 h X.lt;have own:∀{s aY:St},bw C s []->bw s aY [C.length]->bw C aY []:=λf g=>⟨a3 f.len g.len,λa aU B=>(g.same a (c7 aU f.len)<|fv<|dU aU).trans<|f.same a aU b5⟩;refine XK (o:=.dict []) ac λiv hit hI=> ?_;refine Xy (d:=d+1) X.lt ts (gl:=[]) (H:=ar (cm [.L A.t,x]) 2<|.L C.length) dC rfl rfl d8 (c1 (cM<|ot _)<|ea ao<|by decide) aS hI λdr bq pY nG bA nH A1=> ?_;change bq[C.length]? =some (.dict<|gH<|dq T ts)at bA;have fM:=nG 0 (by decide) (by decide);have bg:=nG 2 (by decide) (by decide);have bF:=(A2 (O:=bk<|d+2) (cL:=.aR 3) (H:=ar (cm [.L A.t,x]) 2<|.L C.length) (cg:=.E 1) rfl hit).trans pY;by_cases mX:0<=fT (dq T ts)
 ·obtain⟨n,hn⟩:=xG mX;exact aq n bq (dH (p1 λk=>k _ _ _ bF _ bg _ _ (Bk bA) _ rfl _ (ka<|ck mX) _ rfl)<|ai (λi=>(I.int i,bq)) hn) (V (show hN T ts=T from bh mX)<|dC.keep nH FA) ((own f1 nH).cj nofun) ⟨λB=>hn.symm,λh=>absurd mX<|pD.mpr h,λh=>absurd mX<|pD.mpr h,λh=>absurd mX<|pD.mpr h⟩
 refine Xr (d:=d+1) bA (dd<|lM X.lt) (ea MC<|by decide) λcB FB MD ME FC=> ?_;have MF:(la<|f5<|dq T ts).length<64:=V Mx (c1 (XI _)<|ea (Nat.add_lt_add_right MC 2)<|by decide);have hk:=own (own f1 nH) ME;have f4:=bw.push cB [.list<|(la<|f5<|dq T ts).map J] [];have f6:=((dC.keep nH FA).keep ME FA).keep f4 λB B B h=>nomatch h;have XM:=f4.get MD b5;have ag:=ra (O:=bk<|d+2) (elt:=.E 17) (cg:=.cx .sorted<|.E 2) (cL:=.aR 17) (ifs:=[(.a5 19 [(.E 0),(.E 2),(.E 17)])]) (H:=ar dr 5<|.int<|fT<|dq T ts) (i7 λk=>k _ bg _ _<|XG MD<|eF Mx MF) (lN d8)
  (XH (p:=λn=>match T[n]?with
   |some r=>mV T (f5<|dq T ts) r
   |none=>false) (iw d8) _ λq aC=>by
   obtain⟨sD,FD⟩:=hT ((wj.mp (uv.mp aC)).elim (λh=>(Fx.mp h).elim (λh=>absurd h b5) λ⟨t,aP,mY⟩=>XL t aP q mY) λh=>h.1.elim (λe=>e▸iL) λe=>e▸gv);exact V FD (MA (i7 λk=>k _ fM _ bg _ rfl _ _ (Xp f6 (qE sD (dK FD)) FD XM))))
 have kx:=bw.push (cB++[.list<|(la<|f5<|dq T ts).map J]) [.list<|(d3 T ts).map J] [];have jI:=f6.keep kx λB B B h=>nomatch h;have bU:=(hk.trans f4).trans kx;have p4:=d8 (C:=cB++[.list<|(la<|f5<|dq T ts).map J]) (o:=.list<|(d3 T ts).map J) (l:=[]);have j0:(cB++[b3.list<|(la<|f5<|dq T ts).map J]).length=cB.length+1:=eo;have wl:hN T ts=if 2<=(d3 T ts).length then iP T (.dM<|d3 T ts)else T:=bH mX
 change bV _ _ _ _=some (.L _,_++[.list<|(d3 T ts).map J])at ag;generalize (cB++[b3.list<|(la<|f5<|dq T ts).map J]).length=Bm at ag p4;generalize (cB++[b3.list<|(la<|f5<|dq T ts).map J])++[.list<|(d3 T ts).map J]=iN at ag jI bU p4;have hle:=nJ p4;cases lr:d3 T ts with
 |nil=>rw[lr]at p4;exact aq 2 iN (p1 λk=>k _ _ _ bF _ bg _ _ (Bk bA) _ rfl _ (ka<|cp mX) _ bg _ _ FB _ _ ag _ rfl _<|uw p4) (V wl<|V lr jI) (bU.cj nofun) ⟨λh=>absurd h mX,λB B=>rfl,λB x h=>(nomatch lr.symm.trans h),λB h=>(vu 1<|a3 h<|cM<|ai List.length lr).elim⟩
 |cons x xs=>
  cases xs with
  |nil=>rw[lr]at p4 hle;exact aq x iN (p1 λk=>k _ _ _ bF _ bg _ _ (Bk bA) _ rfl _ (ka<|cp mX) _ bg _ _ FB _ _ ag _ rfl _ (uw p4) _ rfl _ _ hle _ (cY (b:=1) rfl) _ rfl _<|j9 (i:=0) p4 rfl) (V wl<|V lr jI) (bU.cj nofun) ⟨λh=>absurd h mX,λB h=>(nomatch lr.symm.trans h),λB y h=>(List.cons.inj<|br lr h).1,λB h=>(Nat.lt_irrefl 1<|a3 h<|cM<|ai List.length lr).elim⟩
  |cons y ys=>
   have XN:(d3 T ts).length<64:=c1 (List.length_filter_le _ _) MF;have ae:2<=(d3 T ts).length:=V lr<|Nat.le_add_left _ _;have aj:((d3 T ts).map J).isEmpty=false:=V lr rfl;obtain⟨F,tt,B,cr,eE,FE⟩:=jI.jH;refine Bh (d:=d+1) (r:=.dM<|d3 T ts) jI aG (show(I.gR 4 ((d3 T ts).map J)&&true)=true from dI (Bl _) rfl) hlen λu sE nF eZ hB lD sn=> ?_;exact aq u sE (p1 λk=>k _ _ _ bF _ bg _ _ (Bk bA) _ rfl _ (ka<|cp mX) _ bg _ _ FB _ _ ag _ rfl _ (dH (uw p4) (ai (!·) aj)) _ rfl _ _ hle _ (bN (b:=1) λq=>Nat.lt_irrefl 1<|a3 ae<|cM q) _ rfl _ _ hle _ (k8<|cp<|Int.not_lt.mpr<|Int.ofNat_le.mpr<|hi<|ea XN<|by decide) _ fM _ (hM tt FE rfl) _ rfl _ _ (yn p4) _ _ nF)
    (V wl<|V (bh ae) eZ) ((bU.cj nofun).trans hB) ⟨λh=>absurd h mX,λB h=>(nomatch lr.symm.trans h),λB z h=>(nomatch lr.symm.trans h),λB B=>V wl<|V (bh ae) lD⟩
end
end
section
structure wm(T:List af):Prop where
 aG:T.Nodup
 ok:∀r∈T,I.key r.b6=true
 len:T.length<=10000
 q8:(T[4]?).isSome=true
 MG:(T[8]?).isSome=true
 MH:(T[9]?).isSome=true
 parts:∀t,(T[t]?).isSome=true->∀p∈dS T t,(T[p]?).isSome=true
 MI:∀t,(T[t]?).isSome=true->(dS T t).length<50
 rb:dS T 4=[4]
noncomputable def ct(r:af):af:=if r.bc&&r.d6 then r.f3 else r
noncomputable def oZ(T:List af)(r:af):List af:=if r.bc&&r.d6 then iP T r.f3 else T
section
variable{T:List af}{r:af}
def ux{α:Type}{P:α->Prop}{a b:α}(h:P a)(k:P b):∀x∈[a,b],P x:=λx ac=>(cS ac).elim (λe=>e▸h) λac=>bR ac▸k
def XO(X:dX C A T a1)(c4:wm T)(h:(T[t]?).isSome=true)(aq:∀u S,a0 a2 (d+4) 22 [.L A.t,J t] C=some (J u,S)->dX S A (hN T [t,4]) a1->bw C S [A.t+1,A.t+2]->wi T [t,4] u->bZ):bZ:=
 MB (d:=d) (x:=.ak [J t,.int 4]) (ts:=[t,4]) X.fZ c4.aG c4.ok (c1 c4.len<|by decide) (.inl rfl) (ux h c4.q8) (λs aJ=>c4.parts s<|ux (P:=λs=>(T[s]?).isSome=true) h c4.q8 s aJ) c4.MG c4.MH
  (show(dS T t).length+((dS T 4).length+0)<60 from V c4.rb<|c7 (tV<|c4.MI t h)<|by decide) λu S Y ae ba cq=>aq u S (go λr=>r _ _ Y) (X.with ae ba) ba cq
def XQ(X:dX C A T a1)(c4:wm T)(h:T[t]? =some r)(aq:∀u S,a0 a2 (d+2) 26 [.L A.t,J t] C=some (J u,S)->dX S A (if r.d6 then iP T r.f3 else T) a1->bw C S [A.t+1,A.t+2]->(if r.d6 then iP T r.f3 else T)[u]? =some (if r.d6 then r.f3 else r)->(r.d6=false->u=t)->bZ):bZ:=by
 have hf:=Bj (d:=d) X.fZ h;cases aH:r.d6 with
 |false=>rw[aH]at hf aq;exact aq t C (go λr=>r _ _ hf) X (.refl _ _) h λB=>rfl
 |true=>have wn:r.bU=some 1:=dx aH;rw[aH]at hf aq;refine Bh (d:=d) X.fZ c4.aG (Mt<|c4.ok r<|dK h) (c1 c4.len<|by decide) λu S nF eZ hB lD sn=> ?_;obtain⟨F,tt,B,cr,eE,FE⟩:=X.jH;exact aq u S (go λr=>r _ _ hf _ (hM tt FE rfl) _ X.cJ _ (X.row h) _ _ (Mp wn) _ _ (Mr wn) _ _ nF) (X.with eZ hB) hB lD λq=>b7 q.symm
def wo(X:dX C A T a1):a0 a2 (d+1) 64 [.L A.co,x] C=some (x,C):=go λr=>r
def yo(r:af):r.f3.d6=false:=by
 cases r with
 |_=>rfl
def MJ(X:dX C A T a1)(c4:wm T)(h:T[t]? =some r)(aq:∀u S,a0 a2 (d+3) 39 [.L A.co,J t] C=some (J u,S)->dX S A (oZ T r) a1->bw C S [A.t+1,A.t+2]->(oZ T r)[u]? =some (ct r)->(ct r=r->u=t/\oZ T r=T)->bZ):bZ:=by
 obtain⟨uq,dp,FF,kD,uy,FG⟩:=X.co;have ao:=Mj (d:=d+1) X.fZ h;change a0 _ _ _ _ _=some (.bool r.bc,C)at ao;delta oZ ct at aq;cases uz:r.bc with
 |false=>rw[uz]at ao aq;exact aq t C (go λr=>r _ (hM dp kD rfl) _ _ (wo X) _ X.cz _ _ ao) X (.refl _ _) h λB=>⟨rfl,rfl⟩
 |true=>
  rw[uz]at ao aq;refine XQ (d:=d) X c4 h λu S nF eZ hB lD sn=>aq u S (go λr=>r _ (hM dp kD rfl) _ _ (wo X) _ X.cz _ _ ao _ X.cz _ _ nF) eZ hB lD λq=> ?_;cases aH:r.d6 with
  |false=>exact⟨sn aH,rfl⟩
  |true=>rw[aH]at q;exact b7<|(yo r).symm.trans<|(ai af.d6 q).trans aH
noncomputable def d4(T:List af)(a1:Nat->Nat):Nat->Nat->Option Nat
 |0,B=>none
 |n+1,t=>match T[t]?with
  |some (.obj B cr)=>some t
  |some (.ref d)=>if 1<=d/\d<=3 then d4 T a1 n (a1<|d-1)else none
  |some (.dM B)=>none
  |none=>none
  |_=>some 11
def gd(h:i<3):i=0\/i=1\/i=2:=match i,h with
 |0,B=>.inl rfl
 |1,B=>.inr<|.inl rfl
 |2,B=>.inr<|.inr rfl
def dX.FH(X:dX C A T a1)(Y:1<=d)(ba:d<=3):fq C (.L<|A.t+3) (J d)=some (.L<|A.fw<|d-1):=by
 cases d with
 |zero=>exact absurd Y<|vu 0
 |succ k=>rcases gd ba with rfl|rfl|rfl<;>exact j9 X.sr rfl
noncomputable def Bn:List dB:=[
  .ite (.aK .lt (.E 1)<|U 0) [
   .fA] [],
  .assign (.aR 3) (.av (.aZ (.E 0) 45)<|.E 1),
  .ite (.aK .eq (.av (.E 3)<|U 0)<|U 8) [
   .ret (.E 1)] [],
  .ite (.aK .eq (.av (.E 3)<|U 0)<|U 13) [
   .ret (.a5 13 [(.E 0),(.E 1)])] [],
  .ite (.aK .dT (.av (.E 3)<|U 0)<|.bc<|.ak [.int<|1,.int<|2,.int<|3,.int<|4,.int<|5]) [
   .ret (U 11)] [],
  .ite (.or (.aK .bu (.av (.E 3)<|U 0)<|U 9)<|.or (.av (.E 3)<|U 2)<|.aZ (.av (.aZ (.E 0) 14)<|.av (.E 3)<|U 1) 9) [
   .fA] [],
  .assign (.aR 1) (.aZ (.av (.aZ (.E 0) 14) (.av (.E 3) (U 1))) 10)]
def XR(X:dX C A T a1)(h:T[t]? =some r)(aS:r.val)(h0:H 0=some (.L A.t))(Y:H 1=some (J t)):cG (bk d) Bn H C=some (.ret<|J 11,ar H 3 r.b6,C):=by
 have e:∀k:Nat,(k=8\/k=13)->eh C .eq (J r.kind) (J k)=some false:=λk an=>bN λq=>by
  have aS:decide (r.kind∈[1,2,3,4,5])=true:=aS;rw[q]at aS;exact an.elim (λe=>by subst e;exact b7 aS) λe=>by subst e;exact b7 aS
 exact eJ λr=>r _ Y _ (lG<|cp C7) _ h0 _ X.cJ _ Y _ (X.row h) _ rfl _ cN _ (e 8<|.inl rfl) _ rfl _ cN _ (e 13<|.inr rfl) _ rfl _ cN _<|dH (ej<|mR C _ [1,2,3,4,5]) aS
def XS(X:dX C A T a1)(n:Nat):∀{t u:Nat} {items:List I} {H:bT},items.length=n->d4 T a1 n t=some u->H 0=some (.L A.t)->H 1=some (J t)->
  ∃aT,fX (λB=>true) (λx H s=>cG (bk d) Bn (ar H 2 x) s) items H C=some (.ret<|J u,aT,C):=by
 induction n with
 |zero=>exactλB aJ=>bf aJ
 |succ n ay=>
  intro t u items H hn aJ h0 Y;cases items with
  |nil=>exact Nat.noConfusion hn
  |cons x items=>
   have aJ:(match T[t]?with
     |some (.obj B cr)=>some t
     |some (.ref d)=>if 1<=d/\d<=3 then d4 T a1 n (a1<|d-1)else none
     |some (.dM B)=>none
     |none=>none
     |_=>some 11)=some u:=aJ
   cases aH:T[t]?with
   |none=>rw[aH]at aJ;exact bf aJ
   |some r=>
    rw[aH]at aJ;have f7:=λ(aS:r.val) (aJ:some 11=some u)=>(⟨_,mQ rfl<|eF (ai (λn=>I.int (n:Nat))<|bp aJ) (P:=λv=>cG (bk d) Bn (ar H 2 x) C=some (.ret v,_,C))<|XR X aH aS h0 Y⟩:∃aT,fX (λB=>true) (λx H s=>cG (bk d) Bn (ar H 2 x) s) (x::items) H C=some (.ret<|J u,aT,C));cases r with
    |dM ps=>exact bf aJ
    |obj ps f=>exact bp aJ▸⟨_,mQ rfl<|eJ λr=>r _ Y _ (lG<|cp C7) _ h0 _ X.cJ _ Y _ (X.row aH) _ rfl _ cN _ (cY (b:=8) rfl) _ Y⟩
    |ref kV=>refine dZ aJ λbC aJ=> ?_;obtain⟨F,hy,eW,nx,B⟩:=X.kz (kV-1)<|c7 (Nat.sub_lt bC.1 Nat.one_pos) bC.2;have ia:fq C (af.ref kV).b6 (.int 1)=some (J kV):=b0 (i:=1) rfl;obtain⟨aT,e⟩:=ay (items:=items) (H:=ar (ar (ar H 2 x) 3 (af.ref kV).b6) 1<|J<|a1<|kV-1) (nl hn) aJ h0 rfl;exact⟨aT,eT rfl (eJ λr=>r _ Y _ (lG<|cp C7) _ h0 _ X.cJ _ Y _ (X.row aH) _ rfl _ cN _ (bN (a:=9) (b:=8)<|by decide) _ rfl _ cN _ (bN (a:=9) (b:=13)<|by decide) _ rfl _ cN _ (dH (ej<|mR C _ [1,2,3,4,5]) rfl) _ rfl _ cN _ (kc (a:=9) (b:=9) rfl) _ rfl _ (b0 (i:=2) rfl) _ rfl _ h0 _ X.A7 _ rfl _ ia _ (X.FH bC.1 bC.2) _ (ky hy rfl nx) _ rfl _ h0 _ X.A7 _ rfl _ ia _ (X.FH bC.1 bC.2) _<|ky hy rfl eW) e⟩
    |_=>exact f7 rfl aJ
def XT(n:Nat):(qs n).length=n:=(c2 _).trans tW
def wq{n:Nat}{body:List dB}{r:eG×bT×St}(Y:bV O cg H C=some (J n,ax))(hn:n<16000000)(h:fX (λB=>true) (λx H s=>cG O body (ar H i x) s) (qs n) H ax=some r):cw O (.iq i cg body) H C=some r:=bB Y<|(bh ⟨p5 _,hd hn⟩).trans h
def rc(X:dX C A T a1)(h:d4 T a1 40 t=some u):a0 a2 (d+2) 68 [.L A.co,J t] C=some (J u,C):=
 let⟨_,e⟩:=XS (d:=d) X 40 (H:=cm [.L A.t,J t]) (XT 40) h rfl rfl
 go λr=>r _ X.cz _ _ (go λk=>k _ _ _<|wq (n:=40) rfl (by decide) e)
end
end
section
noncomputable def yp:Option ed->I
 |none=>.none
 |some p=>cn p
def FI{a b:Str}(aU:e9 a)(aj:e9 b):eh C .eq (.str a) (.str b)=some (decide<|a=b):=(bh (dI aU aj):(if(e9 a&&e9 b)=true then some (decide<|I.str a=I.str b)else none)=_).trans<|ai some<|decide_eq_decide.mpr ⟨I.str.inj,ai I.str⟩
def Bo(r:af)(h:Nat.ble k 9=false):¬r.kind=k:=λq=>b7 (br h (q▸Nat.ble_eq_true_of_le (show r.kind<=9 by
 cases r with
 |_=>exact pV rfl)))
noncomputable def gj(f:Nat):Bool:=decide<|PySem.Builtin.bitAnd (f:Int) 1≠0
section
variable{T:List af}{r:af}{f:Nat}
def XU(hn:e9 nm)(ps:List ed):∀{H:bT},(∀p∈ps,e9 p.name)->H 1=some (.str nm)->(∀aT,fX (λB=>true) (λx H s=>cG O [.ite (.aK .eq (.av (.E 2)<|U 0)<|.E 1) [.ret<|.E 2] []] (ar H 2 x) s) (ps.map cn) H C=
   some ((match ps.find? λp=>decide (p.name=nm)with|some p=>eG.ret (cn p)|none=>eG.next),aT,C)->bZ)->bZ:=by
 induction ps with
 |nil=>exactλB B aq=>aq _ rfl
 |cons p ps ay=>
  intro H hf Y aq;have ag:=FI (C:=C) (hf p bo) hn;by_cases h:p.name=nm
  ·exact aq (ar H 2<|cn p)<|V (show(p::ps).find? (λp=>decide<|p.name=nm)=some p from vG<|ck h)<|mQ rfl<|eJ λr=>r _ rfl _ (b0 (i:=0) rfl) _ Y _ (dH ag<|ck h) _ rfl
  ·exact ay (H:=ar H 2<|cn p) (λq aC=>hf q<|bQ _ aC) Y λaT e=>aq aT<|V (show(p::ps).find? (λp=>decide<|p.name=nm)=ps.find? _ from xg (cp h) rfl)<|eT rfl (eJ λr=>r _ rfl _ (b0 (i:=0) rfl) _ Y _<|dH ag<|cp h) e
def XV(hn:e9 nm)(hf:∀p∈ps,e9 p.name):a0 a2 (d+1) 69 [(af.obj ps f).b6,.str nm] C=some (yp<|ps.find? λp=>decide<|p.name=nm,C):=by
 refine XU (C:=C) (O:=bk d) hn ps (H:=cm [(af.obj ps f).b6,.str nm]) hf rfl λaT e=> ?_;have hf:=lL (O:=bk d) (i:=2) (cg:=.av (.E 0)<|U 1) (H:=cm [(af.obj ps f).b6,.str nm]) (jj λk=>k _<|b0 (i:=1) rfl) e;cases aC:ps.find? λp=>decide (p.name=nm)with
 |none=>rw[aC]at hf;exact go λk=>k _ _ _ hf
 |some p=>rw[aC]at hf;exact go λk=>k _ _ _ hf
def XW(h:(ps.find? λp=>decide<|p.name=nm)=some p):p.name=nm:=dx<|List.find?_some (p:=λp:ed=>decide<|p.name=nm) h
def XX(X:dX C A T a1)(aP:T[t]? =some r)(aJ:d4 T a1 40 t=some u)(bD:T[u]? =some (.obj ps f))(hn:e9 nm)(hf:∀p∈ps,e9 p.name):
  a0 a2 (d+3) 70 [.L A.co,J t,.str nm] C=some (yp<|ps.find? λp=>decide<|p.name=nm,C):=by
 have Bp:=XV (C:=C) (d:=d+1) (f:=f) hn hf;obtain⟨uq,dp,FF,kD,uy,FG⟩:=X.co;cases aC:ps.find? λp=>decide (p.name=nm)with
 |none=>rw[aC]at Bp;exact go λk=>k _ (hM dp kD rfl) _ _ (wo X) _ X.cz _ X.cJ _ (X.row aP) _ cN _ (bN<|Bo r (k:=11) rfl) _ cN _ (bN<|Bo r (k:=12) rfl) _ X.cz _ X.cJ _ (hM dp uy rfl) _ _ (rc X aJ) _ (X.row bD) _ _ Bp _ rfl
 |some p=>
  rw[aC]at Bp;exact dH (go λk=>k _ (hM dp kD rfl) _ _ (wo X) _ X.cz _ X.cJ _ (X.row aP) _ cN _ (bN<|Bo r (k:=11) rfl) _ cN _ (bN<|Bo r (k:=12) rfl) _ X.cz _ X.cJ _ (hM dp uy rfl) _ _ (rc X aJ) _ (X.row bD) _ _ Bp _ rfl _ (hM dp kD rfl) _ (b0 (i:=1) rfl) _ _ (wo X) _ (b0 (i:=2) rfl) _<|b0 (i:=3) rfl)
   (ai (λs=>(I.ak [.str s,J p.dc,J p.b2,J p.dG],C)) (XW aC).symm)
def di(C:St)(a b:Int):iF .dj (.int a) (.int b) C=some (.int<|PySem.Builtin.bitAnd a b,C):=rfl
def FJ{f:Nat}{r:Option (I×St)}(h:a0 a2 d f l C=r):(bk d).fn f l C=r:=h
def Bq(C:St)(f:Nat):h3 C (.int<|PySem.Builtin.bitAnd (f:Int) 1)=some (gj f):=rfl
def XY(X:dX C A T a1)(c4:wm T)(h:(T[p.dc]?).isSome=true)(aq:∀u S,a0 a2 (d+5) 71 [.L A.t,cn p] C=some (J u,S)->dX S A (if gj p.b2 then hN T [p.dc,4]else T) a1->bw C S [A.t+1,A.t+2]->(if gj p.b2 then wi T [p.dc,4] u else u=p.dc)->bZ):bZ:=by
 cases hf:gj p.b2 with
 |true=>rw[hf]at aq;exact XO (d:=d) X c4 h λu S Y ae ba cq=>aq u S (go λk=>k _ (b0 (i:=2) rfl) _ _ (di _ _ _) _ (dH (Bq C p.b2) hf) _ (b0 (i:=1) rfl) _ _<|FJ Y) ae ba cq
 |false=>rw[hf]at aq;exact aq p.dc C (go λk=>k _ (b0 (i:=2) rfl) _ _ (di _ _ _) _ (dH (Bq C p.b2) hf) _<|b0 (i:=1) rfl) X (.refl _ _) rfl
noncomputable def mh:af->Nat
 |.ref d=>d
 |_=>0
def wr:a0 a2 (d+1) 77 [r.b6] C=some (J<|mh r,C):=by refine V (sq rfl rfl) ?_;cases r<;>rfl
noncomputable def ij(f:Nat):Bool:=decide<|PySem.Builtin.bitAnd (f:Int) 34≠0
def XZ(X:dX C A T a1)(h:T[t]? =some r):a0 a2 (d+2) 24 [.L A.t,J t] C=some (.bool (decide (t=4)||decide (t=5)||r.bc),C):=by
 by_cases cq:t=4
 ·exact V (ck cq)<|go λk=>k _<|cY (b:=4) cq
 ·refine V (cp cq) ?_;by_cases dF:t=5
  ·exact V (ck dF)<|go λk=>k _ (bN (b:=4) cq) _<|cY (b:=5) dF
  ·exact V (cp dF)<|go λk=>k _ (bN (b:=4) cq) _ (bN (b:=5) dF) _ _<|Mj X.fZ h
end
end
section
def o0{b:Bool}(h:l3 C x y=some b):eh C .jd x y=some (!b):=ai (Option.map (!·)) h
def FK{a b:List I}(aU:I.key (.ak a)=true)(aj:I.key (.ak b)=true):eh C .eq (.ak a) (.ak b)=some (decide<|a=b):=(bh (dI aU aj):(if(I.key (.ak a)&&I.key (.ak b))=true then some (decide<|I.ak a=I.ak b)else none)=_).trans<|ai some<|decide_eq_decide.mpr ⟨I.ak.inj,ai I.ak⟩
def FL{n:Nat}(h:∀p∈ps,e9 p.name):I.gR (n+1) (ps.map cn)=true:=by
 induction ps with
 |nil=>rfl
 |cons p ps ay=>exact dI (show(e9 p.name&&true)=true from dI (h p bo) rfl)<|ay λq aC=>h q<|bQ _ aC
def FM(h:∀p∈ps,e9 p.name):I.key (.ak<|ps.map cn)=true:=FL (n:=4) h
def MK{α:Type}{de:I->St->Option (Option I×St)}{b6:α->I}{h:α->Option I}(ag:el C)(xs:List α):(∀x∈xs,de (b6 x) C=some (h x,C))->ir el de (xs.map b6) C=some (xs.filterMap h,C):=by
 induction xs with
 |nil=>exactλB=>bh ag
 |cons x xs ay=>
  intro k;refine(sB ag (k x bo)<|ay λy a8=>k y<|bQ _ a8).trans<|ai (λl=>some (l,C)) ?_;cases e:h x with
  |none=>exact(List.filterMap_cons_none e).symm
  |some y=>exact(List.filterMap_cons_some e).symm
def FN{l:List Bool}(h:C[a]? =some (.list<|l.map .bool)):kQ .all (.L a) C=some (.bool<|l.all id,C):=by
 show(match C[a]?with
  |some (b3.list l)=>if l.all (λv=>match v with|I.bool _=>true|_=>false)then some (I.bool<|l.all λv=>v==I.bool true,C)else none
  |_=>none)=_
 refine V h<|(bh<|List.all_map.trans<|nt.mpr λB B=>rfl).trans<|ai (λb=>some (I.bool b,C))<|List.all_map.trans<|ai l.all<|funext λb=> ?_;cases b with
 |_=>rfl
def X0{α β:Type}(g:α->β)(xs:List α):xs.filterMap (λx=>some<|g x)=xs.map g:=by
 induction xs with
 |nil=>rfl
 |cons x xs ay=>exact ai (g x::·) ay
section
variable{T:List af}{r:af}{f:Nat}
def sF:a0 a2 (d+1) 83 [cn p] C=some (.bool<|ij p.b2,C):=go λr=>r _ (b0 (i:=2) rfl) _ _ rfl _ _ (di _ _ _) _<|kA rfl
def yq{α:Type}{b6:α->I}{xs:List α}{g:α->I}{z:I}(Y:bV O cg H ik=some (z,C))(ah:ni C z=some (xs.map b6,iv))(aJ:hc C iv (xs.map b6)=true)(ae:∀p∈xs,bV O elt (ar H i<|b6 p) C=some (g p,C)):
  bV O (.comp elt (.aR i) cg []) H ik=some (.L C.length,C++[.list<|xs.map g]):=
 ra Y ah (eF (X0 g xs)<|MK (h:=λp=>some<|g p) aJ xs λp ab=>bB (x:=gC (.aR i) (b6 p) H) rfl<|bB (x:=gp O [] _ C) rfl<|bB (ae p ab) rfl)
def yr{α:Type}{b6:α->I}{xs:List α}{g:α->I}(Y:bV O cg H C=some (.ak<|xs.map b6,C))(ae:∀p∈xs,bV O elt (ar H i<|b6 p) C=some (g p,C)):
  bV O (.comp elt (.aR i) cg []) H C=some (.L C.length,C++[.list<|xs.map g]):=yq Y rfl rfl ae
def X1(hf:∀p∈ps,e9 p.name)(aq:∀S,a0 a2 (d+1) 73 [(af.obj ps f).b6] C=some (.bool<|!ps.isEmpty&&ps.all λp=>gj p.b2,S)->bw C S []->bZ):bZ:=by
 have he:=FK (C:=C) (FM hf) (b:=[]) rfl;have gr:eh C .bu (.ak []) (.ak [])=some false:=rfl;cases ps with
 |nil=>exact aq C (go λk=>k _ (b0 (i:=1) rfl) _ he)<|.refl _ _
 |cons p c8=>
  have ag:=yr (b6:=cn) (C:=C) (O:=bk d) (H:=cm [(af.obj (p::c8) f).b6]) (i:=2) (elt:=.aK .bu (.b8 .dj (.av (.E 2)<|U 2)<|U 1)<|U 0) (cg:=.av (.E 0)<|U 1) (xs:=p::c8) (g:=λp=>.bool<|gj p.b2)
   (jj λk=>k _<|b0 (i:=1) rfl) λq B=>i7 λk=>k _ rfl _ (b0 (i:=2) rfl) _ _ (di _ _ _) _<|kA rfl
  have aU:=FN (l:=(p::c8).map λp=>gj p.b2)<|(d8 (C:=C) (l:=[])).trans<|ai (λl=>some<|b3.list l) jB.symm;exact aq _ (go λk=>k _ (b0 (i:=1) rfl) _ (dH he<|cp nofun) _ (b0 (i:=2) rfl) _ gr _ (b0 (i:=3) rfl) _ gr _ (b0 (i:=4) rfl) _ gr _ (b0 (i:=5) rfl) _ gr _ _ ag _ _<|gX aU List.all_map)<|.push _ _ _
def yt(h:k=8\/k=9):decide (k∈[8,9])=true:=ck<|pB.mpr<|h.imp_right vx.mpr
def X2(h:¬(k=8\/k=9)):decide (k∈[8,9])=false:=cp λq=>h<|(cS q).imp_right bR
def X3(X:dX C A T a1)(aP:T[t]? =some r)(aH:r.kind=8\/r.kind=9)(aJ:d4 T a1 40 t=some u)(bD:T[u]? =some (.obj ps f))(hf:∀p∈ps,e9 p.name)(aq:∀S,a0 a2 (d+3) 75 [.L A.co,J t] C=some (.bool<|!ps.isEmpty&&ps.all λp=>gj p.b2,S)->bw C S []->bZ):bZ:=by refine X1 (C:=C) (d:=d+1) (f:=f) hf λS Y ae=> ?_;refine aq S ?_ ae;obtain⟨uq,dp,FF,kD,uy,FG⟩:=X.co;exact go λk=>k _ X.cz _ X.cJ _ (X.row aP) _ cN _ (bN (b:=7) λq=>aH.elim (λh=>absurd (br h q)<|by decide) λh=>absurd (br h q)<|by decide) _ cN _ (dH (ej<|mR C r.kind [8,9])<|yt aH) _ X.cz _ X.cJ _ (hM dp uy rfl) _ _ (rc X aJ) _ (X.row bD) _ _ Y
noncomputable def rd(T:List af)(s:Nat):Bool:=decide<|s∈[0,1,2,13,3,4,5,10]
def X4(X:dX C A T a1)(aP:T[t]? =some r)(an:(r.kind=8\/r.kind=9)->d4 T a1 40 t=some u/\T[u]? =some (.obj ps f)/\ps≠[]/\∀p∈ps,e9 p.name)(X5:r.kind≠6):
  a0 a2 (d+3) 74 [.L A.co,J t] C=some (.bool<|rd T t,C):=by
 have FO:eh C .dT (J t) (.ak [.int 0,.int 1,.int 2,.int 13,.int 3,.int 4,.int 5,.int 10])=some (rd T t):=ej<|mR C t [0,1,2,13,3,4,5,10];have mU:=o0<|mR C r.kind [8,9];cases h0:rd T t with
 |true=>exact go λk=>k _<|dH FO h0
 |false=>
  by_cases i3:r.kind=8\/r.kind=9
  ·obtain⟨aJ,bD,gr,hf⟩:=an i3;obtain⟨uq,dp,FF,kD,uy,FG⟩:=X.co;exact go λk=>k _ (dH FO h0) _ X.cz _ X.cJ _ (X.row aP) _ cN _ (dH mU<|ai _<|yt i3) _ X.cz _ X.cJ _ (hM dp uy rfl) _ _ (rc X aJ) _ (X.row bD) _ (b0 (i:=1) rfl) _<|dH (FK (FM hf) rfl)<|cp λq=>gr<|List.map_eq_nil_iff.mp q
  ·have v0:decide (r.kind∈[6,7,10,14,15,16,17,18,19])=false:=by
    cases r with
    |dM=>exact absurd rfl X5
    |_=>rfl
   exact go λk=>k _ (dH FO h0) _ X.cz _ X.cJ _ (X.row aP) _ cN _ (dH mU<|ai _<|X2 i3) _<|dH (o0<|mR C r.kind [6,7,10,14,15,16,17,18,19])<|ai _ v0
end
end
def ek(T a7:List af):Prop:=∃aB,a7=T++aB
def ek.refl(T:List af):ek T T:=⟨[],by exact iX<|ew _⟩
def ek.trans{T a7 yu:List af}(x:ek T a7)(y:ek a7 yu):ek T yu:=let⟨aB,e⟩:=x;let⟨F,f⟩:=y;⟨aB++F,f.trans<|e▸iG _ _ _⟩
def ek.get{T a7:List af}(x:ek T a7){r:af}(h:T[i]? =some r):a7[i]? =some r:=let⟨_,e⟩:=x;e▸(no<|fc h).trans h
def ek.some{T a7:List af}(x:ek T a7)(h:(T[i]?).isSome=true):(a7[i]?).isSome=true:=(hT h).elim λB aH=>ai Option.isSome<|x.get aH
def ML{T yv:List af}{p:Prop}[Decidable p](h:ek T yv):ek T (if p then T else yv):=by by_cases q:p;exact V (bh q)<|.refl T;exact V (bH q) h
def MM{T yv:List af}{p:Prop}[Decidable p](h:ek T yv):ek T (if p then yv else T):=by by_cases q:p;exact V (bh q) h;exact V (bH q)<|.refl T
def uA(T:List af)(r:af):ek T (iP T r):=ML ⟨[r],rfl⟩
def Br(T:List af)(ts:List Nat):ek T (hN T ts):=ML<|MM<|uA _ _
def Bs(T:List af)(r:af):ek T (oZ T r):=MM<|uA _ _
def Bt{T a7:List af}(x:ek T a7)(h:(T[t]?).isSome=true):dS a7 t=dS T t:=by obtain⟨r,aH⟩:=hT h;delta dS;exact V (x.get aH)<|V aH rfl
def X6{T a7:List af}(x:ek T a7):∀{gl:List Nat},(∀t∈ts,(T[t]?).isSome=true)->gather a7 ts gl=gather T ts gl:=by
 induction ts with
 |nil=>exactλB=>rfl
 |cons t ts ay=>exactλ{gl} h=>(ai (λ(l:List Nat)=>gather a7 ts<|l.foldl kC gl)<|Bt x<|h t bo).trans<|ay λt aP=>h t<|bQ _ aP
def X7{T:List af}{r:af}(aG:T.Nodup)(h:cE (lK T) r.b6=some v)(aq:∀n,v=J n->T[n]? =some r->bZ):bZ:=by
 by_cases aH:r∈T
 ·obtain⟨n,hn⟩:=q9.mp aH;exact aq n (bp<|br h<|Be hn aG) hn
 ·exact bf<|(Fq aH).symm.trans h
def nL{T:List af}(aG:T.Nodup){r:af}(Y:T[i]? =some r)(ae:T[j]? =some r):i=j:=by
 obtain⟨dV,aD⟩:=h7 Y;obtain⟨d1,aF⟩:=h7 ae;rw[List.Nodup,List.pairwise_iff_getElem]at aG;rcases Nat.lt_trichotomy i j with h|h|h
 ·exact absurd (aD.trans aF.symm)<|aG i j dV d1 h
 ·exact h
 ·exact absurd (aF.trans aD.symm)<|aG j i d1 dV h
def yw:kB gl (-1)=false:=cp λq=>let⟨_,_,e⟩:=e4 q;vl e
def FP{T:List af}{r:af}{i:Int}(h:sy T r=.int i):mV T gl r=true↔kB gl i=false/\kB gl (eY r)=false:=by delta mV;exact V h<|Bool.and_eq_true_iff.trans<|and_congr (Iff.of_eq<|oA _)<|Iff.of_eq<|oA _
def sG{T:List af}{r:af}(aG:T.Nodup):mV T gl r=true↔¬(r.d6=true/\∃n∈gl,T[n]? =some r.f3)/\kB gl (eY r)=false:=by
 by_cases hf:r.d6=true
 ·have e:sy T r=(cE (lK T) r.f3.b6).getD (.int<|-1):=bh hf;cases bA:cE (lK T) r.f3.b6 with
  |none=>rw[bA]at e;exact(FP e).trans<|and_congr_left' ⟨λB ⟨cr,n,eE,hn⟩=>bf<|br bA<|Be hn aG,λB=>yw⟩
  |some v=>rw[bA]at e;refine X7 aG bA λn bM hn=> ?_;subst bM;exact(FP e).trans<|and_congr_left' ⟨λh ⟨B,m,hm,aO⟩=>b7<|br h<|oX.trans<|ck<|nL aG aO hn▸hm,λh=>oX.trans<|cp λq=>h ⟨hf,n,q,hn⟩⟩
 ·exact(FP<|bH hf).trans<|and_congr_left' ⟨λB h=>hf h.1,λB=>yw⟩
def X8{T a7:List af}{r:af}(x:ek T a7)(FQ:a7.Nodup)(aG:T.Nodup)(h:∀n∈gl,(T[n]?).isSome=true):mV a7 gl r=mV T gl r:=Bool.eq_iff_iff.mpr<|(sG FQ).trans<|(and_congr_left'<|not_congr<|and_congr_right λB=>⟨λ⟨n,hn,e⟩=>(hT<|h n hn).elim λq aC=>⟨n,hn,aC.trans<|(x.get aC).symm.trans e⟩,λ⟨n,hn,e⟩=>⟨n,hn,x.get e⟩⟩).trans (sG aG).symm
def X9{T a7:List af}(x:ek T a7)(FQ:a7.Nodup)(aG:T.Nodup)(h:∀t∈ts,(T[t]?).isSome=true)(ab:∀t∈ts,∀p∈dS T t,(T[p]?).isSome=true)(iL:(T[8]?).isSome=true)(gv:(T[9]?).isSome=true):
  dq a7 ts=dq T ts/\d3 a7 ts=d3 T ts:=by
 have bA:dq a7 ts=dq T ts:=X6 x h;have aS:∀n∈f5 (dq T ts),(T[n]?).isSome=true:=λp q=>(wj.mp q).elim (λq=>(Fx.mp q).elim (λq=>absurd q b5) λ⟨t,aP,mY⟩=>ab t aP p mY) λq=>q.1.elim (λe=>e▸iL) λe=>e▸gv;refine⟨bA,(ai (λg=>(la<|f5 g).filter λn=>match a7[n]?with
  |some r=>mV a7 (f5 g) r
  |none=>false) bA).trans (List.filter_congr λn hn=> ?_)⟩
 obtain⟨q,aC⟩:=hT<|aS n<|uv.mp hn;exact V (x.get aC)<|V aC<|X8 x FQ aG aS
section
noncomputable def cD{α β:Type}(c4:α->β->Prop):List α->List β->Prop
 |[],[]=>True
 |x::xs,y::ys=>c4 x y/\cD c4 xs ys
 |B,cr=>False
section
variable{α β kP:Type}{c4:α->β->Prop}
def cD.imp{W:α->β->Prop}(h:∀x y,c4 x y->W x y){xs:List α}:∀{ys:List β},cD c4 xs ys->cD W xs ys:=by
 induction xs with
 |nil=>exactλ{ys} v=>by cases ys with
  |nil=>exact v
  |cons=>exact v.elim
 |cons x xs ay=>exactλ{ys} v=>by cases ys with
  |nil=>exact v.elim
  |cons=>exact⟨h _ _ v.1,ay v.2⟩
def cD.swap{xs:List α}:∀{ys:List β},cD c4 xs ys->cD (λy x=>c4 x y) ys xs:=by
 induction xs with
 |nil=>exactλ{ys} v=>by cases ys with
  |nil=>exact v
  |cons=>exact v.elim
 |cons x xs ay=>exactλ{ys} v=>by cases ys with
  |nil=>exact v.elim
  |cons=>exact⟨v.1,ay v.2⟩
def cD.comp{W:β->kP->Prop}{a4:α->kP->Prop}(h:∀x y z,c4 x y->W y z->a4 x z){ys:List β}:∀{xs:List α} {zs:List kP},cD c4 xs ys->cD W ys zs->cD a4 xs zs:=by
 induction ys with
 |nil=>
  intro xs zs v w;cases xs with
  |nil=>cases zs with
   |nil=>exact v
   |cons=>exact w.elim
  |cons=>exact v.elim
 |cons y ys ay=>
  intro xs zs v w;cases xs with
  |nil=>exact v.elim
  |cons=>cases zs with
   |nil=>exact w.elim
   |cons=>exact⟨h _ _ _ v.1 w.1,ay v.2 w.2⟩
def cD.map{f:kP->β}{xs:List α}:∀{zs:List kP},cD (λx z=>c4 x<|f z) xs zs->cD c4 xs (zs.map f):=by
 induction xs with
 |nil=>exactλ{zs} v=>by cases zs with
  |nil=>exact v
  |cons=>exact v.elim
 |cons x xs ay=>exactλ{zs} v=>by cases zs with
  |nil=>exact v.elim
  |cons=>exact⟨v.1,ay v.2⟩
def cD.refl{c4:α->α->Prop}(h:∀x,c4 x x)(xs:List α):cD c4 xs xs:=by
 induction xs with
 |nil=>exact trivial
 |cons x xs ay=>exact⟨h x,ay⟩
end
noncomputable def dj(a b:Nat):Int:=PySem.Builtin.bitAnd (a:Int) (b:Int)
structure g8 where
 name:Str
 b2:Nat
 dG:Nat
 lb:List af
abbrev re:=List af->List af->Prop
noncomputable def af.shaped:af->Bool
 |.obj B cr=>true
 |.ref B=>true
 |_=>false
structure ix(p q:g8):Prop where
 name:p.name=q.name
 uB:dj p.b2 25=dj q.b2 25
 dG:p.dG=q.dG
 rf:ij p.b2=ij q.b2
def ix.symm{p q:g8}(h:ix p q):ix q p:=⟨h.name.symm,h.uB.symm,h.dG.symm,h.rf.symm⟩
def hV(K:re)(c bK:List af):Prop:=c=bK\/K c bK
def mZ(K:re):List g8->List g8->Prop:=cD λp q=>ix p q/\hV K p.lb q.lb
structure yx(K:re)(c bK:List af):Prop where
 dV:c.length≠1
 d1:bK.length≠1
 mi:∀x∈c,∃y∈bK,hV K [x] [y]
 nM:∀y∈bK,∃x∈c,hV K [y] [x]
structure Bu(P:af->List g8)(K:re)(x y:af):Prop where
 be:x.shaped=true
 bF:y.shaped=true
 gP:mZ K (P x) (P y)
def jJ(P:af->List g8)(K:re)(c bK:List af):Prop:=(∃x y,c=[x]/\bK=[y]/\Bu P K x y)\/yx K c bK
def cK(P:af->List g8)(c bK:List af):Prop:=∃K:re,(∀a b,K a b->jJ P K a b)/\hV K c bK
section
variable{P:af->List g8}{K dQ:re}{a b c bK:List af}
def hV.i8(h:∀a b,K a b->dQ a b):∀a b,hV K a b->hV dQ a b:=λB B x=>x.imp_right<|h _ _
def mZ.cj(h:∀a b,hV K a b->hV dQ a b){ps c8:List g8}(x:mZ K ps c8):mZ dQ ps c8:=x.imp λB B q=>⟨q.1,h _ _ q.2⟩
def mZ.refl{ps:List g8}:mZ K ps ps:=cD.refl (λB=>⟨⟨rfl,rfl,rfl,rfl⟩,.inl rfl⟩) ps
def mZ.de(h:∀a b,hV K a b->hV dQ b a){ps c8:List g8}(x:mZ K ps c8):mZ dQ c8 ps:=x.swap.imp λB B q=>⟨q.1.symm,h _ _ q.2⟩
def jJ.d9(h:jJ P K c bK)(dJ:∀x y,c=[x]->bK=[y]->Bu P K x y->Q)(fi:yx K c bK->Q):Q:=h.elim (λh=>h.elim λx h=>h.elim λy h=>dJ x y h.1 h.2.1 h.2.2) fi
def yx.cj(h:∀a b,hV K a b->hV dQ a b)(x:yx K c bK):yx dQ c bK:=⟨x.dV,x.d1,λa aU=>(x.mi a aU).imp λB q=>⟨q.1,h _ _ q.2⟩,λa aU=>(x.nM a aU).imp λB q=>⟨q.1,h _ _ q.2⟩⟩
def jJ.cj(h:∀a b,hV K a b->hV dQ a b)(x:jJ P K c bK):jJ P dQ c bK:=x.d9 (λa b aD aF o=>.inl ⟨a,b,aD,aF,o.be,o.bF,o.gP.cj h⟩) λu=>.inr<|u.cj h
def jJ.up(h:∀a b,K a b->dQ a b)(x:jJ P K c bK):jJ P dQ c bK:=x.cj<|.i8 h
def cK.refl:cK P c c:=⟨λB B=>False,λB B h=>h.elim,.inl rfl⟩
def cK.uC(h:hV (cK P) c bK):cK P c bK:=h.elim (λe=>e▸.refl) id
def cK.step(h:cK P c bK):c=bK\/jJ P (cK P) c bK:=h.elim λK k=>k.2.imp_right λe=>(k.1 _ _ e).up λa b q=>⟨K,k.1,.inr q⟩
def cK.yy(h:∀a b,K a b->a=b\/jJ P (λc bK=>cK P c bK\/K c bK) a b)(x:K c bK):cK P c bK:=by
 have up:∀a b,hV (λc bK=>cK P c bK\/K c bK) a b->hV (λc bK=>jJ P (cK P) c bK\/K c bK/\c≠bK) a b:=λa b q=>q.elim .inl λq=>q.elim (λq=>q.step.imp_right .inl) λq=>by
  by_cases e:a=b
  ·exact .inl e
  ·exact .inr<|.inr ⟨q,e⟩
 exact⟨_,λa b q=>q.elim (λq=>q.cj λa b q=>up a b<|q.imp_right .inl) λq=>((h a b q.1).resolve_left q.2).cj up,up c bK<|.inr<|.inr x⟩
def cK.MN(h:jJ P (cK P) c bK):cK P c bK:=yy (K:=jJ P<|cK P) (λa b q=>.inr<|q.up λB B=>.inl) h
def jJ.swap(h:∀a b,hV K a b->hV dQ a b/\hV dQ b a)(x:jJ P K c bK):jJ P dQ bK c:=x.d9 (λa b aD aF o=>.inl ⟨b,a,aF,aD,o.bF,o.be,o.gP.de λa b q=>(h a b q).2⟩) λu=>.inr ⟨u.d1,u.dV,λy a8=>(u.nM y a8).imp λx ac=>⟨ac.1,(h _ _ ac.2).1⟩,λx ac=>(u.mi x ac).imp λy a8=>⟨a8.1,(h _ _ a8.2).1⟩⟩
def cK.symm(h:cK P c bK):cK P bK c:=yy (K:=λa b=>cK P b a) (λa b q=>q.step.imp iX λs=>s.swap λa b q=>⟨q.imp_right .inl,q.imp iX .inr⟩) h
def cK.trans(Y:cK P a b)(ae:cK P b c):cK P a c:=by refine yy (K:=λa c=>∃b,cK P a b/\cK P b c) (λa c q=>q.elim λb q=>q.1.step.elim (λe=>e▸q.2.step.imp_right λs=>s.up λB B=>.inl) λbe=>q.2.step.elim (λe=>.inr<|e▸be.up λB B=>.inl) λbF=>.inr ?_) ⟨b,Y,ae⟩;have tr:∀{x y z:List af},hV (cK P) x y->hV (cK P) y z->hV (λc bK=>cK P c bK\/∃b,cK P c b/\cK P b bK) x z:=λh k=>.inr<|.inr ⟨_,.uC h,.uC k⟩;refine be.d9 (λv3 v5 aD aF o=>bF.d9 (λr7 ui cP et o'=> ?_) λu=>absurd (ai List.length aF) u.dV) λu=>bF.d9 (λr7 ui cP B B=>absurd (ai List.length cP) u.d1) λv=>.inr ⟨u.dV,v.d1,λz hz=>(u.mi z hz).elim λw Y=>(v.mi w Y.1).imp λv ae=>⟨ae.1,tr Y.2 ae.2⟩,λz hz=>(v.nM z hz).elim λw Y=>(u.nM w Y.1).imp λv ae=>⟨ae.1,tr Y.2 ae.2⟩⟩;have e:v5=r7:=h2 (br aF cP) λe B=>e;exact .inl ⟨v3,ui,aD,et,o.be,o'.bF,o.gP.comp (λB B B p q=>⟨⟨p.1.name.trans q.1.name,p.1.uB.trans q.1.uB,p.1.dG.trans q.1.dG,p.1.rf.trans q.1.rf⟩,tr p.2 q.2⟩)<|e▸o'.gP⟩
structure m1(R:af->af->Prop)(c bK:List af):Prop where
 len:c.length=1↔bK.length=1
 mi:∀x∈c,∃y∈bK,R x y
 nM:∀y∈bK,∃x∈c,R y x
def m1.refl{R:af->af->Prop}(h:∀x,R x x):m1 R c c:=⟨Iff.rfl,λx ac=>⟨x,ac,h x⟩,λx ac=>⟨x,ac,h x⟩⟩
def m1.d9{R:af->af->Prop}(h:m1 R c bK)(dJ:∀x y,c=[x]->bK=[y]->R x y->Q)(fi:c.length≠1->bK.length≠1->Q):Q:=by
 by_cases l:c.length=1
 ·obtain⟨x,rfl⟩:=List.length_eq_one_iff.mp l;obtain⟨y,rfl⟩:=List.length_eq_one_iff.mp<|h.len.mp l;exact dJ x y rfl rfl<|(h.mi x bo).elim λz hz=>bR hz.1▸hz.2
 ·exact fi l λq=>l<|h.len.mpr q
def cK.d9(h:cK P c bK):m1 (λx y=>cK P [x] [y]) c bK:=h.step.elim (λe=>e▸.refl λB=>.refl) λs=>s.d9 (λx y aD aF o=>by
  subst aD;subst aF;exact⟨Iff.rfl,λz hz=>⟨y,bo,bR hz▸h⟩,λz hz=>⟨x,bo,bR hz▸h.symm⟩⟩)
 λu=>⟨⟨λq=>absurd q u.dV,λq=>absurd q u.d1⟩,λx ac=>(u.mi x ac).imp λB q=>⟨q.1,.uC q.2⟩,λx ac=>(u.nM x ac).imp λB q=>⟨q.1,.uC q.2⟩⟩
def m1.MO(h:m1 (λx y=>cK P [x] [y]) c bK):cK P c bK:=h.d9 (λx y aD aF r=>aD▸aF▸r) λdV d1=>.MN<|.inr ⟨dV,d1,λx ac=>(h.mi x ac).imp λB q=>⟨q.1,.inr q.2⟩,λx ac=>(h.nM x ac).imp λB q=>⟨q.1,.inr q.2⟩⟩
def cK.aR{x y:af}(h:cK P [x] [y]):x=y\/Bu P (cK P) x y:=h.step.elim (λe=>.inl<|h2 e λe B=>e) λs=>s.d9 (λa b aD aF o=>.inr<|h2 aD λaD B=>h2 aF λaF B=>aD▸aF▸o) λu=>absurd rfl u.dV
end
end
section
noncomputable def cu(s:String):af:=.key<|Str.ofString s
noncomputable def fU:List af:=[cu "any",cu "unknown",cu "never",cu "void",cu "undefined",cu "null",cu "string",cu "number",.bool 0 0,.bool 1 0,cu "object",.obj [] 0,.dM [8,9],cu "error",.bool 0 1,.bool 1 1,.ref 1,.ref 2,.ref 3]
structure m2(T:List af)(ps:List Nat):Prop where
 j4:2<=ps.length
 f9:ps.length<50
 aG:ps.Nodup
 o1:∀p∈ps,p≠0/\p≠1/\p≠2/\p≠10/\p≠11/\p≠13/\∃r,T[p]? =some r/\r.kind≠6
 tJ:∀p∈ps,∀q∈ps,∀r r',T[p]? =some r->T[q]? =some r'->r.d6->r'≠r.f3
 join:(8∈ps\/14∈ps)->(9∈ps\/15∈ps)->8∈ps/\9∈ps
 eY:∀p∈ps,∀r,T[p]? =some r->∀q∈ps,(q:Int)≠eY r
def rg(T:List af)(t:Nat):Prop:=(∃r,T[t]? =some r)/\t≠10/\t≠11/\t≠13/\∀p∈dS T t,∃r,T[p]? =some r/\(r.val=true\/∃d,r=.ref d)
structure Bv(T:List af)(p:ed):Prop where
 dc:rg T p.dc
 f9:(dS T p.dc).length<40
 dG:p.dG<=3
 name:e9 p.name=true
structure sH(T:List af)(ps:List ed)(f:Nat):Prop where
 bu:ps≠[]
 f9:ps.length<=3
 bU:f<=1
 names:(ps.map ed.name).Nodup
 o2:∀p∈ps,Bv T p
def wt(T:List af)(i:Nat):af->Prop
 |.key B=>i<16
 |.bool b f=>i<16
 |.ref d=>i=15+d/\1<=d/\d<=3
 |.str s f=>(s=aa "a"\/s=aa "b")/\f<=1
 |.num n f=>n<=1/\f<=1
 |.dM ps=>m2 T ps
 |.obj ps f=>i=11\/sH T ps f
structure bO(T:List af):Prop where
 aG:T.Nodup
 au:fU<+:T
 row:∀i r,T[i]? =some r->wt T i r
noncomputable def lO(o:Option af):af:=match o with
 |some r=>ct r
 |none=>.obj [] 0
noncomputable def lc(T:List af)(ps:List Nat):List af:=ps.map λp=>lO T[p]?
noncomputable def aE(T:List af)(t:Nat):List af:=lc T<|dS T t
def FR{T a7:List af}(x:ek T a7){ps:List Nat}(h:∀p∈ps,(T[p]?).isSome=true):lc a7 ps=lc T ps:=tL λp ab=>(hT<|h p ab).elim λr aH=>V (x.get aH)<|V aH rfl
def FS{T a7:List af}(x:ek T a7)(h:(T[t]?).isSome=true)(ab:∀p∈dS T t,(T[p]?).isSome=true):aE a7 t=aE T t:=(ai (lc a7)<|Bt x h).trans<|FR x ab
noncomputable def fK(T:List af)(p:ed):List af:=if gj p.b2 then(if 0<=fT (dq T [p.dc,4])then aE T p.dc else lc T (d3 T [p.dc,4]))else aE T p.dc
noncomputable def gy(T:List af)(p:ed):g8:=⟨p.name,p.b2,p.dG,fK T p⟩
section
variable{T a7:List af}{r:af}
def MP{p:Nat}:p∈dq T ts↔∃t∈ts,p∈dS T t:=Fx.trans ⟨λh=>h.resolve_left b5,.inr⟩
def bO.at(G:bO T)(h:fU[i]? =some r):T[i]? =some r:=G.au.elim λB e=>e▸(no<|fc h).trans h
def o3(h:r.kind=6)(k:∀ps,r=.dM ps->R):R:=by
 cases r with
 |dM ps=>exact k ps rfl
 |_=>exact mC h rfl
def bO.uD(G:bO T)(h:T[t]? =some r)(an:r.kind≠6):dS T t=if t=2 then[]else[t]:=by
 delta dS;refine V h ?_;cases r with
 |dM ps=>exact absurd rfl an
 |_=>rfl
def bO.uE(G:bO T)(h:T[t]? =some r)(gh:t=2->dS T t=[]->R)(dJ:r.kind≠6->t≠2->dS T t=[t]->R)(fi:∀ps,r=.dM ps->t≠2->dS T t=ps->m2 T ps->R):R:=by
 by_cases ae:t=2
 ·exact gh ae<|bh ae
 ·by_cases an:r.kind=6
  ·refine o3 an λps e=> ?_;subst e;exact fi ps rfl ae ((bH ae).trans<|V h rfl)<|G.row t _ h
  ·exact dJ an ae<|(G.uD h an).trans<|bH ae
def bO.parts(G:bO T)(h:T[t]? =some r):∀p∈dS T t,∃q,T[p]? =some q/\q.kind≠6:=G.uE h (λB e p ab=>absurd (e▸ab) b5) (λan B e p ab=>bR (e▸ab)▸⟨r,h,an⟩) λps B B e u p ab=>(u.o1 p<|e▸ab).2.2.2.2.2.2
def bO.lD(G:bO T):dS T 4=[4]:=G.uD (G.at (i:=4) rfl) (by decide)
end
end
section
section
variable{T a7:List af}{r:af}
structure Yb(T:List af)(ps:List Nat):Prop where
 aG:ps.Nodup
 row:∀p∈ps,∃r,T[p]? =some r/\r.kind≠6
 tJ:∀p∈ps,∀q∈ps,∀r r',T[p]? =some r->T[q]? =some r'->r.d6->r'≠r.f3
 join:(8∈ps\/14∈ps)->(9∈ps\/15∈ps)->8∈ps/\9∈ps
 eY:∀p∈ps,∀r,T[p]? =some r->∀q∈ps,(q:Int)≠eY r
def MQ(h:r.d6):r.f3≠r:=λe=>b7<|(yo r).symm.trans<|(ai af.d6 e).trans h
def MR(r:af):r.f3.kind=r.kind:=by
 cases r with
 |_=>rfl
def Yc{q:af}(h:q.kind=1):q.d6=false:=by
 cases q with
 |key=>rfl
 |_=>exact mC h rfl
def bO.rh(G:bO T):T[4]? =some (cu "undefined"):=G.at rfl
def bO.MS(G:bO T)(h:T[4]? =some r):r.kind=1:=bp (br G.rh h)▸rfl
def FT(r:af)(k:eY r= -1->R)(cy:∀n:Nat,eY r=n->(n=6\/n=7)->r.kind≠1->R):R:=by
 cases r with
 |str s f=>exact cy 6 rfl (.inl rfl) λh=>mC h rfl
 |num n f=>exact cy 7 rfl (.inr rfl) λh=>mC h rfl
 |_=>exact k rfl
def Yd(a:8∈[t]\/14∈[t])(b:9∈[t]\/15∈[t]):False:=
 have c:∀{x y:Nat},x∈[t]->y∈[t]->x=y:=λx y=>(bR x).trans (bR y).symm
 a.elim (λx=>b.elim (λy=>nomatch c x y) λy=>nomatch c x y) λx=>b.elim (λy=>nomatch c x y) λy=>nomatch c x y
def bO.FU(G:bO T)(h:T[t]? =some r):Yb T (dS T t):=
 G.uE h (λB e=>V e ⟨.nil,nofun,nofun,λa=>a.elim nofun nofun,nofun⟩)
  (λan B e=>V e ⟨oS ⟨b5,.nil⟩,λp ab=>bR ab▸⟨r,h,an⟩,λp ab q aC bi bg Y ae hf y=>by
   obtain rfl:=bR ab;obtain rfl:=bR aC;exact MQ hf<|br y<|bp<|br ae Y,λa b=>(Yd a b).elim,λp ab bi Y q aC y=>by
   obtain rfl:=bR ab;obtain rfl:=bR aC;refine FT bi (λw=>vl (y.trans w)) λn w c k=> ?_;obtain rfl:=k0 (y.trans w);exact k (c.elim (λc=>by subst c;exact bp ((G.at (i:=6) rfl).symm.trans Y)▸rfl) λc=>by subst c;exact bp ((G.at (i:=7) rfl).symm.trans Y)▸rfl)⟩)
  λps B B e bD=>V e ⟨bD.aG,λp ab=>(bD.o1 p ab).2.2.2.2.2.2,bD.tJ,bD.join,bD.eY⟩
def bO.uF(G:bO T){x:Nat}:x∈dq T [t,4]↔x∈dS T t\/x=4:=MP.trans ⟨λh=>h.elim λs h=>(cS h.1).elim (λe=>.inl<|e▸h.2) λaJ=>.inr<|bR<|G.lD▸bR aJ▸h.2,λh=>h.elim (λh=>⟨t,bo,h⟩) λe=>⟨4,bQ _ bo,G.lD▸vx.mpr e⟩⟩
def bO.MT(G:bO T){x y:Nat}(ac:x≠4)(a8:y≠4)(h:x∈dq T [t,4]\/y∈dq T [t,4]):x∈dS T t\/y∈dS T t:=h.imp (λz=>(G.uF.mp z).resolve_right ac) λz=>(G.uF.mp z).resolve_right a8
def bO.sI(G:bO T)(h:T[t]? =some r){x:Nat}:x∈f5 (dq T [t,4])↔x∈dS T t\/x=4:=wj.trans ⟨λq=>q.elim G.uF.mp λq=>have j:=(G.FU h).join (G.MT (by decide) (by decide) q.2.1) (G.MT (by decide) (by decide) q.2.2);.inl<|q.1.elim (λe=>e▸j.1) λe=>e▸j.2,λq=>.inl<|G.uF.mpr q⟩
def bO.MU(G:bO T)(aP:T[t]? =some r){x:Nat}{q:af}(ac:x∈f5 (dq T [t,4]))(aC:T[x]? =some q):mV T (f5<|dq T [t,4]) q=true:=by
 have P:=G.FU aP;have ac:=(G.sI aP).mp ac;have qu:x=4->q.kind=1:=λe=>G.MS<|e▸aC;refine(sG G.aG).mpr ⟨λh=>h.2.elim λn e=> ?_,FT q (λe=>V e yw) λn e c k=>V e<|oX.trans<|cp λm=> ?_⟩
 ·have du:q.kind≠1:=λk=>b7<|(Yc k).symm.trans h.1;exact ac.elim (λac=>((G.sI aP).mp e.1).elim (λhn=>P.tJ x ac n hn _ _ aC e.2 h.1 rfl) λhn=>du<|(MR q).symm.trans<|G.MS<|hn▸e.2) λac=>du<|qu ac
 ·exact ac.elim (λac=>((G.sI aP).mp m).elim (λm=>P.eY x ac q aC n m e.symm) λm=>c.elim (λc=>absurd (br m c)<|by decide) λc=>absurd (br m c)<|by decide) λac=>k<|qu ac
def bO.Ye(G:bO T)(h:T[t]? =some r){x:Nat}(ac:x∈dS T t\/x=4):∃q,T[x]? =some q:=ac.elim (λac=>(G.parts h x ac).imp λB=>And.left) λe=>⟨_,e▸G.rh⟩
def bO.sJ(G:bO T)(h:T[t]? =some r){x:Nat}:x∈d3 T [t,4]↔x∈dS T t\/x=4:=r6.trans ⟨λac=>(G.sI h).mp<|uv.mp ac.1,λac=>have aQ:=(G.sI h).mpr ac;⟨uv.mpr aQ,(G.Ye h ac).elim λB aC=>V aC<|G.MU h aQ aC⟩⟩
end
end
noncomputable def af.gP:af->List ed
 |.obj ps B=>ps
 |_=>[]
noncomputable def yz(T0:List af):List af:=T0.map af.f3++(T0.flatMap af.gP).map λp=>.dM<|d3 T0 [p.dc,4]
structure hC(T0 T:List af):Prop where
 pre:ek T0 T
 aG:T.Nodup
 new:∀i r,T[i]? =some r->T0.length<=i->(∃q∈T0,q.bc/\r=q.f3)\/∃o∈T0,∃p∈o.gP,r=.dM (d3 T0 [p.dc,4])/\fT (dq T0 [p.dc,4])<0/\2<=(d3 T0 [p.dc,4]).length
def hC.refl{T0:List af}(aG:T0.Nodup):hC T0 T0:=⟨.refl _,aG,λi r h ao=>absurd ao<|Nat.not_le_of_lt (h7 h).1⟩
theorem o4{α:Type}[DecidableEq α]:∀{l m:List α},l.Nodup->(∀x∈l,x∈m)->l.length<=m.length
 |[],B,cr,eE=>jA _
 |x::l,m,aG,h=>by
  rw[List.nodup_cons]at aG;have ac:x∈m:=h x bo;have:=o4 (l:=l) (m:=m.erase x) aG.2 λy a8=>(List.mem_erase_of_ne (by rintro rfl;exact aG.1 a8)).mpr<|h y<|bQ _ a8;rw[List.length_erase_of_mem ac]at this;exact V List.length_cons<|Nat.add_le_of_le_sub (List.length_pos_of_mem ac) this
def hC.len{T0 T:List af}(bj:hC T0 T):T.length<=T0.length+(yz T0).length:=by
 obtain⟨aB,rfl⟩:=bj.pre;have aG:=bj.aG;rw[kU]at aG;have:aB.length<=(yz T0).length:=o4 aG.2.1 λx ac=>by
  obtain⟨i,ah⟩:=q9.mp ac;have:=bj.new (T0.length+i) x (by refine V (wk<|by exact HS) ?_;simpa using ah) (by exact HS);unfold yz;rw[qv,List.mem_map,List.mem_map];rcases this with⟨q,aC,B,rfl⟩|⟨o,aA,p,ab,rfl,cr⟩
  ·exact .inl ⟨q,aC,rfl⟩
  ·exact .inr ⟨p,List.mem_flatMap.mpr ⟨o,aA,ab⟩,rfl⟩
 refine V eo ?_;exact hA this _
def MV{T:List af}{q:af}{r:af}(h:(iP T q)[i]? =some r):T[i]? =some r\/(r=q/\i=T.length):=by
 unfold iP at h
 split at h
 ·exact .inl h
 ·by_cases ao:i<T.length
  ·rw[no ao]at h;exact .inl h
  ·rw[wk (by exact vm ao)]at h;obtain⟨k,rfl⟩:∃k,i=T.length+k:=⟨i-T.length,by exact iX<|HW<|vm ao⟩;rw[Nat.add_sub_cancel_left]at h;cases k with
   |zero=>simp at h;exact .inr ⟨h.symm,rfl⟩
   |succ k=>simp at h
def MW{T:List af}{q:af}(aG:T.Nodup):(iP T q).Nodup:=by
 unfold iP;split
 ·exact aG
 ·rename_i h
  rw[kU];exact⟨aG,by simp,λa aU b aj e=>by simp at aj;subst aj;subst e;exact h aU⟩
def hC.wu{T0 T:List af}(bj:hC T0 T){q:af}(h:(∃nr∈T0,nr.bc/\q=nr.f3)\/∃o∈T0,∃p∈o.gP,q=.dM (d3 T0 [p.dc,4])/\fT (dq T0 [p.dc,4])<0/\2<=(d3 T0 [p.dc,4]).length):hC T0 (iP T q):=
 ⟨bj.pre.trans<|uA T q,MW bj.aG,λi r aH ao=>by
  rcases MV aH with aH|⟨rfl,B⟩
  ·exact bj.new i r aH ao
  ·exact h⟩
section
section
variable{T0 T:List af}{r:af}
def FV{T a7:List af}(x:ek T a7)(h:a7[i]? =some r)(ao:i<T.length):T[i]? =some r:=by obtain⟨aB,rfl⟩:=x;exact(no ao).symm.trans h
def FW{T a7:List af}(x:ek T a7){q:af}(h:a7[i]? =some r)(aC:T[i]? =some q):r=q:=by exact bp<|br h<|x.get aC
def m2.pre{T a7:List af}(x:ek T a7){ps:List Nat}(u:m2 T ps):m2 a7 ps:=
 have g:=λp ab=>(u.o1 p ab).2.2.2.2.2.2
 ⟨u.j4,u.f9,u.aG,λp ab=>have c:=u.o1 p ab;⟨c.1,c.2.1,c.2.2.1,c.2.2.2.1,c.2.2.2.2.1,c.2.2.2.2.2.1,(g p ab).imp λq h=>⟨x.get h.1,h.2⟩⟩,
  λp ab q aC r r' Y ae=>(g p ab).elim λa aU=>(g q aC).elim λb aj=>V (FW x Y aU.1)<|V (FW x ae aj.1)<|u.tJ p ab q aC a b aU.1 aj.1,
  u.join,λp ab r Y q aC=>(g p ab).elim λa aU=>V (FW x Y aU.1) (u.eY p ab a aU.1 q aC)⟩
def rg.pre{T a7:List af}(x:ek T a7)(h:rg T t):rg a7 t:=⟨h.1.imp λB=>x.get,h.2.1,h.2.2.1,h.2.2.2.1,λp ab=>h.1.elim λr aH=>(h.2.2.2.2 p<|Bt x (ai Option.isSome aH)▸ab).imp λq h=>⟨x.get h.1,h.2⟩⟩
def sH.pre{T a7:List af}(x:ek T a7){f:Nat}(h:sH T ps f):sH a7 ps f:=⟨h.bu,h.f9,h.bU,h.names,λp ab=>have q:=h.o2 p ab;⟨q.dc.pre x,q.dc.1.elim λr aH=>V (Bt x<|ai Option.isSome aH) q.f9,q.dG,q.name⟩⟩
def wt.pre{T a7:List af}(x:ek T a7)(h:wt T i r):wt a7 i r:=by
 cases r with
 |dM ps=>exact m2.pre x h
 |obj ps f=>exact h.imp_right<|sH.pre x
 |_=>exact h
def bO.obj(G:bO T){f:Nat}(h:T[i]? =some (.obj ps f))(ab:p∈ps):sH T ps f:=
 (G.row i _ h).resolve_left λe=>by
  subst e;exact absurd ((af.obj.inj<|bp<|(G.at (i:=11) rfl).symm.trans h).1▸ab) b5
def bO.FX(G:bO T){f:Nat}(h:T[i]? =some (.obj ps f))(ab:p∈ps):rg T p.dc:=((G.obj h ab).o2 p ab).dc
def bO.yA(G:bO T){o:af}(h:o∈T)(ab:p∈o.gP):rg T p.dc:=by
 obtain⟨i,ah⟩:=q9.mp h;cases o with
 |obj ps f=>exact G.FX ah ab
 |_=>exact absurd ab b5
def yB:(d3 T ts).Nodup:=(XD<|XJ<|Xw (gl:=[]) .nil).filter _
def FY(h:0∈gl):fT gl=0:=bh h
def FZ(h:1∈gl):0<=fT gl:=by
 delta fT;by_cases h0:0∈gl
 ·exact V (bh h0) (by decide)
 ·refine V (bH h0) ?_;by_cases j8:13∈gl
  ·exact V (bh j8) (by decide)
  ·exact V (bH j8) (V (bh h)<|by decide)
def bO.F0(G:bO T)(h:rg T t)(Yg:(dS T t).length<40)(h0:fT (dq T [t,4])<0)(ae:2<=(d3 T [t,4]).length):m2 T (d3 T [t,4]):=by
 obtain⟨⟨r,aH⟩,Fa,eU,j8,ab⟩:=h;have P:=G.FU aH;have df:=λx=>G.sJ aH (x:=x);have hI:∀x,x∈d3 T [t,4]->∀q,T[x]? =some q->¬(q.d6=true/\∃n∈f5 (dq T [t,4]),T[n]? =some q.f3)/\kB (f5<|dq T [t,4]) (Mine.eY q)=false:=λx ac q aC=>(sG G.aG).mp<|G.MU aH ((G.sI aH).mpr<|(df x).mp ac) aC;refine⟨ae,?_,yB,λp yC=>((df p).mp yC).elim ?_ λe=>e▸⟨by decide,by decide,by decide,by decide,by decide,by decide,_,G.rh,by decide⟩,λp yC q F1 a b aU aj hf e=>(hI p yC a aU).1 ⟨hf,q,(G.sI aH).mpr<|(df q).mp F1,aj.trans<|ai some e⟩,λa b=> ?_,λp yC a aU q F1 e=>b7<|(hI p yC a aU).2.symm.trans<|e▸oX.trans (ck<|(G.sI aH).mpr<|(df q).mp F1)⟩
 ·exact c1 (o4 (m:=4::dS T t) yB λx ac=>((df x).mp ac).elim (bQ _) λe=>e▸bo) (ea (tV Yg)<|by decide)
 ·exact G.uE aH (λB e mY=>absurd (e▸mY) b5) (λan ae e mY=>by
   obtain rfl:=bR (e▸mY:);have bA:=G.uF.mpr<|.inl mY;refine⟨λq=> ?_,λq=> ?_,ae,Fa,eU,j8,r,aH,an⟩
   ·subst q;exact Int.lt_irrefl 0<|FY bA▸h0
   ·subst q;exact pD.mpr h0 (FZ bA)) λps B B e u mY=>u.o1 p (e▸mY)
 ·have j:=λ{x:Nat} (h:x≠4) (q:x∈d3 T [t,4])=>((df x).mp q).resolve_right h;have:=P.join (a.imp (j<|by decide)<|j<|by decide) (b.imp (j<|by decide)<|j<|by decide);exact⟨(df 8).mpr<|.inl this.1,(df 9).mpr<|.inl this.2⟩
end
end
section
section
variable{T0 T:List af}{r:af}
def bO.isSome(G:bO T)(h:i<19):(T[i]?).isSome=true:=ai Option.isSome<|G.at (jh (l:=fU) h)
def bO.Yh(G:bO T):19<=T.length:=let⟨_,e⟩:=G.au;e▸eo▸cT 19 _
def bO.ri(G:bO T)(h:T[i]? =some r)(ah:i<19):fU[i]? =some r:=(jh (l:=fU) ah).trans<|(G.at (jh (l:=fU) ah)).symm.trans h
def bO.MX{p:af->Bool}(ab:fU.all p)(G:bO T)(h:T[t]? =some r)(ah:t<19):p r:=hg ab r<|dK<|G.ri h ah
def MY{T:List af}(G:bO T0)(bj:hC T0 T)(h:rg T0 t):dq T [t,4]=dq T0 [t,4]/\d3 T [t,4]=d3 T0 [t,4]:=
 have aJ:=ux (P:=λs=>∃r,T0[s]? =some r) h.1 ⟨_,G.rh⟩
 X9 bj.pre bj.aG G.aG (λs h=>(aJ s h).elim λB aC=>ai Option.isSome aC) (λs h p ab=>let⟨_,aC⟩:=aJ s h;let⟨_,hz,_⟩:=G.parts aC p ab;ai Option.isSome hz) (G.isSome<|by decide) (G.isSome<|by decide)
def bO.f9(G:bO T){o:af}(h:o∈T)(ab:p∈o.gP):(dS T p.dc).length<40:=by
 obtain⟨i,ah⟩:=q9.mp h;cases o with
 |obj ps f=>
  rcases G.row i _ ah with rfl|q
  ·rw[G.at (i:=11) rfl]at ah;cases ah;cases ab
  ·exact(q.o2 p ab).f9
 |_=>contradiction
def bO.bc(G:bO T)(h:T[t]? =some r)(ao:r.bc):(∃b f,r=.bool b f/\b<=1)\/(∃s f,r=.str s f/\(s=aa "a"\/s=aa "b"))\/∃n f,r=.num n f/\n<=1:=by
 have aH:=G.row t r h;cases r with
 |bool b f=>
  refine .inl ⟨b,f,rfl,?_⟩;exact dx (G.MX (p:=λr=>match r with
   |.bool b B=>decide<|b<=1
   |_=>true) rfl h (ea (show t<16 from aH) (by decide)))
 |str s f=>exact .inr<|.inl ⟨s,f,rfl,aH.1⟩
 |num n f=>exact .inr<|.inr ⟨n,f,rfl,aH.1⟩
 |_=>exact Bool.noConfusion ao
theorem bO.h9(G:bO T0)(bj:hC T0 T):bO T where
 aG:=bj.aG
 au:=by obtain⟨aB,rfl⟩:=bj.pre;obtain⟨F,rfl⟩:=G.au;exact⟨F++aB,by exact rfl⟩
 row:=λi r h=>by
  by_cases ao:i<T0.length
  ·exact(G.row i r<|FV bj.pre h ao).pre bj.pre
  ·rcases bj.new i r h (by exact vm ao)with⟨q,aC,uz,rfl⟩|⟨o,aA,p,ab,rfl,h0,ae⟩
   ·obtain⟨j,aQ⟩:=q9.mp aC;rcases G.bc aQ uz with⟨b,f,rfl,aj⟩|⟨s,f,rfl,aJ⟩|⟨n,f,rfl,hn⟩
    ·have sK:=G.Yh;have oq:b=0\/b=1:=by exact HV aj
     rcases oq with rfl|rfl
     ·have:=nL bj.aG h<|bj.pre.get<|G.at (i:=8) rfl;lia
     ·have:=nL bj.aG h<|bj.pre.get<|G.at (i:=9) rfl;lia
    ·exact⟨aJ,jA _⟩
    ·exact⟨hn,jA _⟩
   ·exact m2.pre bj.pre<|G.F0 (G.yA aA ab) (G.f9 aA ab) h0 ae
end
end
section
section
variable{T0 T:List af}{r:af}
def Yi:r.f3.bc=r.bc:=by cases r<;>rfl
def hC.F2(bj:hC T0 T)(h:T[t]? =some r):hC T0 (oZ T r):=by
 unfold oZ
 split
 ·rename_i ag
  rw[Bool.and_eq_true]at ag;by_cases ao:t<T0.length
  ·exact bj.wu<|.inl ⟨r,dK<|FV bj.pre h ao,ag.1,rfl⟩
  ·rcases bj.new t r h (by exact vm ao)with⟨q,aC,uz,rfl⟩|⟨o,aA,p,ab,rfl,B⟩
   ·rw[yo]at ag;exact absurd ag.2 (by decide)
   ·exact Bool.noConfusion ag.1
 ·exact bj
def bO.Yj(bj:hC T0 T){f:Nat}(h:T[t]? =some (.obj ps f)):T0[t]? =some (.obj ps f):=by
 by_cases ao:t<T0.length
 ·exact FV bj.pre h ao
 ·rcases bj.new t _ h (by exact vm ao)with⟨q,aC,uz,e⟩|⟨o,aA,p,ab,e,B⟩
  ·cases q<;>simp [af.f3]at e;exact Bool.noConfusion uz
  ·exact af.noConfusion e
theorem hC.wv(G:bO T0)(bj:hC T0 T){o:af}(aA:o∈T0)(ab:p∈o.gP):hC T0 (hN T [p.dc,4]):=by
 obtain⟨aD,aF⟩:=MY G bj<|G.yA aA ab;unfold hN;refine V aD<|V aF ?_
 split
 ·exact bj
 ·split
  ·exact bj.wu (.inr ⟨o,aA,p,ab,rfl,by lia,by assumption⟩)
  ·exact bj
def Yk{s:Str}(h:s=aa "a"\/s=aa "b"):e9 s:=h.elim (λe=>e▸by decide) λe=>e▸by decide
def bO.MZ(G:bO T)(h:T[t]? =some r):I.key r.b6:=by
 have aH:=G.row t r h;have cf:=G.MX (p:=λr=>I.key r.b6) (by decide) h;cases r with
 |key s=>exact cf (ea (show t<16 from aH)<|by decide)
 |bool b f=>rfl
 |ref d=>rfl
 |str s f=>exact(show(I.hr 5 (.str s)&&true)=true from dI (Yk aH.1) rfl)
 |num n f=>rfl
 |dM ps=>exact(show(I.gR 4 (ps.map J)&&true)=true from dI (Bl _) rfl)
 |obj ps f=>exact aH.elim (λe=>cf<|e▸by decide) λq=>(show(I.gR 4 (ps.map cn)&&true)=true from dI (FL λp ab=>(q.o2 p ab).name) rfl)
def bO.yD(G:bO T)(h:T.length<=10000):wm T where
 aG:=G.aG
 ok:=λr aH=>let⟨i,ah⟩:=q9.mp aH;G.MZ ah
 len:=h
 q8:=G.isSome (by decide)
 MG:=G.isSome (by decide)
 MH:=G.isSome (by decide)
 parts:=λt aP p ab=>by
  obtain⟨r,aH⟩:=hT aP;obtain⟨q,aC,B⟩:=G.parts aH p ab;refine V aC ?_;rfl
 MI:=λt aP=>by
  obtain⟨r,aH⟩:=hT aP;unfold dS
  split
  ·decide
  ·refine V aH ?_;cases r<;>try (show 1<50;decide)
   exact m2.f9 (T:=T)<|G.row t _ aH
 rb:=G.lD
end
end
section
section
variable{T0 T:List af}{r:af}
def bO.o3(G:bO T){ps:List Nat}(h:T[t]? =some (.dM ps)):t≠2:=λe=>by
 subst e;exact af.noConfusion<|bp<|(G.at (i:=2) rfl).symm.trans h
def Bw(G:bO T){ps:List Nat}(h:T[t]? =some (.dM ps)):aE T t=lc T ps:=ai (lc T) ((bH<|G.o3 h).trans (V h rfl):dS T t=ps)
def Yl{ps:List Nat}(ae:t≠2)(h:T[t]? =some (.dM ps)):aE T t=lc T ps:=ai (lc T) ((bH ae).trans (V h rfl):dS T t=ps)
def F3(h:T[t]? =some r):lc T [t]=[ct r]:=ai (λo=>[lO o]) h
def uG(G:bO T)(h:T[t]? =some r)(an:r.kind≠6)(ae:t≠2):aE T t=[ct r]:=(ai (lc T)<|(G.uD h an).trans<|bH ae).trans<|F3 h
def M0:aE T 2=[]:=rfl
def ww:(ct r).kind=r.kind:=by
 delta ct;cases r.bc&&r.d6 with
 |true=>exact MR r
 |false=>rfl
def jo:ct (ct r)=ct r:=by
 cases h:r.bc&&r.d6 with
 |true=>have e:ct r=r.f3:=bh h;exact V e<|bH λq=>b7<|(yo r).symm.trans<|cO q
 |false=>exact ai ct<|bH λq=>b7<|br h q
def Bx(h:(u:Int)=fT gl):u∈gl/\(u=0\/u=1\/u=13):=by
 delta fT at h;by_cases h0:0∈gl
 ·obtain rfl:=k0<|h.trans<|bh h0;exact⟨h0,.inl rfl⟩
 ·rw[bH h0]at h;by_cases j8:13∈gl
  ·obtain rfl:=k0<|h.trans<|bh j8;exact⟨j8,.inr<|.inr rfl⟩
  ·rw[bH j8]at h;by_cases Y:1∈gl
   ·obtain rfl:=k0<|h.trans<|bh Y;exact⟨Y,.inr<|.inl rfl⟩
   ·exact(vl<|h.trans<|bH Y).elim
def Ym(G:bO T0)(bj:hC T0 T){o:af}(aA:o∈T0)(ab:p∈o.gP)(h:if gj p.b2 then wi T [p.dc,4] u else u=p.dc):aE (if gj p.b2 then hN T [p.dc,4]else T) u=fK T0 p/\((if gj p.b2 then hN T [p.dc,4]else T)[u]?).isSome=true:=by
 have mU:=G.yA aA ab;refine mU.1.elim λr aH=> ?_;have pt:∀q∈dS T0 p.dc,(T0[q]?).isSome=true:=λq aC=>(G.parts aH q aC).elim λB z=>ai Option.isSome z.1;have M1:aE T p.dc=aE T0 p.dc:=FS bj.pre (ai Option.isSome aH) pt;have aP:(T[p.dc]?).isSome=true:=ai Option.isSome<|bj.pre.get aH;delta fK;cases hf:gj p.b2 with
 |false=>rw[hf]at h;obtain rfl:u=p.dc:=h;exact⟨M1,aP⟩
 |true=>
  rw[hf]at h;have h:wi T [p.dc,4] u:=h;have e:=MY G bj mU;have GT:=G.h9 bj;show aE (hN T [p.dc,4]) u=(if _ then _ else _)/\((hN T [p.dc,4])[u]?).isSome=true;by_cases h0:0<=fT (dq T0 [p.dc,4])
  ·have Y:0<=fT (dq T [p.dc,4]):=V e.1 h0;have c:=Bx<|h.top Y;rw[e.1]at c;have hm:=(G.uF.mp c.1).resolve_right λe=>by subst e;exact absurd c.2 (by decide)
   have bD:u=p.dc:=G.uE aH (λB e=>absurd (e▸hm) b5) (λB B e=>bR<|e▸hm) λps B B e By=>have k:=By.o1 u<|e▸hm;(c.2.elim k.1 λc=>c.elim k.2.1 k.2.2.2.2.2.1).elim;exact V (bh h0)<|V (show hN T [p.dc,4]=T from bh Y)<|V bD ⟨M1,aP⟩
  ·have Y:¬0<=fT (dq T [p.dc,4]):=V e.1 h0;have hn:=pD.mp Y;refine V (bH h0) ?_;by_cases ae:2<=(d3 T [p.dc,4]).length
   ·have hm:=h.iV hn ae;refine⟨(Yl (λq=>by
     subst q;exact af.noConfusion (bp (((Br T [p.dc,4]).get (GT.at (i:=2) rfl)).symm.trans hm))) hm).trans (V e.2 (FR (bj.pre.trans (Br T _)) λq aC=>((G.sJ aH).mp aC).elim (pt q) λe=>e▸G.isSome (by decide))),ai Option.isSome hm⟩
   ·have cq:4∈d3 T0 [p.dc,4]:=(G.sJ aH).mpr<|.inr rfl;refine(List.length_eq_one_iff.mp<|Nat.le_antisymm (pz<|Nat.lt_of_not_le ae)<|Nat.succ_le_of_lt<|List.length_pos_of_mem<|e.2▸cq).elim λx ac=> ?_;obtain rfl:=bR (ac▸e.2▸cq:4∈[x]);obtain rfl:=h.aR hn 4 ac;exact V (show hN T [p.dc,4]=T from(bH Y).trans<|bH ae) ⟨(uG GT GT.rh (by decide)<|by decide).trans<|V e.2.symm<|V ac (F3 G.rh).symm,GT.isSome<|by decide⟩
end
end
section
section
variable{T0 T:List af}{r:af}
def M2(G:bO T0)(bj:hC T0 T)(h:T[t]? =some r)(bD:(oZ T r)[u]? =some (ct r))(aJ:ct r=r->u=t/\oZ T r=T):aE (oZ T r) u=aE T t:=by
 have GT:=G.h9 bj;have Yn:=bj.F2 h;have M3:=G.h9 Yn;by_cases an:r.kind=6
 ·have:ct r=r:=by
   cases r<;>first|rfl|cases an
  obtain⟨rfl,e⟩:=aJ this;exact V e rfl
 ·by_cases ae:t=2
  ·subst ae;have yE:=GT.at (i:=2) (r:=cu "never") rfl;rw[h]at yE;cases yE;obtain⟨rfl,e⟩:=aJ rfl;exact gq M0<|iX M0
  ·have Yo:u≠2:=by
    rintro rfl;have yE:=M3.at (i:=2) (r:=cu "never") rfl;rw[bD]at yE;have Bz:ct r=cu "never":=by simpa using yE
    have:r=cu "never":=by
     unfold ct at Bz
     split at Bz
     ·cases r<;>simp [af.f3,cu]at Bz
      rename_i ag;simp [af.bc,af.kind]at ag
     ·exact Bz
    have Yp:=GT.at (i:=2) (r:=cu "never") rfl;exact ae<|nL bj.aG h<|this▸Yp
   exact V (uG GT h an ae) (V (uG M3 bD (by refine V ww ?_;exact an) Yo)<|V jo rfl)
end
end
section
structure mj(T:List af)(a1:Nat->Nat)(t:Nat)(r:af)(ps:List ed):Prop where
 row:T[t]? =some r
 M4:r.kind≠6
 d4:∃u f,d4 T a1 40 t=some u/\T[u]? =some (.obj ps f)
 names:∀p∈ps,e9 p.name=true
 cF:(r.kind=8\/r.kind=9)->ps≠[]
noncomputable def M5(T0:List af)(o:Option Nat):List ed:=match o with
 |some u=>match T0[u]?with
  |some q=>q.gP
  |none=>[]
 |none=>[]
noncomputable def fP(T0:List af)(a1:Nat->Nat):af->List ed
 |.obj ps B=>ps
 |.ref d=>M5 T0<|d4 T0 a1 40<|15+d
 |_=>[]
noncomputable def yF(T0:List af)(a1:Nat->Nat)(r:af):List g8:=(fP T0 a1 r).map<|gy T0
section
variable{T0 T:List af}{r:af}
theorem BA{T a7:List af}(x:ek T a7):∀{n t u:Nat},d4 T a1 n t=some u->d4 a7 a1 n t=some u
 |0,t,u,h=>by contradiction
 |n+1,t,u,h=>by
  unfold d4 at h⊢;cases aH:T[t]?with
  |none=>rw[aH]at h;contradiction
  |some r=>
   rw[aH]at h;refine V (x.get aH) ?_;cases r with
   |ref d=>
    simp only at h⊢
    split at h
    ·rename_i bC;refine V (bh bC) ?_;exact BA x h
    ·contradiction
   |_=>exact h
structure F4(T0:List af)(a1:Nat->Nat):Prop where
 body:∀d,1<=d->d<=3->∃u ps f,d4 T0 a1 40 (15+d)=some u/\T0[u]? =some (.obj ps f)/\u≠11
def M6{f:Nat}(Y:d4 T0 a1 40 (15+d)=some u)(ae:T0[u]? =some (.obj ps f)):fP T0 a1 (.ref d)=ps:=by delta fP M5;simp only[Y,ae];rfl
structure BB(T0:List af)(ps:List ed):Prop where
 bu:ps≠[]
 f9:ps.length<=3
 names:(ps.map ed.name).Nodup
 mem:∀p∈ps,Bv T0 p/\∃o∈T0,p∈o.gP
def bO.M7(G:bO T){f:Nat}(h:T[t]? =some (.obj ps f))(gr:t≠11):BB T ps:=by
 rcases G.row t _ h with q|q
 ·exact absurd q gr
 ·exact⟨q.bu,q.f9,q.names,λp ab=>⟨q.o2 p ab,_,dK h,ab⟩⟩
def yG(G:bO T0)(D:F4 T0 a1)(bj:hC T0 T)(h:T[t]? =some r)(aJ:r.shaped)(gr:t≠11):mj T a1 t r (fP T0 a1 r)/\BB T0 (fP T0 a1 r):=by
 have GT:=G.h9 bj;cases r with
 |obj ps f=>have h0:=bO.Yj bj h;have W:=G.M7 h0 gr;refine⟨⟨h,(show(8:Nat)≠6 by decide),⟨t,f,?_,h⟩,λp ab=>(W.mem p ab).1.name,λB=>W.bu⟩,W⟩;unfold d4;exact V h rfl
 |ref d=>obtain⟨e,iO,fI⟩:t=15+d/\1<=d/\d<=3:=GT.row t _ h;subst e;obtain⟨u,ps,f,Y,ae,ba⟩:=D.body d iO fI;refine V (M6 Y ae) ?_;have W:=G.M7 ae ba;exact⟨⟨h,(show(9:Nat)≠6 by decide),⟨u,f,BA bj.pre Y,bj.pre.get ae⟩,λp ab=>(W.mem p ab).1.name,λB=>W.bu⟩,W⟩
 |_=>exact Bool.noConfusion aJ
def Yq(G:bO T)(h:T[t]? =some r)(aS:r.val):mj T a1 t r []:=by
 refine⟨h,by rintro q;unfold af.val at aS;rw[q]at aS;exact absurd aS<|by decide,⟨11,0,?_,G.at (i:=11) rfl⟩,by exact by decide,λq=> ?_⟩
 ·unfold d4;refine V h ?_;cases r<;>first|rfl|exact Bool.noConfusion aS
 ·rcases q with q|q<;>(unfold af.val at aS;rw[q]at aS;exact absurd aS<|by decide)
end
end
section
def yH{n:Nat}(h:n<16000000): -lim<(n:Int)/\(n:Int)<lim:=⟨Int.lt_of_lt_of_le (by decide)<|p5 n,Int.lt_trans (hd h)<|by decide⟩
section
def wx(h:0<b):iF .mD (J a) (J b) C=some (J<|a%b,C):=(bh<|hd h).trans<|ai (λz=>some (I.int z,C)) (Int.ofNat_fmod a b).symm
def Yr(h:0<b)(k:b<16000000):iF .fdiv (J a) (J b) C=some (J<|a/b,C):=(bh ⟨hd h,(yH k).2⟩).trans<|ai (λz=>some (I.int z,C)) (Int.ofNat_fdiv a b).symm
def M8(h:a<16000000)(k:b<16000000):iF .mul (J a) (J b) C=some (J<|a*b,C):=(bh ⟨(yH h).1,(yH h).2,yH k⟩:(if-lim<(a:Int)/\(a:Int)<lim/\-lim<(b:Int)/\(b:Int)<lim then some (I.int<|(a:Int)*(b:Int),C)else none)=_)
end
def Ys{n:Nat}(ao:n<=l.length):px l (some (n:Int)) none=l.drop n:=by have Y:ng (n:Int) l.length=n:=(bH<|Int.not_lt.mpr<|p5 n).trans<|Nat.min_eq_left ao;show(l.take l.length).drop (ng (n:Int) l.length)=_;exact V Y<|V (List.take_length) rfl
def M9{o:Nat}{cf ah:Option I}{a b:Option Int}(Y:l4 cf=some a)(ae:l4 ah=some b)(h:C[o]? =some (.list l)):nh (.L o) cf ah C=some (.L C.length,C++[.list<|px l a b]):=by delta nh;refine V Y<|V ae ?_;show(match C[o]?with|some (b3.list l)=>some (I.L C.length,C++[b3.list<|px l a b])|_=>none)=_;exact V h rfl
def Na{i:Int}(h: -lim<i/\i<lim):l4 (some<|.int i)=some (some i):=bh h
def F5{o n:Nat}(h:C[o]? =some (.list l))(hn:n<16000000)(ao:n<=l.length):nh (.L o) (some<|J n) none C=some (.L C.length,C++[.list<|l.drop n]):=(M9 (Na<|yH hn) (rfl:l4 none=some none) h).trans<|ai (λl=>some (I.L C.length,C++[b3.list l]))<|Ys ao
def yI(h:C[a]? =some (.list l))(h0:a≠0)(ah:i<l.length)(c:∀S,qt C (J i) v (.L a)=some S->hL C a (.list<|l.set i v) S->R):R:=by
 refine c (C.set a<|.list<|l.set i v) ?_ rfl;show(match C[a]?with
  |some (.list l)=>if a≠0/\0<=(i:Int)/\(i:Int)<l.length then some (C.set a<|.list<|l.set (i:Int).toNat v)else none
  |some (.dict l)=>if e3 l (J i)&&decide (l.length<16000000)&&decide (a≠0)then some (C.set a<|.dict<|fB l (J i) v)else none
  |_=>none)=_
 exact V h<|bh ⟨h0,p5 _,hd ah⟩
structure kE where
 n:Nat
 a:Nat
 l:List Nat
structure Yt(D:kE):Prop where
 bu:D.l≠[]
 f9:D.l.length<=40
 pos:0<D.a
 Yu:D.n≠D.a
structure hD(D:kE)(b:Nat)(C:St):Prop where
 ok:Yt D
 ns:C[D.n]? =some (.list<|D.l.map J)
 BC:∃i,i<=b/\C[D.a]? =some (.list [J i])
structure hO(D:kE)(b:Nat)(C S:St):Prop where
 w:hD D b S
 f:bw C S [D.a]
section
variable{D:kE}{n:Nat}
def hD.keep(h:hD D b C)(f:bw C S ms)(Y:D.n∉ms)(ae:D.a∉ms):hD D b S:=⟨h.ok,f.get h.ns Y,h.BC.imp λB h=>⟨h.1,f.get h.2 ae⟩⟩
def hD.cj(h:hD D b C)(k:b<=b'):hD D b' C:=⟨h.ok,h.ns,h.BC.imp λB h=>⟨a3 h.1 k,h.2⟩⟩
def hD.refl(h:hD D b C):hO D b C C:=⟨h,.refl _ _⟩
def hD.lt(h:hD D b C):D.a<C.length:=h.BC.elim λB h=>fc h.2
def hO.trans(x:hO D b C S)(y:hO D b' S ov):hO D b' C ov:=⟨y.w,x.f.trans y.f⟩
def hO.go(x:hO D b C S)(f:bw S ov []):hO D b C ov:=⟨x.w.keep f b5 b5,x.f.trans<|f.cj nofun⟩
def hO.push(x:hO D b C S)(g:St):hO D b C (S++g):=x.go<|.push _ _ _
def hO.cj(x:hO D b C S)(k:b<=b'):hO D b' C S:=⟨x.w.cj k,x.f⟩
def lf(h:hD D b C)(aj:b<=10000)(hn:0<n)(aq:∀x S,x<n->a0 a2 (d+1) 98 [.L D.n,.L D.a,J n] C=some (J x,S)->hO D (b+1) C S->bZ):bZ:=by
 refine h.BC.elim λi ag=> ?_;have an:0<D.l.length:=List.length_pos_iff.mpr h.ok.bu;have ah:i<16000000:=c1 (a3 ag.1 aj) (by decide);refine yI (i:=0) (v:=J<|i+1) ag.2 (dd h.ok.pos) Nat.one_pos λax aJ u=> ?_;have du:=u.get h.ns h.ok.Yu;have d0:∀{j:Nat} (aQ:j<D.l.length),fq ax (.L D.n) (J j)=some (J D.l[j]):=λaQ=>j9 du<|ou.trans<|ai (Option.map J)<|jh aQ;exact aq _ ax (Nat.mod_lt _ hn) (go λk=>k _ (j9 (i:=0) ag.2 rfl) _ _ rfl _ aJ _ _ (nJ du) _ _ (wx an) _ (d0<|Nat.mod_lt i an) _ _ (Yr an<|c1 h.ok.f9<|by decide) _ (d0 an) _ _ (wx (b:=7)<|by decide) _ _ (M8 (a:=3) (by decide) ah) _ _ rfl
  _ _ (M8 (b:=D.l[0]%7+3*i) (c1 (Nat.div_le_self _ _) ah) (c1 (lg (hi (Nat.mod_lt _ (by decide))) (m3 3 (a3 ag.1 aj))) (by decide))) _ _ rfl _ _ (wx hn))
  ⟨⟨h.ok,du,i+1,kX ag.1,u.i6 ag.2⟩,u.bU⟩
def Nb{de:I->St->Option (Option I×St)}{p:Nat->Bool}{g:Nat->I}(ag:el C)(xs:List Nat):(∀x∈xs,de (J x) C=some (if p x then some (g x)else none,C))->ir el de (xs.map J) C=some ((xs.filter p).map g,C):=by
 induction xs with
 |nil=>exactλB=>bh ag
 |cons x xs ay=>
  intro h;refine(sB ag (h x bo)<|ay λy a8=>h y<|bQ _ a8).trans<|ai (λl=>some (l,C)) ?_;cases ab:p x with
  |true=>exact V (xB ab) rfl
  |false=>exact V (vv λq=>b7<|br ab q) rfl
def Yv{p:Nat->Bool}{g:Nat->I}(Y:bV O cg H C=some (J n,C))(hn:n<16000000)(ae:∀x,x<n->gp O ifs (ar H k<|J x) C=some (p x,C))(ba:∀x,x<n->p x->bV O elt (ar H k<|J x) C=some (g x,C)):
  bV O (.jW elt k cg ifs) H C=some (.L C.length,C++[.list<|((List.range n).filter p).map g]):=
 bB Y ((bh ⟨p5 _,hd hn⟩).trans (bB (Nb rfl (List.range n) λx ac=>bB (ae x<|pH.mp ac) (by
  cases ab:p x with
  |true=>exact bB (ba x (pH.mp ac) ab) rfl
  |false=>rfl)) rfl))
def F6{s0 be bF s3:St}{Nc r7 ui:Option I}(h0:((gp O ifs (ar H k<|J 0) s0).bind λq=>if q.1 then(bV O elt (ar H k<|J 0) q.2).bind λu=>some (some u.1,u.2)else some (none,q.2))=some (Nc,be))(Y:((gp O ifs (ar H k<|J 1) be).bind λq=>if q.1 then(bV O elt (ar H k<|J 1) q.2).bind λu=>some (some u.1,u.2)else some (none,q.2))=some (r7,bF))(ae:((gp O ifs (ar H k<|J 2) bF).bind λq=>if q.1 then(bV O elt (ar H k<|J 2) q.2).bind λu=>some (some u.1,u.2)else some (none,q.2))=some (ui,s3)):
  bV O (.jW elt k (U 3) ifs) H s0=some (.L s3.length,s3++[.list<|Nc.toList++(r7.toList++(ui.toList++[]))]):=
 bB (x:=some (I.int 3,s0)) rfl ((bh<|by decide).trans<|bB (sB rfl h0<|sB rfl Y<|sB rfl ae rfl) rfl)
end
end
section
structure e1 where
 m:Nat
 aV:List Nat
noncomputable def dA(k:e1):I:=.ak [J k.m,.ak<|k.aV.map J]
noncomputable def jp:List Nat:=[1,2,4,8,3,32,36,192,0,256,512,513,1024,2048,4096,64]
noncomputable def uH:List (List Nat):=[[],[0],[1],[0,1],[2],[0,2],[1,2],[0,1,2]]
structure jK(k:e1):Prop where
 m:k.m∈jp
 aV:k.aV∈uH
 top:k.m=2048\/k.m=4096->k.aV=[]
structure cZ where
 name:Str
 k:e1
 b2:Nat
 dG:Nat
noncomputable def fQ(p:cZ):I:=.ak [.str p.name,dA p.k,J p.b2,J p.dG]
noncomputable def yJ:List Nat:=[0,0,1,2,4,32,8,16,3]
structure ml(p:cZ):Prop where
 k:jK p.k
 b2:p.b2∈yJ
 dG:p.dG<=2
noncomputable def sL(w x:Nat):Bool:=decide<|PySem.Builtin.bitAnd ((w:Int).fdiv<|2^x) 1≠0
noncomputable def F7(w:Nat):List Nat:=(List.range 3).filter λx=>sL w x
def Nd:∀w,w<8->F7 w∈uH:=by decide
def F8:∀m∈jp,(m=2048\/m=4096)↔PySem.Builtin.bitAnd (m:Int) 6144≠0:=by decide
def nN{α β:Type}{l:List α}{f:α->β}{x:α}(h:l[i]? =some x):(l.map f)[i]? =some (f x):=ou.trans<|ai (Option.map f) h
section
variable{D:kE}{n:Nat}
def Nf{e:b4}{z:Int}(h:bV O e H C=some (.int z,C)):gp O [e] H C=some (decide<|z≠0,C):=bB h (bB (Md _ _) (by cases decide (z≠0)<;>rfl))
def F9{w:Nat}(Y:bV O cg H C=some (J m,C))(hm:m<16000000){e:b4}(he:∀x,bV O e (ar H k<|J x) C=some (J w,C)):bV O (.jW (.E k) k cg [(.b8 .dj (.b8 .oc e<|.E k)<|U 1)]) H C=some (.L C.length,C++[.list<|((List.range m).filter λx=>sL w x).map J]):=Yv Y hm (λx B=>Nf<|Bd (Bd (he x) (fJ<|A3 _ _ _)<|(bh (p5 x):(if 0<=(x:Int)then some (I.int<|(w:Int).fdiv<|2^(x:Int).toNat,C)else none)=_)) lJ<|di _ _ _) λx B B=>fJ<|A3 _ _ _
def Ga(C:St){x:Nat}(h:x<16)(k:∀m∈jp,fq C (.ak [.int 1,.int 2,.int 4,.int 8,.int 3,.int 32,.int 36,.int 192,.int 0,.int 256,.int 512,.int 513,.int 1024,.int 2048,.int 4096,.int 64]) (J x)=some (J m)->R):R:=k _ (List.getElem_mem (l:=jp) h)<|b0 (l:=jp.map J)<|nN<|jh (l:=jp) h
def Yw(h:hD D b C)(aj:b<=9990)(aq:∀k S,jK k->a0 a2 (d+2) 100 [.L D.n,.L D.a] C=some (dA k,S)->hO D (b+2) C S->bZ):bZ:=by
 refine lf (d:=d) (n:=16) h (a3 aj<|by decide) (by decide) λx be ac a6 fS=>lf (d:=d) (n:=14) fS.w (a3 (kX aj)<|by decide) (by decide) λy bF a8 bS hj=>Ga be ac λm hm im=> ?_;have Gb:=fS.trans hj;by_cases aP:PySem.Builtin.bitAnd (m:Int) 6144≠0
 ·have t:h3 bF (.int<|PySem.Builtin.bitAnd (m:Int) 6144)=some true:=p2<|ck aP;exact aq ⟨m,[]⟩ bF ⟨hm,bo,λB=>rfl⟩ (go λk=>k _ _ a6 _ im _ _ bS _ _ (di _ _ _) _ t _ t) Gb
 ·have t:h3 bF (.int<|PySem.Builtin.bitAnd (m:Int) 6144)=some false:=p2<|cp aP;by_cases se:7<y
  ·exact aq ⟨m,[]⟩ bF ⟨hm,bo,λB=>rfl⟩ (go λk=>k _ _ a6 _ im _ _ bS _ _ (di _ _ _) _ t _<|k8<|ck<|hd se) Gb
  ·exact aq ⟨m,F7 y⟩ _ ⟨hm,Nd y<|pG<|Nat.le_of_not_lt se,λh=>absurd ((F8 m hm).mp h) aP⟩ (go λk=>k _ _ a6 _ im _ _ bS _ _ (di _ _ _) _ t _ (k8<|cp λq=>se<|qG.mp q) _ _ (F9 (m:=3) rfl (by decide) λB=>fJ rfl) _ _<|yn d8)<|Gb.push _
def Ng(h:hD D b C)(aj:b<=9980)(nm:Str)(aq:∀p S,p.name=nm->ml p->a0 a2 (d+3) 101 [.L D.n,.L D.a,.str nm] C=some (fQ p,S)->hO D (b+4) C S->bZ):bZ:=by
 refine Yw (d:=d) h (a3 aj<|by decide) λq be an a6 fS=>lf (d:=d+1) (n:=9) fS.w (a3 (fl aj 2)<|by decide) (by decide) λx bF ac bS hj=>lf (d:=d+1) (n:=2) hj.w (a3 (fl aj 3)<|by decide) (by decide) λy s3 a8 d2 j5=> ?_;have ao:x<yJ.length:=ac;have Gc:fq bF (.ak [.int 0,.int 0,.int 1,.int 2,.int 4,.int 32,.int 8,.int 16,.int 3]) (J x)=some (J yJ[x]):=b0 (l:=yJ.map J)<|nN<|jh ao;have Gd:=List.getElem_mem ao;generalize yJ[x]=dm at Gc Gd;have o:∀C,iF .ip (.int 1) (.int 2) C=some (.int 3,C):=λB=>rfl;have gD:∀C,iF .ip (.int 8) (.int 16) C=some (.int 24,C):=λB=>rfl;by_cases hf:PySem.Builtin.bitAnd (dm:Int) 24≠0
 ·exact aq ⟨nm,q,dm,1+y⟩ s3 rfl ⟨an,Gd,hA (pz a8) 1⟩ (go λk=>k _ _ a6 _ _ (o _) _ _ bS _ Gc _ _ (gD _) _ _ (di _ _ _) _ (p2<|ck hf) _ _ (FJ d2) _ _ rfl)<|(fS.trans hj).trans j5
 ·exact aq ⟨nm,q,dm,0⟩ bF rfl ⟨an,Gd,jA _⟩ (go λk=>k _ _ a6 _ _ (o _) _ _ bS _ Gc _ _ (gD _) _ _ (di _ _ _) _<|p2<|cp hf)<|(fS.trans hj).cj<|jZ _
end
end
variable{N:Nat->List cZ}{df:List cZ}
section
noncomputable def rj:List (List Str):=[[aa "p"],[aa "p",aa "q"],[aa "p",aa "q",aa "r"],[aa "q"],[aa "q",aa "r"]]
structure lh(N:List cZ):Prop where
 names:N.map cZ.name∈rj
 ok:∀p∈N,ml p
noncomputable def nameP:List (List Str):=[[aa "p"],[aa "p",aa "q"],[aa "p",aa "q",aa "r"]]
def Yx:∀l∈nameP,1<l.length->l.drop 1∈rj:=by decide
def Nh:∀l∈nameP,l∈rj:=by decide
noncomputable def Ge:Nat->Str
 |0=>aa "p"
 |1=>aa "q"
 |_=>aa "r"
def Yy{x:Nat}(h:x<3):fq C (.str<|aa "pqr") (J x)=some (.str<|Ge x):=by rcases gd h with rfl|rfl|rfl<;>rfl
def uI:∀aV∈uH,∀j∈aV,j<3:=by decide
def Yz{x:Nat}{l:List Nat}(h:C[a]? =some (.list<|l.map J)):l3 C (J x) (.L a)=some (decide<|x∈l):=by
 show(match C[a]?with
  |some (.list l)=>if I.key (J x)&&I.iW l then some (decide<|J x∈l)else none
  |some (.dict l)=>if e3 l (J x)then some (cE l<|J x).isSome else none
  |_=>none)=_
 exact V h<|(bh<|dI (a:=true) rfl<|Bl l).trans<|ai some<|decide_eq_decide.mpr ⟨λq=>(e4 q).elim λy h=>Fm h.2▸h.1,λh=>i1 ⟨x,h,rfl⟩⟩
def BD{α:Type}{l m:List α}{x:α}(h:l.drop k=x::m):l[k]? =some x/\l.drop (k+1)=m:=⟨(ai (l[·]?) (Nat.add_zero k).symm).trans ((List.getElem?_drop (xs:=l) (i:=k) (j:=0)).symm.trans (ai (·[0]?) h)),(List.drop_drop (l:=l) (i:=1) (j:=k)).symm.trans<|ai (List.drop 1) h⟩
section
variable{D:kE}{n:Nat}{N:List cZ}
noncomputable def eA(kF fF hu:Bool):List Nat:=(if kF then[0]else[])++((if fF then[1]else[])++if hu then[2]else[])
def YA:∀kF fF hu,eA kF fF hu∈uH:=by decide
def YB(kF fF hu:Bool):(if kF then some (J 0)else none).toList++((if fF then some (J 1)else none).toList++((if hu then some (J 2)else none).toList++[]))=(eA kF fF hu).map J:=by cases kF<;>cases fF<;>cases hu<;>rfl
def YC{l:List Nat}(h:C[sM]? =some (.list<|l.map J))(ao:l.length=3){k:e1}(an:jK k)(aq:∀cy S,jK cy->a0 a2 (d+1) 102 [dA k,.L sM] C=some (dA cy,S)->bw C S []->bZ):bZ:=by
 have aH:=uI _ an.aV;have f7:∀j∈k.aV,l[j]? =some (l.getD j 0):=λj aQ=>(jh<|ao▸aH j aQ).trans (ai some (by rw[List.getD_eq_getElem?_getD,jh<|ao▸aH j aQ];rfl));have de:∀(x:Nat) (s:St) (H:bT),s[sM]? =some (.list<|l.map J)->H 1=some (.L sM)->H 3=some (.ak<|k.aV.map J)->((gp (bk d) [(.aK .dT (.E 6)<|.comp (.av (.E 1)<|.E 7) (.aR 7) (.E 3) [])] (ar H 6<|J x) s).bind λq=>if q.1 then(bV (bk d) (.E 6) (ar H 6<|J x) q.2).bind λu=>some (some u.1,u.2)else some (none,q.2))=some (if decide (x∈k.aV.map λj=>l.getD j 0)then some (J x)else none,s++[.list<|k.aV.map λj=>J<|l.getD j 0]):=λx s H aJ Y ba=>by
  have ag:=yr (O:=bk d) (H:=ar H 6<|J x) (elt:=.av (.E 1)<|.E 7) (i:=7) (cg:=.E 3) (C:=s) (b6:=J) (xs:=k.aV) (g:=λj=>J<|l.getD j 0) (fJ ba) λj aQ=>sx (fJ Y) (fJ rfl)<|j9 aJ<|nN<|f7 j aQ;exact bB (Mz<|i7 λr=>r _ rfl _ _ ag _<|Yz<|d8.trans<|ai (λl=>some<|b3.list l) (jB (g:=J) (f:=λj=>l.getD j 0) (l:=k.aV)).symm) (by cases decide (x∈k.aV.map λj=>l.getD j 0)<;>rfl)
 have g:∀{s:St} (x:b3),s[sM]? =some (.list<|l.map J)->(s++[x])[sM]? =some (.list<|l.map J):=λx h=>(bw.push _ [x] []).get h b5;exact aq ⟨k.m,eA (decide<|0∈k.aV.map λj=>l.getD j 0) (decide<|1∈k.aV.map λj=>l.getD j 0)<|decide<|2∈k.aV.map λj=>l.getD j 0⟩ _ ⟨an.m,YA _ _ _,λt=>V (an.top t) rfl⟩ (go λr=>r _ rfl _ _ (F6 (de 0 _ _ h rfl rfl) (de 1 _ _ (g _ h) rfl rfl)<|de 2 _ _ (g _<|g _ h) rfl rfl) _ _<|V (YB _ _ _)<|yn d8)<|(((bw.push _ _ _).trans<|bw.push _ _ _).trans<|bw.push _ _ _).trans<|bw.push _ _ _
def YD{l:List Nat}{cF:List I}(ao:l.length=3)(eA:H 3=some (.L sM))(N:List cZ):∀{s:St},s[a]? =some (.list cF)->s[sM]? =some (.list<|l.map J)->(∀p∈N,ml p)->(∀(lP:List cZ) aY,ir (λs=>hc s (some a) cF) (λx s=>(gC (.iV [10,11,12,13]) x H).bind λci=>(gp (bk<|d+1) [] ci s).bind λq=>if q.1 then(bV (bk<|d+1) (.ak [(.E 10),(.a5 102 [(.E 11),(.E 3)]),(.E 12),(.E 13)]) ci q.2).bind λu=>some (some u.1,u.2)else some (none,q.2)) (N.map fQ) s=some (lP.map fQ,aY)->lP.map cZ.name=N.map cZ.name->(∀p∈lP,ml p)->bw s aY []->bZ)->bZ:=by
 induction N with
 |nil=>exactλh B B aq=>aq [] _ (bh<|iw h) rfl nofun (.refl _ _)
 |cons p N ay=>intro s h ab ok aq;have o:=ok p bo;refine YC (d:=d) ab ao o.k λcy be YE c f=>ay (f.get h b5) (f.get ab b5) (λq aC=>ok q<|bQ _ aC) λlP bF bS aF gD f2=> ?_;exact aq (⟨p.name,cy,p.b2,p.dG⟩::lP) bF (sC (iw h) (bB (x:=gC (.iV [10,11,12,13]) (fQ p) H) rfl<|bB (x:=gp (bk<|d+1) [] _ s) rfl<|bB (i7 λr=>r _ rfl _ rfl _ eA _ _ c _ rfl _ rfl) rfl) bS) (ai (p.name::·) aF) (λq aC=>(cS aC).elim (λe=>e▸⟨YE,o.b2,o.dG⟩)<|gD q)<|f.trans f2
theorem YF(fM:H 0=some (.L D.n))(bi:H 1=some (.L D.a))(xs:List Nat):∀{b:Nat} {s:St},(∀x∈xs,x<3)->hD D b s->b+4*xs.length<=9980->(∀(N:List cZ) aY,ir (λB=>true) (λx s=>(gp (bk<|d+3) [] (ar H 8 x) s).bind λq=>if q.1 then(bV (bk<|d+3) (.a5 101 [(.E 0),(.E 1),(.av (.bc<|.str<|aa "pqr")<|.E 8)]) (ar H 8 x) q.2).bind λu=>some (some u.1,u.2)else some (none,q.2)) (xs.map J) s=some (N.map fQ,aY)->N.map cZ.name=xs.map Ge->(∀p∈N,ml p)->hO D (b+4*xs.length) s aY->bZ)->bZ:=by
 induction xs with
 |nil=>exactλB h B aq=>aq [] _ rfl rfl nofun h.refl
 |cons x xs ay=>
  intro b s ac h aj aq;have e:b+4+4*xs.length=b+4*(xs.length+1):=by lia
  refine Ng (d:=d) h (a3 (cT _ _) aj) (Ge x) λp be hn ok c fS=>ay (λy a8=>ac y<|bQ _ a8) fS.w (e▸aj) λN bF bS aF gD hj=> ?_;exact aq (p::N) bF (sC rfl (bB (x:=gp (bk<|d+3) [] _ s) rfl<|bB (i7 λr=>r _ fM _ bi _ rfl _ (Yy<|ac x bo) _ _ c) rfl) bS) (uf.mpr ⟨hn,aF⟩) (λq aC=>(cS aC).elim (λe=>e▸ok)<|gD q)<|e▸fS.trans hj
def YG{α:Type}{l:List α}{x:α}(h:l[i]? =some x):l.set i x=l:=by obtain⟨ao,rfl⟩:=h7 h;exact List.set_getElem_self ao
def Ni(h:hD D b C)(aj:b<=9900)(fE:C[a]? =some (.list<|N.map fQ))(Nj:N.map cZ.name∈nameP)(qE:∀p∈N,ml p)(aU:a≠D.a)(qO:0<C.length)(aq:∀c lP S,a0 a2 (d+4) 103 [.L D.n,.L D.a,.L a] C=some (.L c,S)->S[c]? =some (.list<|lP.map fQ)->lh lP->C.length<=c->hO D (b+8) C S->bZ):bZ:=by
 refine lf (d:=d+2) (n:=3) h (a3 aj<|by decide) (by decide) λx be B D6 fS=>lf (d:=d+2) (n:=3) fS.w (a3 (fl aj 1)<|by decide) (by decide) λy bF B YH hj=>lf (d:=d+2) (n:=3) hj.w (a3 (fl aj 2)<|by decide) (by decide) λz s3 B YI j5=> ?_;have t:∀{v w:Nat} {s aY:St} {H:bT},H 0=some (.L D.n)->H 1=some (.L D.a)->a0 a2 (d+3) 98 [.L D.n,.L D.a,J 3] s=some (J v,aY)->((gp (bk<|d+3) [] (ar H 10<|J w) s).bind λq=>if q.1 then(bV (bk<|d+3) (.a5 98 [(.E 0),(.E 1),(U 3)]) (ar H 10<|J w) q.2).bind λu=>some (some u.1,u.2)else some (none,q.2))=some (some<|J v,aY):=λfM bi c=>bB (x:=some (true,_)) rfl<|bB (i7 λr=>r _ fM _ bi _ _ c) rfl;have a6:=F6 (O:=bk<|d+3) (H:=cm [.L D.n,.L D.a,.L a]) (t rfl rfl D6) (t rfl rfl YH)<|t rfl rfl YI;have iK:=((fS.trans hj).trans j5).push [.list<|[x,y,z].map J];refine YD (d:=d+2) (l:=[x,y,z]) (H:=ar (cm [.L D.n,.L D.a,.L a]) 3<|.L s3.length) rfl rfl N (iK.f.get fE<|fv aU) d8 qE λjq s4 eQ et p0 f4=> ?_;have bS:=ra (O:=bk<|d+3) (H:=ar (cm [.L D.n,.L D.a,.L a]) 3<|.L s3.length) (elt:=.ak [(.E 10),(.a5 102 [(.E 11),(.E 3)]),(.E 12),(.E 13)]) (cL:=.iV [10,11,12,13]) (cg:=.E 2) (ifs:=[]) rfl (lN<|iK.f.get fE<|fv aU) eQ;have wy:=(iK.go f4).push [.list<|jq.map fQ];have ao:C.length<=s4.length:=(iK.go f4).f.len;have Nk:(s4++[b3.list<|jq.map fQ])[s4.length]? =some (.list<|jq.map fQ):=d8;have Gf:s4.length≠D.a:=dd<|c7 h.lt ao;have BE:jq.map cZ.name∈rj:=V et<|Nh _ Nj;refine lf (d:=d+2) (n:=10) wy.w (a3 (fl aj 3)<|by decide) (by decide) λc pJ ag gM sN=> ?_;have uJ:=sN.f.get Nk<|fv Gf;have BF:=nJ uJ;by_cases ba:c<3
 ·have mW:=lG (C:=pJ)<|ck<|hd ba;have jr:=bN (C:=pJ) (a:=c) (b:=3)<|dU ba;by_cases sb:c<jq.length
  ·have ab:=jh sb;refine Ng (d:=d) sN.w (a3 (fl aj 4)<|by decide) jq[c].name λq Al aC YJ fN BG=> ?_;have Gg:=BG.f.get uJ<|fv Gf;refine yI (i:=c) (v:=fQ q) Gg (dd<|c7 qO ao) (V (c2 _) sb) λBH aJ u=> ?_;have gr:D.n≠s4.length:=λe=>by
    have q:=BG.w.ns;rw[e,Gg]at q;cases Nl:jq with
    |nil=>rw[Nl]at sb;exact absurd sb<|t7 _
    |cons y ys=>
     rw[Nl]at q;cases ao:D.l with
     |nil=>exact BG.w.ok.bu ao
     |cons z zs=>rw[ao]at q;exact h2 (b3.list.inj<|bp q) λe B=>I.noConfusion e
   have BI:=(wy.trans sN).trans BG;exact aq s4.length (jq.set c q) BH (go λk=>k _ _ a6 _ _ bS _ _ gM _ mW _ _ BF _ (lG<|ck<|hd sb) _ (j9 uJ<|nN ab) _ (b0 (i:=0) rfl) _ _ fN _ aJ _<|bN (a:=c) (b:=3)<|dU ba) ((u.i6 Gg).trans<|ai (λl=>some<|b3.list l) List.map_set.symm)
    ⟨V List.map_set<|V (YG<|aC▸nN ab) BE,λp ab=>(List.mem_or_eq_of_mem_set ab).elim (p0 p) λe=>e▸YJ⟩ ao ⟨BI.w.keep u.bU (fv gr)<|fv Gf.symm,⟨a3 BI.f.len u.bU.len,λx ac hm=>(u.bU.same x (c7 ac BI.f.len)<|fv<|dU<|c7 ac ao).trans<|BI.f.same x ac hm⟩⟩
  ·exact aq s4.length jq pJ (go λk=>k _ _ a6 _ _ bS _ _ gM _ mW _ _ BF _ (lG<|cp λq=>sb<|qG.mp q) _ jr) uJ ⟨BE,p0⟩ ao<|(wy.trans sN).cj<|cT _ 4
 ·have mW:=lG (C:=pJ)<|cp λq=>ba<|qG.mp q;by_cases he:c=3
  ·by_cases Y:1<jq.length
   ·have eS:=F5 (n:=1) uJ (by decide)<|V (c2 _)<|hi Y;exact aq pJ.length (jq.drop 1) _ (go λk=>k _ _ a6 _ _ bS _ _ gM _ mW _ (cY (b:=3) he) _ _ BF _ (k8<|ck<|hd Y) _ _ eS) (d8.trans<|ai (λl=>some<|b3.list l) List.map_drop.symm) ⟨V List.map_drop<|V et<|Yx _ Nj<|et▸V (c2 _) Y,λp ab=>p0 p<|List.mem_of_mem_drop ab⟩ (a3 ao<|a3 (hi<|fc Nk) sN.f.len)<|((wy.trans sN).push _).cj<|cT _ 4
   ·exact aq s4.length jq pJ (go λk=>k _ _ a6 _ _ bS _ _ gM _ mW _ (cY (b:=3) he) _ _ BF _<|k8<|cp λq=>Y<|qG.mp q) uJ ⟨BE,p0⟩ ao<|(wy.trans sN).cj<|cT _ 4
  ·exact aq s4.length jq pJ (go λk=>k _ _ a6 _ _ bS _ _ gM _ mW _<|bN (b:=3) he) uJ ⟨BE,p0⟩ ao<|(wy.trans sN).cj<|cT _ 4
theorem YK(h:hD D b C)(aj:b<=5000)(qO:0<C.length)(aq:∀c fH du n2 o5 wz jq S,a0 a2 (d+5) 104 [.L D.n,.L D.a] C=some (.L c,S)->S[c]? =some (.list [.L fH,.L du,.L n2])->S[fH]? =some (.list<|o5.map fQ)->S[du]? =some (.list<|wz.map fQ)->S[n2]? =some (.list<|jq.map fQ)->
   lh o5->lh wz->lh jq->(C.length<=fH/\C.length<=du/\C.length<=n2/\C.length<=c)->(c≠fH/\c≠du/\c≠n2)->hO D (b+40) C S->bZ):bZ:=by
 refine lf (d:=d+3) (n:=3) h (a3 aj<|by decide) (by decide) λv s0 aS oQ BJ=>YF (d:=d+1) (H:=cm [.L D.n,.L D.a]) rfl rfl (List.range<|1+v) (λx ac=>c7 (pH.mp ac)<|Nat.add_le_of_le_sub' (by decide)<|pz aS) BJ.w (by rw[tW];lia) λo5 be a6 aD gT fS=> ?_;rw[tW]at fS;have f:o5.map cZ.name∈nameP:=by rw[aD];rcases gd aS with rfl|rfl|rfl<;>decide
 have hn:bV (bk<|d+4) (.b8 .add (U 1)<|.a5 98 [(.E 0),(.E 1),(U 3)]) (cm [.L D.n,.L D.a]) C=some (J<|1+v,s0):=jj λr=>r _ _ oQ _ _ rfl;have tZ:bV (bk<|d+4) (.jW (.a5 101 [(.E 0),(.E 1),(.av (.bc<|.str<|aa "pqr")<|.E 8)]) 8 (.b8 .add (U 1)<|.a5 98 [(.E 0),(.E 1),(U 3)]) []) (cm [.L D.n,.L D.a]) C=some (.L be.length,be++[.list<|o5.map fQ]):=bB hn ((bh ⟨p5<|1+v,hd<|show 1+v<16000000 by lia⟩).trans<|bB a6 rfl)
 have hj:=((BJ.trans fS).cj (b':=b+13)<|by lia).push [.list<|o5.map fQ];have nO:D.a<be.length:=c7 h.lt (BJ.trans fS).f.len;have fV:(be++[b3.list<|o5.map fQ])[be.length]? =some (.list<|o5.map fQ):=d8;refine Ni (d:=d) hj.w (by lia) fV f gT (dd nO) (c7 qO hj.f.len) λdu wz bF bS g1 YL dV j5=> ?_;have h0:=j5.f.get fV<|fv<|dd nO;refine Ni (d:=d) j5.w (by lia) h0 f gT (dd nO) (c7 qO (hj.trans j5).f.len) λn2 jq s3 d2 bd YM d1 iK=> ?_;have ia:=iK.f.get g1<|fv<|dd<|c7 (c7 h.lt hj.f.len) dV;have ef:=iK.f.get h0<|fv<|dd nO;have p:=bw.push s3 [.list [.L be.length,.L du,.L n2]] [];have q:=(hj.trans j5).f.len;exact aq s3.length be.length du n2 o5 wz jq _ (go λk=>k _ _ tZ _ _ bS _ _ d2) d8 (p.get ef b5) (p.get ia b5) (p.get bd b5) ⟨Nh _ f,gT⟩ YL YM ⟨(BJ.trans fS).f.len,a3 hj.f.len dV,a3 q d1,a3 q iK.f.len⟩ ⟨dd<|fc ef,dd<|fc ia,dd<|fc bd⟩ ((((hj.trans j5).trans iK).push _).cj<|by lia)
end
end
noncomputable def nP(m:Nat):Nat:=if m=4096\/m=2048 then m else m|||512
noncomputable def lQ(p:cZ):e1:=⟨if gj p.b2 then nP p.k.m else p.k.m,p.k.aV⟩
noncomputable def hp(m:Nat):List Nat:=(List.range 13).filter λx=>sL m x
noncomputable def m4(k:e1):Nat:=k.aV.length+(hp k.m).length
noncomputable def yK(m:Nat):Bool:=decide<|PySem.Builtin.bitAnd (m:Int) 6144≠0
noncomputable def jL(f:Nat->Nat->Bool)(a b:e1):Bool:=decide (a.m=b.m)&&(decide (m4 a=1)==decide (m4 b=1))&&(yK a.m||((a.aV.all λi=>b.aV.any λj=>f i j)&&(b.aV.all λj=>a.aV.any λi=>f i j)))
noncomputable abbrev ce(k:Nat×Nat):I:=.ak [J k.1,J k.2]
noncomputable def jM(f:Nat->Nat->Bool):List (I×I):=[(ce (0,0),.bool<|f 0 0),(ce (0,1),.bool<|f 0 1),(ce (0,2),.bool<|f 0 2),(ce (1,0),.bool<|f 1 0),(ce (1,1),.bool<|f 1 1),(ce (1,2),.bool<|f 1 2),(ce (2,0),.bool<|f 2 0),(ce (2,1),.bool<|f 2 1),(ce (2,2),.bool<|f 2 2)]
def YN{α:Type}{P:α->Prop}{a:α}{l:List α}(h:P a)(k:∀x∈l,P x):∀x∈a::l,P x:=λx ac=>(cS ac).elim (λe=>e▸h)<|k x
def o6:eh C .eq (J a) (J b)=some (decide<|a=b):=(A4 _ _ _).trans<|ai some<|decide_eq_decide.mpr ⟨λh=>k0 h,λh=>ai (λn:Nat=>(n:Int)) h⟩
def mm{α:Type}{l:List α}{f:α->I}:kQ .len (.ak<|l.map f) C=some (J l.length,C):=ai (λn:Nat=>some (J n,C))<|c2 f
section
def BK(h:C[bL]? =some (.dict<|jM f))(ah:i<3)(aQ:j<3):fq C (.L bL) (.ak [J i,J j])=some (.bool<|f i j):=by rcases gd ah with rfl|rfl|rfl<;>rcases gd aQ with rfl|rfl|rfl<;>exact Bg h rfl rfl
def YO(h:m∈jp):a0 a2 (d+1) 99 [.int<|PySem.Builtin.bitOr (m:Int) 512] C=some (J<|nP m,C):=by
 refine(?_:∀m∈jp,a0 a2 (d+1) 99 [.int<|PySem.Builtin.bitOr (m:Int) 512] C=some (J<|nP m,C)) m h;delta jp
 iterate 16 (refine YN ?_ ?_;exact V (sq rfl rfl) rfl)
 exact nofun
def BL{p:cZ}(ab:ml p):a0 a2 (d+2) 105 [fQ p] C=some (dA<|lQ p,C):=by
 delta lQ;cases hf:gj p.b2 with
 |true=>exact go λr=>r _ (b0 (i:=2) rfl) _ _ (di _ _ _) _ (dH (Bq C p.b2) hf) _ (b0 (i:=1) rfl) _ (b0 (i:=0) rfl) _ _ (rfl:iF .ip (J p.k.m) (.int 512) C=_) _ _ (FJ<|YO ab.k.m) _ (b0 (i:=1) rfl) _<|b0 (i:=1) rfl
 |false=>exact go λr=>r _ (b0 (i:=2) rfl) _ _ (di _ _ _) _ (dH (Bq C p.b2) hf) _ (b0 (i:=1) rfl) _ (b0 (i:=0) rfl) _ (b0 (i:=1) rfl) _<|b0 (i:=1) rfl
def Nm{k:e1}(aq:∀S,a0 a2 (d+1) 106 [dA k] C=some (J<|m4 k,S)->bw C S []->bZ):bZ:=aq _ (go λr=>r _ (b0 (i:=1) rfl) _ _ mm _ _ (F9 (m:=13) rfl (by decide) λx=>sx (fJ rfl) lJ<|b0 (i:=0) rfl) _ _ (nJ d8) _ _ rfl)<|bw.push _ [.list<|(hp k.m).map J] _
def Nn{w:Nat}{aD aF:b4}{b:e1}{g:Nat->Nat->Bool}(hw:k≠w)(YQ:2≠w)(ac:∀{i y:Nat} {s:St} {H:bT},i<3->y∈b.aV->s[bL]? =some (.dict<|jM f)->H 2=some (.L bL)->bV (bk d) (.av (.E 2)<|.ak [aD,aF]) (ar (ar H w<|J i) 7<|J y) s=some (.bool<|g i y,s))(aV:List Nat):∀{C:St} {H:bT},(∀i∈aV,i<3)->C[bL]? =some (.dict<|jM f)->H k=some (dA b)->H 2=some (.L bL)->
  (∀aT S,fX (λB=>true) (λx H s=>cG (bk d) [
   .ite (.aK .eq (.cx .len (.comp (.E 7) (.aR 7) (.av (.E k) (U 1)) [(.av (.E 2) (.ak [aD,aF]))])) (U 0)) [.ret (.bc (.bool false))] []] (ar H w x) s) (aV.map J) H C=some (if aV.all λi=>b.aV.any (g i)then .next else .ret (.bool false),aT,S)->bw C S []->(∀i,i≠w->aT i=H i)->bZ)->bZ:=by
 induction aV with
 |nil=>exactλB B B B aq=>aq _ _ rfl (.refl _ _) λB B=>rfl
 |cons i aV ay=>
  intro C H ba aJ an ae aq;have dJ:=(pZ H (J i) hw).trans an;have ag:=ra (O:=bk d) (elt:=.E 7) (cL:=.aR 7) (ifs:=[(.av (.E 2)<|.ak [aD,aF])]) (iv:=none) (sx (fJ dJ) (lJ (v:=.int 1))<|b0 (i:=1) rfl) rfl<|Nb (p:=g i) (g:=J) rfl b.aV λy a8=>MA<|ac (ba i bo) a8 aJ ae;have le:=nJ (C:=C++[b3.list<|(b.aV.filter<|g i).map J]) d8;have k2:=bw.push C [.list<|(b.aV.filter<|g i).map J] [];cases BM:b.aV.any (g i)with
  |false=>exact aq _ _ (V (show(i::aV).all (λi=>b.aV.any<|g i)=false from V List.all_cons<|V BM rfl)<|mQ rfl<|eJ λr=>r _ _ ag _ _ le _<|cY (b:=0)<|yL.mpr<|List.filter_eq_nil_iff.mpr λy a8 q=>b7<|br BM<|pX.mpr ⟨y,a8,q⟩) k2 λj aQ=>pZ _ _ aQ
  |true=>refine ay (H:=ar H w<|J i) (λj aQ=>ba j<|bQ _ aQ) (k2.get aJ b5) dJ ((pZ _ _ YQ).trans ae) λaT S e f1 f2=>aq aT S (V (show(i::aV).all (λi=>b.aV.any<|g i)=aV.all λi=>b.aV.any (g i)from V List.all_cons<|V BM rfl)<|eT rfl (eJ λr=>r _ _ ag _ _ le _<|bN (b:=0) λq=> ?_) e) (k2.trans f1) λj aQ=>(f2 j aQ).trans<|pZ _ _ aQ;exact(pX.mp BM).elim λy a8=>List.filter_eq_nil_iff.mp (yL.mp q) y a8.1 a8.2
def No{a b:e1}(aU:∀i∈a.aV,i<3)(aj:∀i∈b.aV,i<3)(aJ:C[bL]? =some (.dict<|jM f))(aq:∀S,a0 a2 (d+2) 107 [dA a,dA b,.L bL] C=some (.bool<|jL f a b,S)->bw C S []->bZ):bZ:=by
 have j6:∀{k:e1} {C:St},fq C (dA k) (.int 0)=some (J k.m):=b0 (i:=0) rfl;by_cases hm:a.m=b.m
 ·refine Nm (d:=d) (C:=C) (k:=a) λax a6 f1=>Nm (d:=d) (C:=ax) (k:=b) λbq bS f2=> ?_;have mn:=f1.trans f2;have bu:eh bq .bu (.bool<|decide<|m4 a=1) (.bool<|decide<|m4 b=1)=some (!(decide (m4 a=1)==decide (m4 b=1))):=rfl;delta jL at aq;rw[ck hm]at aq;cases ag:(decide (m4 a=1)==decide (m4 b=1))with
  |false=>rw[ag]at aq bu;exact aq bq (go λr=>r _ j6 _ j6 _ (kc hm) _ _ a6 _ (o6 (b:=1)) _ _ bS _ (o6 (b:=1)) _ bu) mn
  |true=>
   rw[ag]at aq bu;have tt:h3 bq (.int<|PySem.Builtin.bitAnd (a.m:Int) 6144)=some (yK a.m):=rfl;cases aP:yK a.m with
   |true=>rw[aP]at aq tt;exact aq bq (go λr=>r _ j6 _ j6 _ (kc hm) _ _ a6 _ (o6 (b:=1)) _ _ bS _ (o6 (b:=1)) _ bu _ j6 _ _ (di _ _ _) _ tt) mn
   |false=>
    rw[aP]at aq tt;have BN:=mn.get aJ b5;refine Nn (d:=d+1) (f:=f) (w:=3) (k:=1) (aD:=.E 3) (aF:=.E 7) (b:=b) (g:=f) (by decide) (by decide) (λah a8 aJ ae=>i7 λr=>r _ ae _ rfl _ rfl _<|BK aJ ah<|aj _ a8) a.aV (H:=cm [dA a,dA b,.L bL]) aU BN rfl rfl λke cB g1 bd cQ=> ?_;have s3:=lL (O:=bk<|d+1) (H:=cm [dA a,dA b,.L bL]) (C:=bq) (cg:=.av (.E 0)<|U 1) (jj λr=>r _<|b0 (i:=1) rfl) g1;cases Y:a.aV.all λi=>b.aV.any λj=>f i j with
    |false=>rw[Y]at aq;rw[show(a.aV.all λi=>b.aV.any<|f i)=false from Y]at s3;exact aq cB (go λr=>r _ j6 _ j6 _ (kc hm) _ _ a6 _ (o6 (b:=1)) _ _ bS _ (o6 (b:=1)) _ bu _ j6 _ _ (di _ _ _) _ tt _ _ _ s3)<|mn.trans bd
    |true=>
     rw[Y]at aq;rw[show(a.aV.all λi=>b.aV.any<|f i)=true from Y]at s3;refine Nn (d:=d+1) (f:=f) (w:=4) (k:=0) (aD:=.E 7) (aF:=.E 4) (b:=a) (g:=λj i=>f i j) (by decide) (by decide) (λah a8 aJ ae=>i7 λr=>r _ ae _ rfl _ rfl _<|BK aJ (aU _ a8) ah) b.aV aj (bd.get BN b5) (cQ 0<|by decide) (cQ 2<|by decide) λBO fD dJ fi B=> ?_;have s4:=lL (O:=bk<|d+1) (H:=ke) (C:=cB) (cg:=.av (.E 1)<|U 1) (i7 λr=>r _ (cQ 1<|by decide) _<|b0 (i:=1) rfl) dJ;cases ae:b.aV.all λj=>a.aV.any λi=>f i j with
     |false=>rw[ae]at aq s4;exact aq fD (go λr=>r _ j6 _ j6 _ (kc hm) _ _ a6 _ (o6 (b:=1)) _ _ bS _ (o6 (b:=1)) _ bu _ j6 _ _ (di _ _ _) _ tt _ _ _ s3 _ _ _ s4)<|(mn.trans bd).trans fi
     |true=>rw[ae]at aq s4;exact aq fD (go λr=>r _ j6 _ j6 _ (kc hm) _ _ a6 _ (o6 (b:=1)) _ _ bS _ (o6 (b:=1)) _ bu _ j6 _ _ (di _ _ _) _ tt _ _ _ s3 _ _ _ s4)<|(mn.trans bd).trans fi
 ·delta jL at aq;rw[cp hm]at aq;exact aq C (go λr=>r _ j6 _ j6 _<|kb hm)<|.refl _ _
end
section
noncomputable def mq(f:Nat->Nat->Bool)(p q:cZ):Bool:=decide (dj p.b2 25=dj q.b2 25)&&(ij p.b2==ij q.b2)&&decide (p.dG=q.dG)&&jL f (lQ p) (lQ q)
noncomputable def o7(f:Nat->Nat->Bool):List cZ->List cZ->Bool
 |p::x,q::y=>mq f p q&&o7 f x y
 |B,cr=>true
noncomputable def m5(f:Nat->Nat->Bool)(x y:List cZ):Bool:=decide (x.map cZ.name=y.map cZ.name)&&o7 f x y
noncomputable def Np:List dB:=[
  .assign (.aR 4) (.av (.E 0)<|.E 3),
  .assign (.aR 5) (.av (.E 1)<|.E 3),
  .ite (.or (.aK .bu (.b8 .dj (.av (.E 4)<|U 2)<|U 25)<|.b8 .dj (.av (.E 5)<|U 2)<|U 25)<|.or (.aK .bu (.aK .eq (.b8 .dj (.av (.E 4)<|U 2)<|U 34)<|U 0)<|.aK .eq (.b8 .dj (.av (.E 5)<|U 2)<|U 34)<|U 0)<|.aK .bu (.av (.E 4)<|U 3)<|.av (.E 5)<|U 3) [
   .ret (.bc (.bool false))] [],
  .ite (.not (.a5 107 [(.a5 105 [(.E 4)]),(.a5 105 [(.E 5)]),(.E 2)])) [
   .ret (.bc (.bool false))] []]
def jK.lt{k:e1}(h:jK k):∀i∈k.aV,i<3:=uI _ h.aV
def BP:∀l∈rj,∀s∈l,e9 s:=by decide
def Gh:∀l∈rj,l.length<=3:=by decide
def lh.f9{N:List cZ}(h:lh N):N.length<=3:=c2 (as:=N) cZ.name▸Gh _ h.names
def Nq{n:Nat}{l:List Str}(h:∀s∈l,e9 s):I.gR n (l.map .str)=true:=by
 induction l with
 |nil=>rfl
 |cons s l ay=>exact dI (by cases n<;>exact h s bo)<|ay λq aC=>h q<|bQ _ aC
section
variable{lj sO:Nat}{a4 cI:List cZ}
def Nr{x y:Bool}:eh C .bu (.bool x) (.bool y)=some (!(x==y)):=rfl
def Nt:∀x y:Bool,(!((!x)==(!y)))= !(x==y):=by decide
def sP{p:cZ}:eh C .eq (.int<|PySem.Builtin.bitAnd (p.b2:Int) 34) (.int 0)=some (!ij p.b2):=(A4 _ _ _).trans<|ai some ((decide_not (p:=PySem.Builtin.bitAnd (p.b2:Int) 34=0))▸(Bool.not_not _).symm:decide (PySem.Builtin.bitAnd (p.b2:Int) 34=0)= !decide (¬PySem.Builtin.bitAnd (p.b2:Int) 34=0))
def YR{p q:cZ}(h:¬dj p.b2 25=dj q.b2 25):mq f p q=false:=by delta mq;exact V (cp h) rfl
def YS{p q:cZ}(h:(ij p.b2==ij q.b2)=false):mq f p q=false:=by delta mq;exact V h<|V (Bool.and_false _) rfl
def YT{p q:cZ}(h:¬p.dG=q.dG):mq f p q=false:=by delta mq;exact V (cp h)<|V (Bool.and_false _) rfl
def YU{p q:cZ}(a6:dj p.b2 25=dj q.b2 25)(bS:(ij p.b2==ij q.b2)=true)(d2:p.dG=q.dG):mq f p q=jL f (lQ p) (lQ q):=by delta mq;exact V (ck a6)<|V bS<|V (ck d2) rfl
def YV(m6:∀p∈a4,ml p)(BQ:∀p∈cI,ml p)(xs:List cZ):∀{ys:List cZ} {k:Nat} {C:St} {H:bT},a4.drop k=xs->cI.drop k=ys->xs.length=ys.length->C[lj]? =some (.list<|a4.map fQ)->C[sO]? =some (.list<|cI.map fQ)->C[bL]? =some (.dict<|jM f)->H 0=some (.L lj)->H 1=some (.L sO)->H 2=some (.L bL)->
  (∀aT S,fX (λB=>true) (λx H s=>cG (bk<|d+3) Np (ar H 3 x) s) ((List.range' k xs.length).map J) H C=some (if o7 f xs ys then .next else .ret (.bool false),aT,S)->bw C S []->bZ)->bZ:=by
 induction xs with
 |nil=>
  intro ys k C H _ _ ao _ _ _ _ _ _ aq;cases ys with
  |nil=>exact aq H C rfl<|.refl _ _
  |cons=>exact Nat.noConfusion ao
 |cons p xs ay=>
  intro ys k C H aD aF ao Y ae ba fM bi bg aq;cases ys with
  |nil=>exact Nat.noConfusion ao
  |cons q ys=>
   have a:=BD aD;have b:=BD aF;have ab:=m6 p<|dK a.1;have aC:=BQ q<|dK b.1;have yM:=j9 Y<|nN (f:=fQ) a.1;have yN:=j9 ae<|nN (f:=fQ) b.1;have gE:∀{p:cZ},fq C (fQ p) (.int 2)=some (J p.b2):=b0 (i:=2) rfl;have kp:∀{p:cZ},fq C (fQ p) (.int 3)=some (J p.dG):=b0 (i:=3) rfl;have stop:mq f p q=false->∀{ci ax},cG (bk<|d+3) Np (ar H 3<|J k) C=some (.ret<|.bool false,ci,ax)->bw C ax []->bZ:=λh B B st g=>aq _ _ (V (show o7 f (p::xs) (q::ys)=false from ai (·&&o7 f xs ys) h)<|mQ rfl st) g;by_cases a6:dj p.b2 25=dj q.b2 25
   ·cases bS:(ij p.b2==ij q.b2)with
    |false=>exact stop (YS bS) (eJ λr=>r _ fM _ rfl _ yM _ bi _ rfl _ yN _ rfl _ gE _ _ (di _ _ _) _ rfl _ gE _ _ (di _ _ _) _ (kA<|cp λh=>h a6) _ rfl _ gE _ _ (di _ _ _) _ sP _ rfl _ gE _ _ (di _ _ _) _ sP _ (dH Nr ((Nt _ _).trans (ai (!·) bS))))<|.refl _ _
    |true=>
     have nb:=dH (Nr (C:=C)) ((Nt _ _).trans (ai (!·) bS));by_cases d2:p.dG=q.dG
     ·refine No (d:=d+1) (f:=f) (a:=lQ p) (b:=lQ q) ab.k.lt aC.k.lt ba λax ca cV=> ?_;have e:=YU (f:=f) a6 bS d2;cases o8:jL f (lQ p) (lQ q)with
      |false=>rw[o8]at ca;exact stop (e.trans o8) (eJ λr=>r _ fM _ rfl _ yM _ bi _ rfl _ yN _ rfl _ gE _ _ (di _ _ _) _ rfl _ gE _ _ (di _ _ _) _ (kA<|cp λh=>h a6) _ rfl _ gE _ _ (di _ _ _) _ sP _ rfl _ gE _ _ (di _ _ _) _ sP _ nb _ rfl _ kp _ rfl _ kp _ (kc d2) _ rfl _ _ (BL ab) _ rfl _ _ (BL aC) _ bg _ _ ca) cV
      |true=>rw[o8]at ca;exact ay (H:=ar (ar (ar H 3<|J k) 4<|fQ p) 5<|fQ q) a.2 b.2 (nl ao) (cV.get Y b5) (cV.get ae b5) (cV.get ba b5) fM bi bg λaT S g1 bd=>aq aT S (V (show o7 f (p::xs) (q::ys)=o7 f xs ys from(ai (·&&o7 f xs ys)<|e.trans o8))<|eT rfl (eJ λr=>r _ fM _ rfl _ yM _ bi _ rfl _ yN _ rfl _ gE _ _ (di _ _ _) _ rfl _ gE _ _ (di _ _ _) _ (kA<|cp λh=>h a6) _ rfl _ gE _ _ (di _ _ _) _ sP _ rfl _ gE _ _ (di _ _ _) _ sP _ nb _ rfl _ kp _ rfl _ kp _ (kc d2) _ rfl _ _ (BL ab) _ rfl _ _ (BL aC) _ bg _ _ ca) g1)<|cV.trans bd
     ·exact stop (YT d2) (eJ λr=>r _ fM _ rfl _ yM _ bi _ rfl _ yN _ rfl _ gE _ _ (di _ _ _) _ rfl _ gE _ _ (di _ _ _) _ (kA<|cp λh=>h a6) _ rfl _ gE _ _ (di _ _ _) _ sP _ rfl _ gE _ _ (di _ _ _) _ sP _ nb _ rfl _ kp _ rfl _ kp _<|kb d2)<|.refl _ _
   ·exact stop (YR a6) (eJ λr=>r _ fM _ rfl _ yM _ bi _ rfl _ yN _ rfl _ gE _ _ (di _ _ _) _ rfl _ gE _ _ (di _ _ _) _<|kA<|ck a6)<|.refl _ _
def Nu(aQ:H j=some (.L a))(aU:C[a]? =some (.list<|a4.map fQ)):bV O (.comp (.av (.E 10)<|U 0) (.aR 10) (.E j) []) H C=some (.L C.length,C++[.list<|(a4.map cZ.name).map .str]):=(yq (g:=λp=>.str p.name) (fJ aQ) (lN aU) (iw aU) λp B=>sx (fJ<|A3 H 10<|fQ p) (lJ (v:=.int 0))<|b0 (i:=0) rfl).trans<|ai (λl=>some (I.L C.length,C++[b3.list l])) (jB (g:=I.str) (f:=cZ.name) (l:=a4)).symm
def YW(m6:lh a4)(BQ:lh cI)(Y:C[lj]? =some (.list<|a4.map fQ))(ae:C[sO]? =some (.list<|cI.map fQ))(ba:C[bL]? =some (.dict<|jM f))(aq:∀S,a0 a2 (d+4) 108 [.L lj,.L sO,.L bL] C=some (.bool<|m5 f a4 cI,S)->bw C S []->bZ):bZ:=by
 have a6:=Nu (O:=bk<|d+3) (j:=0) (H:=cm [.L lj,.L sO,.L bL]) rfl Y;have f1:=bw.push C [.list<|(a4.map cZ.name).map .str] [];have g1:(C++[b3.list<|(a4.map cZ.name).map .str])[C.length]? =_:=d8;generalize C++[b3.list<|(a4.map cZ.name).map .str]=ax at a6 f1 g1;have bS:=Nu (O:=bk<|d+3) (j:=1) (H:=cm [.L lj,.L sO,.L bL]) rfl<|f1.get ae b5;have f2:=bw.push ax [.list<|(cI.map cZ.name).map .str] [];have bd:(ax++[b3.list<|(cI.map cZ.name).map .str])[ax.length]? =_:=d8;have g1:=f2.get g1 b5;have mn:=f1.trans f2;generalize ax++[b3.list<|(cI.map cZ.name).map .str]=bq at bS mn g1 bd;have gr:eh bq .bu (.L C.length) (.L ax.length)=some (!decide (a4.map cZ.name=cI.map cZ.name)):=by
  refine ai (Option.map (!·)) (?_:tx bq (.L C.length) (.L ax.length)=some (decide<|a4.map cZ.name=cI.map cZ.name));show(match bq[C.length]?,bq[ax.length]?with
   |some (.list l),some (.list m)=>if I.iW l&&I.iW m then some (decide<|l=m)else none
   |B,cr=>none)=_
  exact V g1<|V bd<|(bh<|dI (Nq<|BP _ m6.names)<|Nq<|BP _ BQ.names).trans<|ai some<|decide_eq_decide.mpr ⟨(List.map_inj_right λB B=>I.str.inj).mp,ai _⟩
 delta m5 at aq;by_cases hn:a4.map cZ.name=cI.map cZ.name
 ·rw[ck hn]at aq gr;have dJ:=mn.get Y b5;refine YV (d:=d) (f:=f) m6.ok BQ.ok a4 (ys:=cI) (k:=0) (H:=cm [.L lj,.L sO,.L bL]) rfl rfl ((c2 _).symm.trans<|(ai List.length hn).trans<|c2 _) dJ (mn.get ae b5) (mn.get ba b5) rfl rfl rfl λaT S e hk=> ?_;have bF:=wq (O:=bk<|d+3) (i:=3) (cg:=.cx .len<|.E 0) (H:=cm [.L lj,.L sO,.L bL]) (n:=a4.length) (jj λr=>r _ _<|nJ dJ) (c1 m6.f9<|by decide)<|V (show qs (a4.length:Int)=(List.range' 0 a4.length).map J from ai (List.map _) List.range_eq_range') e;cases aP:o7 f a4 cI with
  |false=>rw[aP]at aq bF;exact aq S (go λr=>r _ _ a6 _ _ bS _ gr _ _ _ bF)<|mn.trans hk
  |true=>rw[aP]at aq bF;exact aq S (go λr=>r _ _ a6 _ _ bS _ gr _ _ _ bF)<|mn.trans hk
 ·rw[cp hn]at aq gr;exact aq bq (go λr=>r _ _ a6 _ _ bS _ gr) mn
end
end
section
section
variable{n w:Nat}{body:List dB}
def Gi{body:bT->St->Option (eG×bT×St)}(h:test H C=some (false,ax)):kR test body (n+1) H C=some (.next,H,ax):=by show(match test H C with|none=>_|some (false,ax)=>_|some (true,ax)=>_)=_;exact V h rfl
def Gj{body:bT->St->Option (eG×bT×St)}(h:test H C=some (true,ax))(aj:body H ax=some (.next,dr,bq)):kR test body (n+1) H C=kR test body n dr bq:=by show(match test H C with|none=>_|some (false,ax)=>_|some (true,ax)=>_)=_;refine V h ?_;show(match body H ax with|none=>_|some (.ret v,dr,bq)=>_|some (.next,dr,bq)=>_)=_;exact V aj rfl
def YX{body:bT->St->Option (eG×bT×St)}(h:test H C=some (true,ax))(aj:body H ax=some (.ret v,dr,bq)):kR test body (n+1) H C=some (.ret v,dr,bq):=by show(match test H C with|none=>_|some (false,ax)=>_|some (true,ax)=>_)=_;refine V h ?_;show(match body H ax with|none=>_|some (.ret v,dr,bq)=>_|some (.next,dr,bq)=>_)=_;exact V aj rfl
def Nv{body:bT->St->Option (eG×bT×St)}{r:Option (eG×bT×St)}(h:test H C=some (true,ax))(aj:body H ax=some (.next,dr,bq))(aH:kR test body n dr bq=r):kR test body (n+1) H C=r:=(Gj h aj).trans aH
def BR{bj:Nat->bT->St->Prop}(h:∀i,i<3->∀{H C},bj i H C->∀{bZ:Prop},(∀aT S,cG O body (ar H w<|J i) C=some (.next,aT,S)->bj (i+1) aT S->bZ)->bZ)(h0:bj 0 H C)(k:∀aT S,cw O (.iq w (U 3) body) H C=some (.next,aT,S)->bj 3 aT S->bZ):bZ:=h 0 (by decide) h0 λB B oQ Y=>h 1 (by decide) Y λB B a6 ae=>h 2 (by decide) ae λke cB bS ba=>k ke cB (wq (n:=3) rfl (by decide)<|eT rfl oQ<|eT rfl a6<|eT rfl bS rfl) ba
end
noncomputable def yO(f:Nat->Nat->Bool)(i j:Nat):Nat->Nat->Bool:=λa b=>if a=i/\b=j then false else f a b
def Nw(ah:i<3)(aQ:j<3):fB (jM f) (ce (i,j)) (.bool false)=jM (yO f i j)/\e3 (jM f) (ce (i,j))=true:=by rcases gd ah with rfl|rfl|rfl<;>rcases gd aQ with rfl|rfl|rfl<;>exact⟨rfl,rfl⟩
noncomputable def sQ(f:Nat->Nat->Bool):Nat:=(List.range 9).countP λk=>f (k/3)<|k%3
def YY(ah:i<3)(aQ:j<3)(h:f i j):sQ (yO f i j)<sQ f:=by
 have le:∀l:List Nat,l.countP (λk=>yO f i j (k/3)<|k%3)<=l.countP λk=>f (k/3) (k%3):=λl=>List.countP_mono_left λk B q=>by
  by_cases c:k/3=i/\k%3=j
  ·exact b7<|(bh c).symm.trans q
  ·exact(bH c).symm.trans q
 have c:List.range 9=List.range (3*i+j)++(3*i+j)::List.range' (3*i+j+1) (9-(3*i+j+1))/\(3*i+j)/3=i/\(3*i+j)%3=j:=by rcases gd ah with rfl|rfl|rfl<;>rcases gd aQ with rfl|rfl|rfl<;>exact⟨rfl,rfl,rfl⟩
 delta sQ;rw[c.1,List.countP_append,List.countP_append,List.countP_cons_of_pos (p:=λk=>f (k/3)<|k%3) (by rw[c.2.1,c.2.2];exact h),List.countP_cons_of_neg (p:=λk=>yO f i j (k/3)<|k%3)<|λq=>b7<|(bh c.2).symm.trans q];exact Nat.add_lt_add_of_le_of_lt (le _)<|pG<|le _
structure p6(C:St)(aG:Nat)(na:Nat->Nat)(N:Nat->List cZ):Prop where
 fh:C[aG]? =some (.list [.L<|na 0,.L<|na 1,.L<|na 2])
 d0:∀i,i<3->C[na i]? =some (.list<|(N i).map fQ)
 ok:∀i,i<3->lh (N i)
def sR(N:Nat->List cZ)(a9:Nat->Nat->Prop):Prop:=∀f:Nat->Nat->Bool,(∀i j,i<3->j<3->a9 i j->f i j)->∀i j,i<3->j<3->a9 i j->m5 f (N i) (N j)=true
def Nx:∀i,i<3->∀j,j<3->e3 ((jM λB B=>true).take<|3*i+j) (ce (i,j))=true/\fB ((jM λB B=>true).take<|3*i+j) (ce (i,j)) (.bool true)=(jM λB B=>true).take (3*i+j+1):=by intro i ah j aQ;rcases gd ah with rfl|rfl|rfl<;>rcases gd aQ with rfl|rfl|rfl<;>exact⟨rfl,rfl⟩
section
variable{f0:Nat->Nat->Bool}
def p6.keep(h:p6 C aG na N)(f:bw C S ms)(Y:aG∉ms)(ae:∀i,i<3->na i∉ms):p6 S aG na N:=⟨f.get h.fh Y,λi ah=>f.get (h.d0 i ah)<|ae i ah,h.ok⟩
def p6.av(h:p6 C aG na N)(ah:i<3):fq C (.L aG) (J i)=some (.L<|na i):=by rcases gd ah with rfl|rfl|rfl<;>exact j9 h.fh rfl
structure BS(ik:St)(bL aG k:Nat)(H:bT)(C:St):Prop where
 fM:H 0=some (.L aG)
 bi:H 1=some (.L bL)
 s:C[bL]? =some (.dict<|(jM λB B=>true).take k)
 bU:bw ik C [bL]
def YZ(yP:bL≠0)(h:BS ik bL aG 0 H C)(aq:∀aT S,cw O (.iq 2 (U 3) [.iq 3 (U 3) [.setItem (.E 1) (.ak [(.E 2),(.E 3)])<|.bc<|.bool true]]) H C=some (.next,aT,S)->BS ik bL aG 9 aT S->bZ):bZ:=
 BR (w:=2) (bj:=λi H C=>BS ik bL aG (3*i) H C) (λi ah ci ax Y B dJ=>BR (O:=O) (body:=[.setItem (.E 1) (.ak [(.E 2),(.E 3)])<|.bc<|.bool true]) (w:=3) (H:=ar ci 2<|J i) (bj:=λj H C=>BS ik bL aG (3*i+j) H C/\H 2=some (J i)) (λj aQ dr bq ae B fi=>oV (v:=.bool true) ae.1.s yP (Nx i ah j aQ).1 (c1 (vA _ _)<|show 9<16000000 by decide) λcB aJ u=>fi (ar dr 3<|J j) cB (eJ λr=>r _ ae.1.bi _ ae.2 _ rfl _ aJ) ⟨⟨ae.1.fM,ae.1.bi,(u.i6 ae.1.s).trans<|ai (λD=>some<|b3.dict D) (Nx i ah j aQ).2,ae.1.bU.trans u.bU⟩,ae.2⟩)
  ⟨⟨Y.fM,Y.bi,Y.s,Y.bU⟩,rfl⟩ λaT S c h=>dJ aT S (oT c) h.1) h aq
structure Ny(N:Nat->List cZ)(ik:St)(bL aG:Nat)(f:Nat->Nat->Bool)(t:Bool)(H:bT)(C:St):Prop where
 fM:H 0=some (.L aG)
 bi:H 1=some (.L bL)
 dW:H 4=some (.bool t)
 s:C[bL]? =some (.dict<|jM f)
 bU:bw ik C [bL]
 up:∀a9,sR N a9->∀i j,i<3->j<3->a9 i j->f i j=true
structure uK(N:Nat->List cZ)(f0:Nat->Nat->Bool)(ik:St)(bL aG k:Nat)(f:Nat->Nat->Bool)(t:Bool)(H:bT)(C:St):Prop where
 b:Ny N ik bL aG f t H C
 cW:t=false->f=f0/\∀i j,3*i+j<k->i<3->j<3->i≠j->f0 i j->m5 f0 (N i) (N j)=true
 iy:t->sQ f<sQ f0
 le:sQ f<=sQ f0
def Y0(aj:b<3)(aQ:j<3)(h:3*a+b<3*i+j+1)(q:¬3*a+b<3*i+j):a=i/\b=j:=
 have e:3*a+b=3*i+j:=Nat.le_antisymm (pz h)<|Nat.not_lt.mp q;have sS:b=j:=(Nat.mod_eq_of_lt aj).symm.trans (((Nat.mul_add_mod 3 a b).symm.trans ((ai (·%3) e).trans<|Nat.mul_add_mod 3 i j)).trans<|Nat.mod_eq_of_lt aQ)
 ⟨Nat.eq_of_mul_eq_mul_left (by decide:0<3)<|Nat.add_right_cancel<|sS▸e,sS⟩
def uK.next{t:Bool}(h:uK N f0 ik bL aG (3*i+j) f t H C)(g:bw C S [])(aQ:j<3)(c:i≠j->f i j->m5 f (N i) (N j)=true):uK N f0 ik bL aG (3*i+j+1) f t (ar H 3 v) S:=
 ⟨⟨h.b.fM,h.b.bi,h.b.dW,g.get h.b.s b5,h.b.bU.trans<|g.cj nofun,h.b.up⟩,λe=>⟨(h.cW e).1,λa b hab aU aj gr hf=>by
  by_cases q:3*a+b<3*i+j
  ·exact(h.cW e).2 a b q aU aj gr hf
  ·have q:=Y0 aj aQ hab q;exact q.1▸q.2▸(h.cW e).1▸c (q.1▸q.2▸gr) ((h.cW e).1▸q.1▸q.2▸hf)⟩,h.iy,h.le⟩
def Y1(fE:p6 ik aG na N)(yP:bL≠0)(tK:aG≠bL)(o9:∀i,i<3->na i≠bL)(ah:i<3)(aQ:j<3){t:Bool}(h:uK N f0 ik bL aG (3*i+j) f t H C)(bg:H 2=some (J i))(aq:∀lR ic aT S,cG (bk<|d+5) [
    .ite (.and (.aK .bu (.E 2)<|.E 3)<|.and (.av (.E 1)<|.ak [(.E 2),(.E 3)])<|.not (.a5 108 [(.av (.E 0)<|.E 2),(.av (.E 0)<|.E 3),(.E 1)])) [
     .setItem (.E 1) (.ak [(.E 2),(.E 3)]) (.bc<|.bool false),
     .assign (.aR 4) (.bc (.bool true))] []] (ar H 3 (J j)) C=some (.next,aT,S)->uK N f0 ik bL aG (3*i+j+1) lR ic aT S->aT 2=some (J i)->bZ):bZ:=by
 have du:=fE.keep h.b.bU (fv tK) λk an=>fv<|o9 k an;by_cases qw:i=j
 ·exact aq f t _ C (eJ λr=>r _ bg _ rfl _<|kc qw) (h.next (.refl _ _) aQ λq=>absurd qw q) bg
 ·cases hf:f i j with
  |false=>exact aq f t _ C (eJ λr=>r _ bg _ rfl _ (kb qw) _ h.b.bi _ bg _ rfl _<|dH (BK h.b.s ah aQ)<|ai I.bool hf) (h.next (.refl _ _) aQ λB q=>b7<|br hf q) bg
  |true=>
   have bA:=dH (BK h.b.s ah aQ)<|ai I.bool hf;refine YW (d:=d+1) (f:=f) (du.ok i ah) (du.ok j aQ) (du.d0 i ah) (du.d0 j aQ) h.b.s λax a6 f1=> ?_;cases aP:m5 f (N i) (N j)with
   |true=>rw[aP]at a6;exact aq f t _ ax (eJ λr=>r _ bg _ rfl _ (kb qw) _ h.b.bi _ bg _ rfl _ bA _ h.b.fM _ bg _ (du.av ah) _ h.b.fM _ rfl _ (du.av aQ) _ h.b.bi _ _ a6) (h.next f1 aQ λB B=>aP) bg
   |false=>
    rw[aP]at a6;have be:=f1.get h.b.s b5;refine oV (k:=ce (i,j)) (v:=.bool false) be yP (Nw ah aQ).2 (show 9<16000000 by decide) λbq aJ u=> ?_;have ag:=YY ah aQ hf;exact aq (yO f i j) true (ar (ar H 3<|J j) 4<|.bool true) bq (eJ λr=>r _ bg _ rfl _ (kb qw) _ h.b.bi _ bg _ rfl _ bA _ h.b.fM _ bg _ (du.av ah) _ h.b.fM _ rfl _ (du.av aQ) _ h.b.bi _ _ a6 _ h.b.bi _ bg _ rfl _ aJ)
     ⟨⟨h.b.fM,h.b.bi,rfl,(u.i6 be).trans<|ai (λD=>some<|b3.dict D) (Nw ah aQ).1,(h.b.bU.trans<|f1.cj nofun).trans u.bU,λa9 xC a b aU aj hab=>(bH λ(q:a=i/\b=j)=>b7<|br aP<|q.1▸q.2▸xC f (h.b.up a9 xC) a b aU aj hab).trans<|h.b.up a9 xC a b aU aj hab⟩,λe=>(nomatch e),λB=>c7 ag h.le,a3 (hi ag) h.le⟩ bg
noncomputable def Nz:List dB:=[
  .assign (.aR 4) (.bc<|.bool false),
  .iq 2 (U 3) [
   .iq 3 (U 3) [
    .ite (.and (.aK .bu (.E 2)<|.E 3)<|.and (.av (.E 1)<|.ak [(.E 2),(.E 3)])<|.not (.a5 108 [(.av (.E 0)<|.E 2),(.av (.E 0)<|.E 3),(.E 1)])) [
     .setItem (.E 1) (.ak [(.E 2),(.E 3)]) (.bc<|.bool false),
     .assign (.aR 4) (.bc (.bool true))] []]]]
theorem Y2(fE:p6 ik aG na N)(yP:bL≠0)(tK:aG≠bL)(o9:∀i,i<3->na i≠bL)(fuel:Nat):∀{f:Nat->Nat->Bool} {H:bT} {C:St},sQ f+2<=fuel->Ny N ik bL aG f true H C->
  (∀lR aT S,kR (λH s=>jf (bk<|d+5) (.E 4) H s) (λH s=>cG (bk<|d+5) Nz H s) fuel H C=some (.next,aT,S)->S[bL]? =some (.dict<|jM lR)->bw ik S [bL]->aT 1=some (.L bL)->(∀a9,sR N a9->∀i j,i<3->j<3->a9 i j->lR i j)->(∀i j,i<3->j<3->i≠j->lR i j->m5 lR (N i) (N j)=true)->bZ)->bZ:=by
 induction fuel with
 |zero=>exactλh=>absurd h<|vu _
 |succ fuel ay=>
  intro f H C hf h aq;refine BR (O:=bk<|d+5) (w:=2) (bj:=λi H C=>∃lR t,uK N f ik bL aG (3*i) lR t H C) (H:=ar H 4<|.bool false) (λi ah ci ax Y B dJ=>Y.elim λf1 Y=>Y.elim λg5 Y=>BR (w:=3) (H:=ar ci 2<|J i) (bj:=λj H C=>∃lR t,uK N f ik bL aG (3*i+j) lR t H C/\H 2=some (J i)) (λj aQ dr bq ae B fi=>ae.elim λf2 ae=>ae.elim λgu ae=>Y1 (d:=d) fE yP tK o9 ah aQ ae.1 ae.2 λhk hJ ke cB d2 ba eA=>fi ke cB d2 ⟨hk,hJ,ba,eA⟩) ⟨f1,g5,⟨⟨Y.b.fM,Y.b.bi,Y.b.dW,Y.b.s,Y.b.bU,Y.b.up⟩,Y.cW,Y.iy,Y.le⟩,rfl⟩ λaT S c h=>h.elim λlR h=>h.elim λic h=>dJ aT S (oT c) ⟨lR,ic,h.1⟩) ⟨f,false,⟨⟨h.fM,h.bi,rfl,h.s,h.bU,h.up⟩,λB=>⟨rfl,λB B q=>absurd q<|t7 _⟩,λq=>(nomatch q),gF _⟩⟩ λaT S c aO=>aO.elim λlR aO=>aO.elim λic aO=> ?_;have st:cG (bk<|d+5) Nz H C=some (.next,aT,S):=(eB<|ut lJ).trans<|oT c;have aP:jf (bk<|d+5) (.E 4) H C=some (true,C):=Bb (fJ h.dW) rfl;have cq:=Bb (O:=bk<|d+5) (fJ aO.b.dW)<|Fc S ic;cases ic with
  |true=>exact ay (Nat.le_of_succ_le_succ<|a3 (kX<|fl (aO.iy rfl) 1) hf) aO.b λf2 dr bq e=>aq f2 dr bq<|(Gj aP st).trans e
  |false=>
   obtain⟨e,cl⟩:=aO.cW rfl;subst e;cases fuel with
   |zero=>exact absurd hf (by lia)
   |succ m=>exact aq _ aT S ((Gj aP st).trans<|Gi cq) aO.b.s aO.b.bU aO.b.bi aO.b.up λi j ah aQ=>cl i j (by lia) ah aQ
def Y3(fE:p6 C aG na N)(qO:0<C.length)(aq:∀f S,a0 a2 (d+6) 109 [.L aG] C=some (.L C.length,S)->S[C.length]? =some (.dict<|jM f)->bw C S []->(∀a9,sR N a9->∀i j,i<3->j<3->a9 i j->f i j)->(∀i j,i<3->j<3->i≠j->f i j->m5 f (N i) (N j)=true)->bZ):bZ:=by have f0:=bw.push C [.dict []] [];have tK:=dU<|fc fE.fh;have o9:=λi ah=>dU<|fc<|fE.d0 i ah;refine YZ (O:=bk<|d+5) (ik:=C++[.dict []]) (aG:=aG) (dd qO) (H:=ar (cm [.L aG]) 1<|.L C.length) ⟨rfl,rfl,d8,.refl _ _⟩ λci ax a6 Y=> ?_;refine Y2 (d:=d) (fE.keep f0 b5 λB B=>b5) (dd qO) tK o9 zC (f:=λB B=>true) (H:=ar ci 4<|.bool true) (by decide) ⟨Y.fM,Y.bi,rfl,Y.s,Y.bU,λB B B B B B B=>rfl⟩ λf dr bq bS ae bU bi up cl=> ?_;exact aq f bq (p1 λr=>r _ _ _ a6 _ _ _ bS _ bi) ae ⟨a3 f0.len bU.len,λa aU B=>(bU.same a (c7 aU f0.len)<|fv<|dU aU).trans<|f0.same a aU b5⟩ up cl
end
end
section
noncomputable def af.yQ:af->af
 |.bool b B=>.bool b 1
 |.str s B=>.str s 1
 |.num n B=>.num n 1
 |.obj p B=>.obj p 1
 |r=>r
theorem Gk{r:af}(h:r.d6):r.f3.yQ=r:=by
 cases r with
 |bool b f=>exact ai (af.bool b) (bp<|dx h).symm
 |str b f=>exact ai (af.str b) (bp<|dx h).symm
 |num b f=>exact ai (af.num b) (bp<|dx h).symm
 |obj b f=>exact ai (af.obj b) (bp<|dx h).symm
 |_=>exact b7 h
theorem Y4{r r':af}(e:ct r=ct r')(gh:r=r'->Q)(dJ:r.d6->r'=r.f3->Q)(fi:r'.d6->r=r'.f3->Q):Q:=by
 delta ct at e;cases h:r.bc&&r.d6 with
 |false=>
  rw[h]at e;cases aO:r'.bc&&r'.d6 with
  |false=>rw[aO]at e;exact gh e
  |true=>rw[aO]at e;exact fi (cO aO) e
 |true=>
  rw[h]at e;cases aO:r'.bc&&r'.d6 with
  |false=>rw[aO]at e;exact dJ (cO h) e.symm
  |true=>rw[aO]at e;exact gh<|(Gk<|cO h).symm.trans<|(ai af.yQ e).trans<|Gk<|cO aO
theorem Y5{r:af}:eY r.f3=eY r:=by cases r<;>rfl
theorem sT{α β:Type}{g:α->β}{l:List α}(aG:l.Nodup):(∀a∈l,∀b∈l,g a=g b->a=b)->(l.map g).Nodup:=by
 induction l with
 |nil=>exactλB=>.nil
 |cons a l ay=>exactλh=>oS ⟨λhm=>(e4 hm).elim λb aj=>(hH aG).1<|h b (bQ _ aj.1) a bo aj.2▸aj.1,ay (hH aG).2 λx ac y a8=>h x (bQ _ ac) y<|bQ _ a8⟩
structure pa(R:List af):Prop where
 row:∀r∈R,r.kind≠6/\r≠cu "never"/\r≠cu "object"/\r≠.obj [] 0/\r≠cu "error"
 top:(cu "any"∉R/\cu "unknown"∉R)\/R=[cu "any"]\/R=[cu "unknown"]
 sub:∀r∈R,(eY r=(6:Nat)->cu "string"∉R)/\(eY r=(7:Nat)->cu "number"∉R)
 aR:∀r∈R,r.d6->r.bc\/r.f3∉R
 f9:R.length<=20
structure p7(T:List af)(u:Nat)(R:List af):Prop where
 some:(T[u]?).isSome=true
 aG:(aE T u).Nodup
 mem:∀x,x∈aE T u↔x∈R
 bu:u≠10/\u≠11/\u≠13
section
variable{T a7:List af}{R:List af}{r x:af}
theorem bO.bu(G:bO T)(h:T[t]? =some r)(b:fU[i]? =some x)(n:r≠x):t≠i:=λq=>n (bp (br h ((ai (T[·]?) q).trans<|G.at b)))
theorem bO.is(G:bO T)(h:T[t]? =some x)(b:fU[i]? =some x):t=i:=nL G.aG h<|G.at b
theorem sU(e:ts.map (T[·]?)=R.map some)(h:t∈ts)(k:∀r∈R,T[t]? =some r->Q):Q:=(e4 (e▸nQ h:T[t]?∈R.map some)).elim λr h=>k r h.1 h.2.symm
theorem NA(e:ts.map (T[·]?)=R.map some)(h:r∈R)(k:∀t∈ts,T[t]? =some r->Q):Q:=(e4 (e.symm▸nQ h:some r∈ts.map (T[·]?))).elim λt h=>k t h.1 h.2
theorem BU(G:bO T)(e:ts.map (T[·]?)=R.map some)(b:fU[i]? =some x):i∈ts↔x∈R:=⟨λh=>sU e h λr aH aP=>bp (br aP<|G.at b)▸aH,λh=>NA e h λt aP aH=>G.is aH b▸aP⟩
theorem BV(aH:T[i]? =some r):i∈d3 T ts↔i∈f5 (dq T ts)/\mV T (f5<|dq T ts) r=true:=r6.trans<|and_congr uv<|V aH Iff.rfl
theorem m7(h:i∈d3 T ts):i∈f5 (dq T ts):=uv.mp (pL h).1
theorem BW(G:bO T)(aH:T[i]? =some r)(h:i∈d3 T ts):¬(r.d6=true/\∃n∈f5 (dq T ts),T[n]? =some r.f3)/\kB (f5<|dq T ts) (eY r)=false:=(sG G.aG).mp ((BV aH).mp h).2
theorem bO.Gl(G:bO T)(h:r∉T->wt (T++[r]) T.length r):bO (iP T r):=by
 by_cases hm:r∈T
 ·exact V (show iP T r=T from bh hm) G
 ·have e:iP T r=T++[r]:=bH hm;exact⟨MW G.aG,V e<|G.au.trans ⟨[r],rfl⟩,λi q aC=>(MV aC).elim (λaC=>(G.row i q aC).pre<|uA T r) λc=>by obtain⟨rfl,rfl⟩:=c;exact V e<|h hm⟩
theorem NB(h:i∈d3 T ts)(k:∀r,T[i]? =some r->Q):Q:=by
 have q:(match T[i]?with|some r=>mV T (f5<|dq T ts) r|none=>false)=true:=(pL h).2;cases aH:T[i]?with
 |none=>rw[aH]at q;exact b7 q
 |some r=>exact k r aH
theorem NC(G:bO T):(lc T<|d3 T ts).Nodup:=sT yB λp ab q aC e'=>NB ab λr aH=>NB aC λr' mO=>Y4 ((ai lO aH).symm.trans<|e'.trans<|ai lO mO) (λh=>nL G.aG aH<|h▸mO) (λhf h=>absurd ⟨hf,q,m7 aC,h▸mO⟩ (BW G aH ab).1) λhf h=>absurd ⟨hf,p,m7 ab,h▸aH⟩ (BW G mO aC).1
section
variable(G:bO T)(g:pa R)(e:ts.map (T[·]?)=R.map some)
include G g e
theorem pa.Gm(h:t∈ts):dS T t=[t]:=sU e h λr aH aP=>(G.uD aP (g.row r aH).1).trans<|bH<|G.bu aP rfl (g.row r aH).2.1
theorem pa.p8:t∈dq T ts↔t∈ts:=MP.trans ⟨λh=>h.elim λs h=>bR (g.Gm G e h.1▸h.2)▸h.1,λh=>⟨t,h,(g.Gm G e h).symm▸qH _⟩⟩
theorem pa.rk(h:t∈f5 (dq T ts))(k:t∈ts->Q)(cy:t=8\/t=9->(8∈ts\/14∈ts)->(9∈ts\/15∈ts)->Q):Q:=
 have m:=λt=>(g.p8 G e (t:=t)).mp
 (wj.mp h).elim (λh=>k<|m _ h) λh=>cy h.1 (h.2.1.imp (m _)<|m _)<|h.2.2.imp (m _)<|m _
theorem pa.BX(h:t∈f5 (dq T ts))(k:∀r,T[t]? =some r->r.kind≠6->t≠2/\t≠10/\t≠11/\t≠13->ct r∈R.map ct->Q):Q:=
 have m:∀{i:Nat} {x:af},fU[i]? =some x->i∈ts->ct x∈R.map ct:=λb h=>nQ<|(BU G e b).mp h
 g.rk G e h (λh=>sU e h λr aH aP=>have q:=g.row r aH;k r aP q.1 ⟨G.bu aP rfl q.2.1,G.bu aP rfl q.2.2.1,G.bu aP rfl q.2.2.2.1,G.bu aP rfl q.2.2.2.2⟩<|nQ aH)
  λq a b=>q.elim (λq=>by subst q;exact k _ (G.at (i:=8) rfl) (by decide) (by decide)<|a.elim (m (i:=8) rfl)<|m (i:=14) (x:=.bool 0 1) rfl) λq=>by subst q;exact k _ (G.at (i:=9) rfl) (by decide) (by decide)<|b.elim (m (i:=9) rfl)<|m (i:=15) (x:=.bool 1 1) rfl
theorem pa.ND(aH:r∈R):kB (f5<|dq T ts) (eY r)=false:=FT r (λe=>V e yw) λn w c B=>V w (oX.trans (cp λm=>by
 rcases c with c|c<;>subst c
 ·exact g.rk G e m (λm=>(g.sub r aH).1 w<|(BU G e rfl).mp m) λq=>absurd q (by decide)
 ·exact g.rk G e m (λm=>(g.sub r aH).2 w ((BU G e rfl).mp m)) λq=>absurd q (by decide)))
theorem pa.Y6:x∈lc T (d3 T ts)↔x∈R.map ct:=by
 refine⟨λh=>(e4 h).elim λp ab=>g.BX G e (m7 ab.1) λr aH B B hm=>ab.2▸(ai lO aH).symm▸hm,λh=>(e4 h).elim λr h=>NA e h.1 λt aP NE=> ?_⟩;obtain⟨aH,rfl⟩:=h;refine i1 ?_;by_cases aJ:r.d6/\∃n∈f5 (dq T ts),T[n]? =some r.f3
 ·refine aJ.2.elim λn hn=> ?_;have l:∀{i:Nat} {x:af},fU[i]? =some x->x.bc->n=i->r.bc:=λb ao q=>br Yi<|(ai af.bc<|bp<|br hn.2<|q▸G.at b).trans ao;have ao:r.bc:=(g.aR r aH aJ.1).elim id λh=>g.rk G e hn.1 (λm=>sU e m λq aC Y7=>absurd (bp (br hn.2 Y7)▸aC) h) λq B B=>q.elim (l (i:=8) rfl rfl)<|l (i:=9) rfl rfl;exact⟨n,(BV hn.2).mpr ⟨hn.1,(sG G.aG).mpr ⟨λq=>b7<|(yo r).symm.trans q.1,(ai (kB _) Y5).trans<|g.ND G e aH⟩⟩,(ai lO hn.2).trans<|(ai ct (bh (dI ao aJ.1):ct r=r.f3).symm).trans jo⟩
 ·exact⟨t,(BV NE).mpr ⟨wj.mpr<|.inl<|(g.p8 G e).mpr aP,(sG G.aG).mpr ⟨aJ,g.ND G e aH⟩⟩,ai lO NE⟩
theorem pa.F0(h0:0∉ts)(Y:1∉ts)(ae:2<=(d3 T ts).length):m2 T (d3 T ts):=by
 have wA:∀{i:Nat},i=8\/i=9->(8∈ts\/14∈ts)->(9∈ts\/15∈ts)->i∈d3 T ts:=λ{i} c a b=>
  have s:∀{r:af},T[i]? =some r->r.d6=false->eY r= -1->i∈d3 T ts:=λaH hf hw=>(BV aH).mpr ⟨wj.mpr<|.inr ⟨c,a.imp (g.p8 G e).mpr (g.p8 G e).mpr,b.imp (g.p8 G e).mpr (g.p8 G e).mpr⟩,(sG G.aG).mpr ⟨λq=>b7<|br hf q.1,hw▸yw⟩⟩
  c.elim (λc=>s (c▸G.at (i:=8) rfl) rfl rfl) λc=>s (c▸G.at (i:=9) rfl) rfl rfl
 refine⟨ae,?_,yB,λp ab=>g.BX G e (m7 ab) λr aH an a B=> ?_,λp ab q aC r r' aH mO hf e'=>(BW G aH ab).1 ⟨hf,q,m7 aC,e'▸mO⟩,λa b=> ?_,λp ab r aH q aC e'=>of_decide_eq_false (br oX<|(ai (kB _) e').trans (BW G aH ab).2)<|m7 aC⟩
 ·have l:=o4 (l:=d3 T ts) (m:=8::9::ts) yB λx ac=>g.rk G e (m7 ac) (λh=>bQ _<|bQ _ h) λq B B=>q.elim (λq=>q▸bo) λq=>q▸bQ _ bo;have m:ts.length=R.length:=(c2 _).symm.trans<|(ai List.length e).trans<|c2 _;exact c1 (a3 l<|fl (m▸g.f9) 2) (by decide)
 ·exact⟨λq=>g.rk G e (m7 ab) (λm=>h0<|q▸m) λc=>absurd (q▸c)<|by decide,λq=>g.rk G e (m7 ab) (λm=>Y<|q▸m) λc=>absurd (q▸c)<|by decide,a.1,a.2.1,a.2.2.1,a.2.2.2,r,aH,an⟩
 ·have n:∀{x y:Nat},x=8\/x=9->y≠8->y≠9->(x∈d3 T ts\/y∈d3 T ts)->∀{Q:Prop},(x∈ts\/y∈ts->Q)->((8∈ts\/14∈ts)->(9∈ts\/15∈ts)->Q)->Q:=λc Y8 Y9 a B k cy=>a.elim (λa=>g.rk G e (m7 a) (λm=>k<|.inl m) λB=>cy) λa=>g.rk G e (m7 a) (λm=>k<|.inr m) λq=>absurd q λq=>q.elim Y8 Y9
  exact n (.inl rfl) (by decide) (by decide) a (λa=>n (.inr rfl) (by decide) (by decide) b (λb=>⟨wA (.inl rfl) a b,wA (.inr rfl) a b⟩) λa b=>⟨wA (.inl rfl) a b,wA (.inr rfl) a b⟩) λa b=>⟨wA (.inl rfl) a b,wA (.inr rfl) a b⟩
theorem pa.res(h:wi T ts u):bO (hN T ts)/\p7 (hN T ts) u (R.map ct):=by
 have top:∀{i:Nat} {x:af},fU[i]? =some x->i<2->R=[x]->0<=fT (dq T ts)->bO (hN T ts)/\p7 (hN T ts) u (R.map ct):=λ{i x} b ah fj h0=>by
  have c:=(g.p8 G e).mp (Bx<|h.top h0).1;have aJ:aE T u=[ct x]:=sU e c λr aH aP=>(uG G aP (g.row r aH).1<|G.bu aP rfl (g.row r aH).2.1).trans<|ai (λr=>[ct r])<|bR<|fj▸aH;have bD:u<2:=sU e c λr aH aP=>G.is (aP.trans<|ai some<|bR<|fj▸aH) b▸ah;exact V (show hN T ts=T from bh h0) ⟨G,sU e c λr B aP=>ai Option.isSome aP,aJ▸oS ⟨b5,.nil⟩,λy=>aJ▸fj▸Iff.rfl,dU<|ea bD<|by decide,dU<|ea bD<|by decide,dU<|ea bD<|by decide⟩
 have d0:=λ{i:Nat} {x:af} (b:fU[i]? =some x)=>BU G e b;rcases g.top with c|c|c
 ·have h0:fT (dq T ts)<0:=by
   have n:∀i:Nat,∀{x:af},fU[i]? =some x->x∉R->fT (dq T ts)≠i:=λi x b ac q=>ac<|(d0 b).mp<|(g.p8 G e).mp (Bx q.symm).1;rcases My (dq T ts)with q|q|q|q
   ·exact absurd q<|n 0 rfl c.1
   ·exact absurd q<|n 13 rfl λm=>(g.row _ m).2.2.2.2 rfl
   ·exact absurd q<|n 1 rfl c.2
   ·exact q▸(by decide)
  have fL:¬0<=fT (dq T ts):=pD.mpr h0;have fin:∀{a7:List af},aE a7 u=lc T (d3 T ts)->(a7[u]?).isSome=true->u≠10/\u≠11/\u≠13->p7 a7 u (R.map ct):=λag aJ bu=>⟨aJ,ag▸NC G,λx=>ag▸g.Y6 G e,bu⟩;cases an:d3 T ts with
  |nil=>obtain rfl:=h.none h0 an;exact V (show hN T ts=T from(bH fL).trans<|bH<|an▸by decide) ⟨G,fin (an▸rfl) (G.isSome<|by decide)<|by decide⟩
  |cons x xs=>
   cases xs with
   |nil=>obtain rfl:=h.aR h0 x an;exact V (show hN T ts=T from(bH fL).trans<|bH<|an▸Nat.not_succ_le_self 1) ⟨G,g.BX G e (m7<|an▸qH u) λr aH Za a B=>fin (an▸(uG G aH Za a.1).trans (F3 aH).symm) (ai Option.isSome aH) a.2⟩
   |cons y ys=>have ae:2<=(d3 T ts).length:=an▸Nat.le_add_left 2 _;have wl:hN T ts=iP T (.dM<|d3 T ts):=(bH fL).trans<|bh ae;have hm:=h.iV h0 ae;rw[wl]at hm⊢;have Gn:bO (iP T<|.dM<|d3 T ts):=G.Gl λB=>(g.F0 G e (λm=>c.1<|(d0 rfl).mp m) (λm=>c.2<|(d0 rfl).mp m) ae).pre ⟨[_],rfl⟩;have bu:=λ{i:Nat} {x:af} (b:fU[i]? =some x) (n:af.dM (d3 T ts)≠x)=>Gn.bu hm b n;exact⟨Gn,fin ((Bw Gn hm).trans<|FR (uA T _) λp ab=>g.BX G e (m7 ab) λr aH B B B=>ai Option.isSome aH) (ai Option.isSome hm) ⟨bu (i:=10) rfl nofun,bu (i:=11) rfl nofun,bu (i:=13) rfl nofun⟩⟩
 ·exact top (i:=0) rfl (by decide) c<|FY ((g.p8 G e).mpr<|(d0 rfl).mpr<|c▸qH _)▸Int.le_refl _
 ·exact top (i:=1) rfl (by decide) c<|FZ<|(g.p8 G e).mpr<|(d0 rfl).mpr<|c▸qH _
end
end
end
variable{r:af}{a7 yu bK T0 aI gG:List af}{eM:Nat->List af}
section
section
variable{T:List af}{R:List af}{n f:Nat}
def Go(T:List af)(r:af):(iP T r).length<=T.length+1:=by
 by_cases h:r∈T
 ·exact V (show iP T r=T from bh h)<|cT _ _
 ·exact V (show iP T r=T++[r]from bH h)<|cM eo
structure i9(C:St)(A:gO)(T:List af)(n:Nat)(S:St)(a7:List af):Prop where
 fZ:ei S A a7
 cX:bO a7
 pre:ek T a7
 len:a7.length<=T.length+n
 bU:bw C S [A.t+1,A.t+2]
def i9.trans(x:i9 C A T n S a7)(y:i9 S A a7 m ov yu):i9 C A T (n+m) ov yu:=⟨y.fZ,y.cX,x.pre.trans y.pre,a3 y.len<|a3 (fl x.len m)<|cM<|iZ _ _ _,x.bU.trans y.bU⟩
def i9.push(x:i9 C A T n S a7)(g:St):i9 C A T n (S++g) a7:=⟨x.fZ.keep (bw.push S g []) (λB B B h=>nomatch h),x.cX,x.pre,x.len,x.bU.trans<|bw.push _ _ _⟩
def i9.refl(X:ei C A T)(G:bO T):i9 C A T n C T:=⟨X,G,.refl _,cT _ _,.refl _ _⟩
def i9.cj(x:i9 C A T n S a7)(h:n<=m):i9 C A T m S a7:=⟨x.fZ,x.cX,x.pre,a3 x.len<|hA h _,x.bU⟩
def p7.pre(G:bO T)(x:ek T a7)(h:p7 T u R):p7 a7 u R:=
 have e:aE a7 u=aE T u:=FS x h.some λp ab=>(hT h.some).elim λq aC=>(G.parts aC p ab).elim λz hz=>ai Option.isSome hz.1
 ⟨x.some h.some,e▸h.aG,λy=>e▸h.mem y,h.bu⟩
def Zb(X:ei C A T)(G:bO T)(ao:T.length<=10000)(g:pa R)(e:ts.map (T[·]?)=R.map some)(ac:Fz C x ts)(aq:∀u S a7,a0 a2 (d+3) 21 [.L A.t,x] C=some (J u,S)->i9 C A T 1 S a7->p7 a7 u (R.map ct)->bZ):bZ:=by
 have row:=λt (aP:t∈ts)=>sU e aP (Q:=∃r,T[t]? =some r) λr B h=>⟨r,h⟩;have hlen:wh T ts<=20:=by
  have k:∀l:List Nat,(∀t∈l,t∈ts)->wh T l=l.length:=λl=>by
   induction l with
   |nil=>exactλB=>rfl
   |cons t l ay=>exactλao=>(congr (ai (λp:List Nat=>(p.length+·))<|g.Gm G e<|ao t bo)<|ay λy a8=>ao y<|bQ _ a8).trans<|m8 1 _
  exact k ts (λB h=>h)▸((c2 _).symm.trans<|(ai List.length e).trans<|c2 _)▸g.f9
 refine MB (d:=d) X G.aG (λr aH=>(q9.mp aH).elim λi ah=>G.MZ ah) (c1 ao<|by decide) ac (λt aP=>(row t aP).elim λr h=>ai Option.isSome h) (λt aP p ab=>(row t aP).elim λr h=>(G.parts h p ab).elim λz hz=>ai Option.isSome hz.1) (G.isSome<|by decide) (G.isSome<|by decide) (c1 hlen<|by decide) λu S Y ae ba cq=> ?_;have r:=g.res G e cq;refine aq u S _ Y ⟨ae,r.1,Br T ts,?_,ba⟩ r.2;delta hN;by_cases c:0<=fT (dq T ts)
 ·exact V (bh c)<|cT _ _
 ·by_cases bS:2<=(d3 T ts).length
  ·exact V (bH c)<|V (bh bS)<|Go _ _
  ·exact V (bH c)<|V (bH bS)<|cT _ _
noncomputable def Zc(f:Nat):List af:=[.str (aa "a") f,.str (aa "b") f,cu "string",.num 0 f,.num 1 f,cu "number",.bool 0 f,.bool 1 f,cu "null",cu "undefined",cu "void",cu "unknown",cu "any"]
noncomputable def pb(i f:Nat):af:=(Zc f)[i]?.getD (cu "any")
noncomputable def hW(i:Nat):af:=pb i 0
noncomputable def BY:List Nat:=[0,0,6,0,0,7,0,0,5,4,3,1,0]
def Zd:∀i<13,i=0\/i=1\/i=3\/i=4\/i=6\/i=7\/(2<=i/\i≠3/\i≠4/\i≠6/\i≠7)/\∀f<2,fU[BY[i]?.getD 0]? =some (pb i f)/\BY[i]? =some (BY[i]?.getD 0):=by decide+kernel
def Ze(X:ei C A T)(G:bO T)(ao:T.length<=10000)(ah:i<13)(hf:f<2)(aq:∀u S a7,a0 a2 (d+3) 110 [.L A.t,J i,J f] C=some (J u,S)->i9 C A T 1 S a7->a7[u]? =some (pb i f)->bZ):bZ:=by
 refine X.jH.elim λF tt=> ?_;have pt:∀r:af,pb i f=r->I.key r.b6->(r∉T->wt (T++[r]) T.length r)->(∀u S,a0 a2 (d+1) 5 [.L A.t,r.b6] C=some (J u,S)->a0 a2 (d+3) 110 [.L A.t,J i,J f] C=some (J u,S))->bZ:=λr e an aA c=>Bh X G.aG an (c1 ao<|by decide) λu S Y ae ba cq B=>aq u S _ (c u S Y) ⟨ae,G.Gl aA,uA T _,Go T _,ba⟩<|e▸cq
 have f1:=pz hf;have Et:∀{x a b:Nat},fU[a]? =some (.bool x 0)->fU[b]? =some (.bool x 1)->af.bool x f∈T:=λaU aj=>(HV f1).elim (λe=>e▸dK (G.at aU)) λe=>e▸dK (G.at aj);rcases Zd i ah with c|c|c|c|c|c|c
 ·subst c;exact pt (.str (aa "a") f) rfl rfl (λB=>⟨.inl rfl,f1⟩) λu S Y=>go λk=>k _ rfl _ rfl _ _<|go λk=>k _ (hM tt.1 tt.2.2.2.2 rfl) _ _ Y
 ·subst c;exact pt (.str (aa "b") f) rfl rfl (λB=>⟨.inr rfl,f1⟩) λu S Y=>go λk=>k _ rfl _ rfl _ _<|go λk=>k _ (hM tt.1 tt.2.2.2.2 rfl) _ _ Y
 ·subst c;exact pt (.num 0 f) rfl rfl (λB=>⟨by decide,f1⟩) λu S Y=>go λk=>k _ rfl _ rfl (J 0) _ rfl _ _<|go λk=>k _ (hM tt.1 tt.2.2.2.2 rfl) _ _ Y
 ·subst c;exact pt (.num 1 f) rfl rfl (λB=>⟨by decide,f1⟩) λu S Y=>go λk=>k _ rfl _ rfl _ rfl (J 1) _ rfl _ _<|go λk=>k _ (hM tt.1 tt.2.2.2.2 rfl) _ _ Y
 ·subst c;exact pt (.bool 0 f) rfl rfl (λn=>absurd (Et (a:=8) (b:=14) rfl rfl) n) λu S Y=>go λk=>k _ rfl _ rfl _ rfl _ rfl (J 0) _ rfl _ _<|go λk=>k _ (hM tt.1 tt.2.2.2.2 rfl) _ rfl _ _ Y
 ·subst c;exact pt (.bool 1 f) rfl rfl (λn=>absurd (Et (a:=9) (b:=15) rfl rfl) n) λu S Y=>go λk=>k _ rfl _ rfl _ rfl _ rfl _ rfl (J 1) _ rfl _ _<|go λk=>k _ (hM tt.1 tt.2.2.2.2 rfl) _ rfl _ _ Y
 ·have h:=c.2 f hf;have n:=c.1;exact aq _ C T (go λk=>k _ (lG<|cp<|Int.not_lt.mpr<|Int.ofNat_le.mpr n.1) _ (bN (b:=3) n.2.1) _ (bN (b:=4) n.2.2.1) _ (bN (b:=6) n.2.2.2.1) _ (bN (b:=7) n.2.2.2.2) _<|b0 (l:=BY.map J)<|nN h.2) ((i9.refl X G).cj<|cT 0 1)<|G.at h.1
end
end
section
noncomputable def fV(j:Nat):af:=.ref<|j+1
structure iQ(aV:List Nat)(g:Nat->af):Prop where
 d4:∀j∈aV,(g j).shaped=true
 bu:∀j∈aV,g j≠.obj [] 0
 aR:(∀j∈aV,g j=fV j)\/∃j,aV=[j]
def iQ.fV:iQ aV fV:=⟨λB B=>rfl,λB B=>nofun,.inl λB B=>rfl⟩
noncomputable def p9(k:e1)(g:Nat->af):List af:=(hp k.m).map hW++k.aV.map g
abbrev pc(T:List af)(u:Nat)(k:e1)(g:Nat->af):Prop:=p7 T u<|p9 k g
abbrev Zf(m:Nat)(X:List af):Prop:=
 (∀r∈X,r.kind≠6/\r≠cu "never"/\r≠cu "object"/\r≠.obj [] 0/\r≠cu "error")/\((cu "any"∉X/\cu "unknown"∉X)\/(m=2048\/m=4096)/\(X=[cu "any"]\/X=[cu "unknown"]))/\
 (∀r∈X,(eY r=(6:Nat)->cu "string"∉X)/\(eY r=(7:Nat)->cu "number"∉X))/\(∀r∈X,(r.d6=true->r.bc)/\r.shaped=false)/\X.length<=2/\X.map ct=(hp m).map hW
set_option synthInstance.maxSize 999 in
def NF:∀m∈jp,∀f<2,Zf m ((hp m).map (pb · f)):=by decide+kernel
def BZ(h:r.shaped)(k:∀ps f,r=.obj ps f->Q)(cy:∀e,r=.ref e->Q):Q:=by
 cases r with
 |obj ps f=>exact k ps f rfl
 |ref e=>exact cy e rfl
 |_=>exact b7 h
def yR(h:r.shaped)(s:Str):r≠.key s:=λe=>b7<|(ai af.shaped e).symm.trans h
def NG(h:r.shaped):eY r= -1:=BZ h (λB B e=>e▸rfl) λB e=>e▸rfl
def Zg(h:r.shaped):ct r=r:=BZ h (λB B e=>e▸rfl) λB e=>e▸rfl
def yS:∀aV∈uH,aV.length<=3:=by decide
section
variable{T:List af}{R:List af}{n f:Nat}{k:e1}{g:Nat->af}
def Zh(an:jK k)(hf:f<2)(bA:iQ k.aV g):pa ((hp k.m).map (pb · f)++k.aV.map g)/\((hp k.m).map (pb · f)++k.aV.map g).map ct=p9 k g:=by
 have a:=NF _ an.m f hf;have aD:((hp k.m).map (pb · f)++k.aV.map g).map ct=p9 k g:=iI.trans (congr (ai (·++·) a.2.2.2.2.2)<|(jB (g:=ct) (f:=g)).trans<|tL λj aQ=>Zg<|bA.d4 j aQ);refine⟨?_,aD⟩
 clear aD
 generalize (hp k.m).map (pb · f)=X at a;have hl:∀{r:af},r∈k.aV.map g->r.shaped:=λh=>(e4 h).elim λj h=>h.2▸bA.d4 j h.1;have cW:∀{s:Str},af.key s∉X->af.key s∉X++k.aV.map g:=λh q=>(gb q).elim h λq=>yR (hl q) _ rfl;refine⟨λr h=>(gb h).elim (a.1 r) λh=>⟨λq=>BZ (hl h) (λB B e=>by subst e;exact mC q rfl) λB e=>by subst e;exact mC q rfl,yR (hl h) _,yR (hl h) _,(e4 h).elim λj h=>h.2▸bA.bu j h.1,yR (hl h) _⟩,a.2.1.imp (λc=>⟨cW c.1,cW c.2⟩) λc=> ?_,
  λr h=>(gb h).elim (λh=>⟨λw=>cW ((a.2.2.1 r h).1 w),λw=>cW ((a.2.2.1 r h).2 w)⟩) λh=>⟨λw=>(vl (br w (NG (hl h)))).elim,λw=>(vl (br w (NG (hl h)))).elim⟩,λr h aH=>(gb h).elim (λh=>.inl ((a.2.2.2.1 r h).1 aH)) λh=>.inr λq=> ?_,?_⟩
 ·rw[an.top c.1];exact(ew X).symm▸c.2
 ·have us:r.f3.shaped:=BZ (hl h) (λB B e=>e▸rfl) λB e=>e▸rfl;refine(gb q).elim (λq=>b7<|(a.2.2.2.1 _ q).2.symm.trans us) λq=>bA.aR.elim (λo=>(e4 h).elim λj aQ=>b7<|(ai af.d6<|br aQ.2<|o j aQ.1).symm.trans aH) λo=>o.elim λj o=> ?_;rw[o]at h q;exact MQ aH<|(bR q).trans (bR h).symm
 ·exact eo▸a3 (lg a.2.2.2.2.1<|a3 (cM<|c2 _)<|yS _ an.aV) (by decide)
def Zi(hf:f<2)(fM:H 0=some (.L A.t))(bi:H 1=some (dA k))(bg:H 2=some (J f))(xs:List Nat):∀{C:St} {T:List af},(∀x∈xs,x<13)->ei C A T->bO T->T.length+xs.length<=9000->
  (∀(us:List Nat) S a7,ir (λB=>true) (λx s=>(gp (bk<|d+4) [(.b8 .dj (.b8 .oc (.av (.E 1)<|U 0)<|.E 7)<|U 1)] (ar H 7 x) s).bind λq=>if q.1 then(bV (bk<|d+4) (.a5 110 [(.E 0),(.E 7),(.E 2)]) (ar H 7 x) q.2).bind λu=>some (some u.1,u.2)else some (none,q.2)) (xs.map J) C=some (us.map J,S)->i9 C A T (xs.filter<|sL k.m).length S a7->us.map (a7[·]?)=((xs.filter<|sL k.m).map (pb · f)).map some->bZ)->bZ:=by
 induction xs with
 |nil=>exactλB X G B aq=>aq [] _ _ rfl (.refl X G) rfl
 |cons x xs ay=>
  intro C T ac X G ao aq;have oK:=λy (h:y∈xs)=>ac y<|bQ _ h;have ifs:∀s,gp (bk<|d+4) [(.b8 .dj (.b8 .oc (.av (.E 1)<|U 0)<|.E 7)<|U 1)] (ar H 7<|J x) s=some (sL k.m x,s):=λs=>Nf<|Bd (Bd (sx (fJ bi) lJ<|b0 (i:=0) rfl) (fJ rfl) (bh (p5 x):(if 0<=(x:Int)then some (I.int<|(k.m:Int).fdiv<|2^(x:Int).toNat,s)else none)=_)) lJ<|di _ _ _;cases aj:sL k.m x with
  |false=>rw[vv (λq=>b7<|br aj q)]at aq;exact ay oK X G (Nat.le_of_succ_le ao) λus S a7 c W e=>aq us S a7 (sB (y:=none) rfl (bB (ifs C)<|V aj rfl) c) W e
  |true=>rw[xB aj]at aq;refine Ze (d:=d+1) X G (a3 (cT _ _)<|a3 ao<|by decide) (ac x bo) hf λu be cA a6 W1 Y=>ay oK W1.fZ W1.cX (a3 (fl W1.len _)<|a3 (cM<|vE _ _) ao) λus S a7 c W e=> ?_;exact aq (u::us) S a7 (sC rfl (bB (ifs C)<|V aj<|bB (i7 λr=>r _ fM _ rfl _ bg _ _ a6) rfl) c) ((W1.trans W).cj<|cM<|m8 _ _)<|uf.mpr ⟨W.pre.get Y,e⟩
def add_list{m:List I}(Y:C[a]? =some (.list l))(ae:C[b]? =some (.list m))(h:l.length+m.length<=16000000):iF .add (.L a) (.L b) C=some (.L C.length,C++[.list<|l++m]):=
 have e:∀{a:Nat} {l:List I},C[a]? =some (.list l)->vi C a=some l:=λh=>by delta vi;exact V h rfl
 bB (e Y) (bB (e ae)<|bh h)
def NH(X:ei C A T)(G:bO T)(ao:T.length<=5000)(an:jK k)(hf:f<2){mk:Nat->Nat}(Zj:C[hq]? =some (.list [J<|mk 0,J<|mk 1,J<|mk 2]))(n:hq∉[A.t+1,A.t+2])(hm:∀j∈k.aV,T[mk j]? =some (g j))(bA:iQ k.aV g)(aq:∀u S a7,a0 a2 (d+5) 111 [.L A.t,dA k,J f,.L hq] C=some (J u,S)->i9 C A T 3 S a7->pc a7 u k g->bZ):bZ:=by
 refine Zi (d:=d) (H:=cm [.L A.t,dA k,J f,.L hq]) hf rfl rfl rfl (List.range 13) (λx=>pH.mp) X G (a3 (fl ao 13)<|by decide) λus be cA a6 W1 aD=> ?_;have a:=NF _ an.m f hf;have f9:((List.range 13).filter<|sL k.m).length<=2:=(c2 (pb · f)).symm▸a.2.2.2.2.1;have ul:us.length<=2:=(c2 _).symm.trans ((ai List.length aD).trans<|(c2 _).trans<|c2 _)▸f9;have W1:=(W1.cj f9).push [.list<|us.map J];have Zk:=W1.push [.list<|k.aV.map λj=>J<|mk j];have hX:=Zk.push [.list<|us.map J++k.aV.map λj=>J<|mk j];have NI:=Zh an hf bA;have ey:=W1.bU.get Zj n;have aF:bV (bk<|d+4) (.comp (.av (.E 3)<|.E 7) (.aR 7) (.av (.E 1)<|U 1) []) (ar (cm [.L A.t,dA k,J f,.L hq]) 4<|.L be.length) (be++[.list<|us.map J])=_:=yr (b6:=J) (xs:=k.aV) (g:=λj=>J<|mk j) (sx (fJ rfl) lJ<|b0 (i:=1) rfl) λj aQ=>sx (fJ rfl) (fJ rfl) (j9 ey (by rcases gd (uI _ an.aV j aQ)with rfl|rfl|rfl<;>rfl))
 refine Zb (d:=d+1) (ts:=us++k.aV.map mk) hX.fZ hX.cX (a3 hX.len<|a3 (fl ao 2)<|by decide) NI.1 (iI.trans ((congr (ai (·++·) aD) ((jB (g:=(cA[·]?)) (f:=mk)).trans<|(tL λj aQ=>hX.pre.get<|hm j aQ).trans jB.symm)).trans iI.symm)) (.inr ⟨_,rfl,d8.trans (ai (λl=>some<|b3.list l) ((ai (us.map J++·) (jB (g:=J) (f:=mk)).symm).trans iI.symm))⟩) λu S a7 c W t=> ?_;exact aq u S a7 (go λr=>r _ _ (bB (x:=bV (bk<|d+4) (U 13) _ C) rfl<|(bh<|by decide).trans<|bB a6 rfl) _ _ aF _ _ (add_list ((bw.push _ _ []).get d8 b5) d8 (by rw[c2,c2];exact a3 (lg ul<|yS _ an.aV)<|by decide)) _ _ c) (hX.trans W) (NI.2▸t:p7 _ _ (p9 k g))
def yT{q:af}(h:ct q=r)(aH:r.yQ=r):q=r:=by
 cases b:q.bc&&q.d6 with
 |false=>exact(bH λe=>b7<|br b e).symm.trans h
 |true=>exact(Gk<|cO b).symm.trans<|(ai af.yQ<|(bh b).symm.trans h).trans aH
def nR(h:i∈hp m):i<13:=pH.mp (pL h).1
def NJ:∀i<13,(hW i).val=true:=by decide+kernel
def Gp(G:bO T)(h:p7 T u R){p:Nat}(ab:p∈dS T u)(k:∀q,T[p]? =some q->ct q∈R->Q):Q:=(hT h.some).elim λr aH=>(G.parts aH p ab).elim λq aC=>k q aC.1<|(h.mem _).mp<|i1 ⟨p,ab,ai lO aC.1⟩
def rl{x:af}(h:x∈p9 k g)(gh:∀i∈hp k.m,x=hW i->Q)(dJ:∀j∈k.aV,x=g j->Q):Q:=(gb h).elim (λh=>(e4 h).elim λi h=>gh i h.1 h.2.symm) λh=>(e4 h).elim λj h=>dJ j h.1 h.2.symm
def pc.FX(G:bO T)(h:pc T u k Mine.fV):rg T u:=⟨hT h.some,h.bu.1,h.bu.2.1,h.bu.2.2,λp ab=>Gp G h ab λq aC m=>⟨q,aC,rl m (λi ah e=>.inl<|(ai (λn=>decide<|n∈[1,2,3,4,5])<|br ww<|ai af.kind e).trans<|NJ i<|nR ah) λj B e=>.inr ⟨j+1,yT e rfl⟩⟩⟩
def pc.f9(an:jK k)(h:pc T u k g):(dS T u).length<40:=by have l:(aE T u).length<=((hp k.m).map hW++k.aV.map g).length:=o4 h.aG λx=>(h.mem x).mp;rw[eo,c2,c2]at l;exact c1 (a3 (cM (c2 _).symm)<|a3 l<|lg (List.length_filter_le _ _)<|yS _ an.aV) (by decide)
end
end
section
noncomputable def sV(ps:List ed):List (I×I):=ps.map λp=>(.str p.name,cn p)
def Zl:(ps.map ed.name).Nodup->p∈ps->(sV ps).find? (λx=>decide<|x.1=.str p.name)=some (.str p.name,cn p):=by
 induction ps with
 |nil=>exactλB h=>absurd h b5
 |cons q ps ay=>exactλaG ab=>(cS ab).elim (λe=>e▸vG (ck rfl)) λh=>xg (cp λe=>(hH aG).1<|I.str.inj e▸nQ h)<|ay (hH aG).2 h
def Zm(h:∀p∈ps,p.name≠q.name):fB (sV ps) (.str q.name) (cn q)=sV (ps++[q]):=by have e:cE (sV ps) (.str q.name)=none:=ai (Option.map Prod.snd)<|List.find?_eq_none.mpr λx ac=>(e4 ac).elim λp ab e=>h p ab.1<|I.str.inj<|(ai Prod.fst ab.2).trans<|dx e;delta fB;exact V e (iI (f:=λp:ed=>(I.str p.name,cn p)) (l₁:=ps) (l₂:=[q])).symm
def NK{s:Str}(h:e9 s):e3 (sV ps) (.str s)=true:=dI h<|nt.mpr λx ac=>(e4 ac).elim λp ab=>ab.2▸rfl
def Gq:∀l∈rj,ty (l.map .str)=some (l.map .str)/\l.Nodup/\l≠[]:=by decide+kernel
def Zn{g:Nat}{D:List (I×I)}{r:List I}(h:C[g]? =some (.dict D))(aJ:ty (D.map Prod.fst)=some r):kQ .sorted (.L g) C=some (.L C.length,C++[.list r]):=by
 show(match C[g]?with
  |some (b3.dict l)=>(ty<|l.map Prod.fst).map λr=>(I.L C.length,C++[b3.list r])
  |_=>none)=_
 exact V h<|ai (Option.map λr=>(I.L C.length,C++[b3.list r])) aJ
section
variable{T:List af}{g:Nat}{f lj:Nat}{cF:List I}
def Zo(Zp:g≠0)(c8:List ed):∀{pd:List ed} {C:St} {H:bT},(pd.map ed.name++c8.map ed.name).Nodup->(∀p∈c8,e9 p.name)->pd.length+c8.length<=100->C[g]? =some (.dict<|sV pd)->H 1=some (.L g)->(∀s,bw C s [g]->hc s iv cF)->
  (∀aT S,fX (λs=>hc s iv cF) (λx H s=>(gC (.aR 2) x H).bind λci=>cG (bk d) [.setItem (.E 1) (.av (.E 2)<|U 0)<|.E 2] ci s) (c8.map cn) H C=some (.next,aT,S)->S[g]? =some (.dict<|sV<|pd++c8)->bw C S [g]->aT 1=some (.L g)->bZ)->bZ:=by
 induction c8 with
 |nil=>exactλB B B bA bi hI aq=>aq _ _ (v9<|hI _<|.refl _ _) ((ew _).symm▸bA) (.refl _ _) bi
 |cons q c8 ay=>intro pd C H aG hf ao bA bi hI aq;have uL:=λp (ab:p∈pd)=>(kU.mp aG).2.2 p.name (nQ ab) q.name bo;refine oV (k:=.str q.name) (v:=cn q) bA Zp (NK<|hf q bo) (c1 (a3 (cM<|c2 _)<|a3 (cT _ _) ao)<|by decide) λax aJ w=>ay (pd:=pd++[q]) (H:=ar H 2<|cn q) (by rw[iI,iG];exact aG) (λp ab=>hf p<|bQ _ ab) (by rw[eo,iZ,m8 [q].length];exact ao) ((w.i6 bA).trans<|ai (λD=>some<|b3.dict D)<|Zm uL) bi (λs h=>hI s<|w.bU.trans h) λaT S a6 bS d2 eQ=> ?_;exact aq aT S (eT (hI C<|.refl _ _) (eJ λr=>r _ rfl _ bi _ rfl _ (b0 (i:=0) rfl) _ aJ) a6) (by rw[iG]at bS;exact bS) (w.bU.trans d2) eQ
def Zq(hn:ps.map ed.name∈rj)(aU:C[a]? =some (.list<|ps.map cn))(aq:∀S,a0 a2 (d+1) 11 [.L a] C=some (.ak<|ps.map cn,S)->bw C S []->bZ):bZ:=by have n:=Gq _ hn;have yU:∀p∈ps,e9 p.name:=λp ab=>BP _ hn _<|nQ ab;have f0:=bw.push C [.dict []] [];have NL:=f0.get aU b5;have o8:=fc aU;refine Zo (d:=d) (iv:=some a) (cF:=ps.map cn) (g:=C.length) (pd:=[]) (dd<|lM o8) ps (H:=ar (cm [.L a]) 1<|.L C.length) (C:=C++[.dict []]) n.2.1 yU (a3 (cM<|ot _)<|a3 (cM (c2 _).symm)<|a3 (Gh _ hn)<|by decide) d8 rfl (λs aJ=>iw<|aJ.get NL<|fv<|dU o8) λci ax a6 bS d2 eQ=> ?_;have e:(sV ps).map Prod.fst=(ps.map ed.name).map .str:=(jB (g:=Prod.fst) (f:=λp:ed=>(I.str p.name,cn p))).trans (jB (g:=I.str) (f:=ed.name)).symm;have eZ:=bw.push ax [.list<|(ps.map ed.name).map .str] [];have aF:(ps.map ed.name).map I.str=ps.map λp=>.str p.name:=jB;have ag:=yq (O:=bk d) (H:=ci) (i:=5) (elt:=.av (.E 1)<|.E 5) (cg:=.cx .sorted<|.E 1) (b6:=λp:ed=>.str p.name) (xs:=ps) (g:=cn) (i7 λr=>r _ eQ _ _<|Zn bS<|e▸n.1) (lN<|aF▸d8) (iw<|aF▸d8) λp ab=>sx (fJ eQ) (fJ rfl)<|Bg (eZ.get bS b5) (NK<|yU p ab)<|ai (Option.map Prod.snd)<|Zl n.2.1 ab;have h:=d2.trans<|(eZ.cj (ns:=[C.length]) nofun).trans<|bw.push _ [.list<|ps.map cn] _;exact aq _ (p1 λr=>r _ _ _ ((A2 (fJ rfl)<|lN NL).trans a6) _ _ ag _ _<|yn d8) ⟨a3 f0.len h.len,λx ac B=>(h.same x (c7 ac f0.len)<|fv<|dU ac).trans<|f0.same x ac b5⟩
structure pe(T:List af)(p:cZ)(q:ed):Prop where
 ok:ml p
 name:q.name=p.name
 b2:q.b2=p.b2
 dG:q.dG=p.dG
 dc:pc T q.dc p.k fV
def pe.pre(G:bO T)(x:ek T a7){p:cZ}(h:pe T p q):pe a7 p q:=⟨h.ok,h.name,h.b2,h.dG,h.dc.pre G x⟩
theorem cD.i8{α β:Type}{c4:α->β->Prop}:∀{xs:List α} {ys:List β},cD c4 xs ys->∀y∈ys,∃x∈xs,c4 x y
 |[],[],B,cr,h=>absurd h b5
 |x::xs,y::ys,v,z,h=>(cS h).elim (λe=>⟨x,bo,e▸v.1⟩) λh=>(cD.i8 v.2 z h).imp λB h=>⟨bQ _ h.1,h.2⟩
 |[],_::_,v,_,_=>v.elim
 |_::_,[],v,_,_=>v.elim
theorem Gr:∀{N:List cZ} {ps:List ed},cD (pe T) N ps->ps.map ed.name=N.map cZ.name
 |[],[],B=>rfl
 |_::_,_::_,h=>uf.mpr ⟨h.1.name,Gr h.2⟩
 |[],_::_,h=>h.elim
 |_::_,[],h=>h.elim
def B0(G:bO T)(aQ:j<3):T[16+j]? =some (fV j):=by rcases gd aQ with rfl|rfl|rfl<;>exact G.at rfl
def Zr(hf:f<2)(n:hq∉[A.t+1,A.t+2])(x:lj∉[A.t+1,A.t+2])(fM:H 0=some (.L A.t))(bg:H 2=some (J f))(eA:H 3=some (.L hq))(N:List cZ):∀{C:St} {T:List af},(∀p∈N,ml p)->ei C A T->bO T->T.length+3*N.length<=4000->C[hq]? =some (.list [J 16,J 17,J 18])->C[lj]? =some (.list cF)->
  (∀(ps:List ed) S a7,ir (λs=>hc s (some lj) cF) (λx s=>(gC (.iV [7,8,9,10]) x H).bind λdr=>(gp (bk<|d+6) [] dr s).bind λq=>if q.1 then(bV (bk<|d+6) (.ak [(.E 7),(.a5 111 [(.E 0),(.E 8),(.E 2),(.E 3)]),(.E 9),(.E 10)]) dr q.2).bind λu=>some (some u.1,u.2)else some (none,q.2)) (N.map fQ) C=some (ps.map cn,S)->i9 C A T (3*N.length) S a7->cD (pe a7) N ps->bZ)->bZ:=by
 induction N with
 |nil=>exactλB X G B B m6 aq=>aq [] _ _ (bh<|iw m6) (.refl X G) trivial
 |cons p N ay=>intro C T fE X G ao aX m6 aq;have e:3*(N.length+1)=3+3*N.length:=m8 _ _;have ab:=(fE p bo).k;refine NH (d:=d+1) (mk:=λj=>16+j) X G (a3 (cT _ _)<|a3 ao<|by decide) ab hf aX n (λj aQ=>B0 G<|uI _ ab.aV j aQ) .fV λu ax cA a6 W1 gc=>ay (λq aC=>fE q<|bQ _ aC) W1.fZ W1.cX (a3 (fl W1.len _) (by rw[iZ,<-e];exact ao)) (W1.bU.get aX n) (W1.bU.get m6 x) λps S a7 c W h=> ?_;exact aq (⟨p.name,u,p.b2,p.dG⟩::ps) S a7 (sC (iw m6) (bB (x:=gC (.iV [7,8,9,10]) (fQ p) H) rfl<|bB (x:=gp (bk<|d+6) [] _ C) rfl<|bB (i7 λr=>r _ rfl _ fM _ rfl _ bg _ eA _ _ a6 _ rfl _ rfl) rfl) c) ((W1.trans W).cj<|cM e.symm) ⟨⟨fE p bo,rfl,rfl,rfl,gc.pre W1.cX W.pre⟩,h⟩
structure m9(T:List af)(u:Nat)(df:List cZ):Prop where
 ex:∃ps f,T[u]? =some (.obj ps f)/\cD (pe T) df ps
 bu:u≠11
def m9.pre(h:m9 T u df)(G:bO T)(x:ek T a7):m9 a7 u df:=⟨h.ex.imp λps h=>h.imp λf h=>⟨x.get h.1,h.2.imp λB B h=>h.pre G x⟩,h.bu⟩
def NM(X:ei C A T)(G:bO T)(ao:T.length<=3000){N:List cZ}(fE:lh N)(hf:f<2)(aJ:s<2)(m6:C[lj]? =some (.list<|N.map fQ))(aX:C[hq]? =some (.list [J 16,J 17,J 18]))(n:hq∉[A.t+1,A.t+2])(x:lj∉[A.t+1,A.t+2])(aq:∀u S a7,a0 a2 (d+7) 112 [.L A.t,.L lj,J f,.L hq,J s] C=some (J u,S)->i9 C A T 10 S a7->m9 a7 u N->bZ):bZ:=by have qZ:3*N.length<=9:=m3 3 fE.f9;refine Zr (d:=d) (cF:=N.map fQ) hf n x (H:=cm [.L A.t,.L lj,J f,.L hq,J s]) rfl rfl rfl N fE.ok X G (a3 (lg ao qZ)<|by decide) aX m6 λps be cA a6 W1 hR=> ?_;have hn:ps.map ed.name∈rj:=Gr hR▸fE.names;have Gs:=Gq _ hn;have yU:∀p∈ps,e9 p.name:=λp ab=>BP _ hn _<|nQ ab;have W1:=(W1.cj qZ).push [.list<|ps.map cn];refine Zq (d:=d+4) (a:=be.length) (C:=be++[.list<|ps.map cn]) hn d8 λbF cs e7=> ?_;have ok:sH cA ps s:=⟨λe=>Gs.2.2<|e▸rfl,a3 (cM (c2 _).symm)<|Gh _ hn,pz aJ,Gs.2.1,λp ab=>(hR.i8 p ab).elim λq h=>⟨h.2.dc.FX W1.cX,h.2.dc.f9 h.2.ok.k,h.2.dG▸rX h.2.ok.dG,yU p ab⟩⟩;refine W1.fZ.jH.elim λF tt=>Bh (d:=d+4) (r:=.obj ps s) (W1.fZ.keep e7 λB B B h=>nomatch h) W1.cX.aG (dI (FL yU) rfl) (c1 (a3 W1.len<|fl ao 9)<|by decide) λu s3 d2 hJ hk bD B=> ?_;have NN:=W1.cX.Gl (r:=.obj ps s) λB=>Or.inr<|ok.pre ⟨[_],rfl⟩;have hB:=uA cA<|.obj ps s;exact aq u s3 _ (go λr=>r _ _ (ra (fJ rfl) (lN m6) a6) _ _<|go λr=>r _ (hM tt.1 tt.2.2.2.2 rfl) _ _ cs _ _ rfl _ _ rfl _ _ d2) ⟨hJ,NN,W1.pre.trans hB,a3 (Go _ _)<|fl W1.len 1,(W1.bU.trans<|e7.cj nofun).trans hk⟩ ⟨⟨ps,s,bD,hR.imp λB B h=>h.pre W1.cX hB⟩,NN.bu bD (i:=11) rfl λe=>Gs.2.2<|(af.obj.inj e).1▸rfl⟩
end
end
section
noncomputable def Gu:List Nat:=jp++jp.map nP
structure pf(k:e1):Prop where
 m:k.m∈Gu
 aV:k.aV∈uH
 top:yK k.m->k.aV=[]
structure ja(c:List af)(k:e1)(g:Nat->af):Prop where
 aG:c.Nodup
 mem:∀x,x∈c↔x∈p9 k g
def Zs:∀aV∈uH,aV.Nodup:=by decide
def Zt:∀m∈Gu,∀NO∈Gu,hp m=hp NO->m=NO:=by decide+kernel
def NP:∀i<13,∀j<13,hW i=hW j->i=j:=by decide+kernel
def Gv:∀i<13,(hW i).shaped=false:=by decide+kernel
def Zu:∀m∈jp,yK (nP m)=true->m=2048\/m=4096:=by decide+kernel
section
variable{P:af->List g8}{a b c:List af}{k cy:e1}{g eO:Nat->af}{x y:af}{R:af->af->Prop}{a4 cI:List cZ}
def jK.n(h:jK k):pf k:=⟨jg _ h.m,h.aV,λt=>h.top<|(F8 _ h.m).mpr<|dx t⟩
def ml.n{p:cZ}(h:ml p):pf (lQ p):=by
 delta lQ;cases gj p.b2 with
 |true=>exact⟨i0 _<|nQ h.k.m,h.k.aV,λt=>h.k.top<|Zu _ h.k.m t⟩
 |false=>exact h.k.n
def pf.lt(h:pf k):∀i∈k.aV,i<3:=uI _ h.aV
def uM(h:i∈hp k.m):hW i∈p9 k g:=jg _<|nQ h
def wB(h:j∈k.aV):g j∈p9 k g:=i0 _<|nQ h
def B1(h:i∈hp k.m)(e:hW i=x)(ac:x.shaped):Q:=b7<|(Gv i<|nR h).symm.trans<|(ai af.shaped e).trans ac
def iQ.inj(h:iQ aV g)(ah:i∈aV)(aQ:j∈aV)(e:g i=g j):i=j:=h.aR.elim (λo=>nl<|af.ref.inj<|(o i ah).symm.trans<|e.trans<|o j aQ) λo=>o.elim λB o=>by
 rw[o]at ah aQ;exact(bR ah).trans (bR aQ).symm
def ja.len(h:ja c k g)(an:pf k)(bA:iQ k.aV g):c.length=m4 k:=by have aG:(p9 k g).Nodup:=kU.mpr ⟨sT (List.nodup_range.filter _) λa aU b aj e=>NP a (nR aU) b (nR aj) e,sT (Zs _ an.aV) λa aU b aj e=>bA.inj aU aj e,λx ac y a8 e=>(e4 ac).elim λi ah=>(e4 a8).elim λj aQ=>B1 ah.1 (ah.2.trans e)<|aQ.2▸bA.d4 j aQ.1⟩;have e:(p9 k g).length=m4 k:=eo.trans ((congr (ai (·+·)<|c2 _)<|c2 _).trans<|m8 _ _);exact e▸Nat.le_antisymm (o4 h.aG λx=>(h.mem x).mp) (o4 aG λx=>(h.mem x).mpr)
def ja.same(h:ja c k g)(aO:ja bK k g):cK P c bK:=m1.MO ⟨Iff.of_eq (ai (·=1)<|Nat.le_antisymm (o4 h.aG λx ac=>(aO.mem x).mpr<|(h.mem x).mp ac)<|o4 aO.aG λx ac=>(h.mem x).mpr<|(aO.mem x).mp ac),λx ac=>⟨x,(aO.mem x).mpr<|(h.mem x).mp ac,.refl⟩,λx ac=>⟨x,(h.mem x).mpr<|(aO.mem x).mp ac,.refl⟩⟩
def NQ(fj:∀x y,R x y->x=y\/(x.shaped=true/\y.shaped))(h:ja c k g)(aO:ja bK cy eO)(bA:iQ k.aV g)(qa:iQ cy.aV eO)(F:∀x∈c,∃y∈bK,R x y):(∀i∈hp k.m,i∈hp cy.m)/\∀i∈k.aV,∃j∈cy.aV,R (g i) (eO j):=
 ⟨λi ah=>(F _<|(h.mem _).mpr<|uM ah).elim λy a8=>(fj _ _ a8.2).elim (λe=>rl ((aO.mem y).mp a8.1) (λNR ks e'=>NP i (nR ah) NR (nR ks) (e.trans e')▸ks) λj aQ e'=>B1 ah (e.trans e')<|qa.d4 j aQ) λs=>B1 ah rfl s.1,
  λi ah=>(F _ ((h.mem _).mpr (wB ah))).elim λy a8=>rl ((aO.mem y).mp a8.1) (λNR ks e'=>B1 ks e'.symm ((fj _ _ a8.2).elim (λe=>e▸bA.d4 i ah) And.right)) λj aQ e'=>⟨j,aQ,e'▸a8.2⟩⟩
def NS(B2:∀x y,R x y->R y x)(fj:∀x y,R x y->x=y\/(x.shaped=true/\y.shaped))(h:ja c k g)(aO:ja bK cy eO)(an:pf k)(i3:pf cy)(bA:iQ k.aV g)(qa:iQ cy.aV eO)(hf:∀i∈k.aV,∀j∈cy.aV,R (g i) (eO j)->f i j)(d9:m1 R c bK):jL f k cy:=by have A:=NQ fj h aO bA qa d9.mi;have a1:=NQ fj aO h qa bA d9.nM;have hm:k.m=cy.m:=Zt _ an.m _ i3.m<|List.filter_congr λi ah=>Bool.eq_iff_iff.mpr ⟨λb=>(pL<|A.1 i<|r6.mpr ⟨ah,b⟩).2,λb=>(pL<|a1.1 i<|r6.mpr ⟨ah,b⟩).2⟩;have ag:decide (m4 k=1)=decide (m4 cy=1):=decide_eq_decide.mpr<|h.len an bA▸aO.len i3 qa▸d9.len;exact dI (dI (ck hm)<|beq_of_eq ag)<|(qP _ _).mpr<|.inr<|dI (nt.mpr λi ah=>pX.mpr<|(A.2 i ah).imp λj q=>⟨q.1,hf i ah j q.1 q.2⟩)<|nt.mpr λj aQ=>pX.mpr<|(a1.2 j aQ).imp λi q=>⟨q.1,hf i q.1 j aQ<|B2 _ _ q.2⟩
def NT(NU:∀x,R x x)(h:ja c k g)(aO:ja bK cy eO)(an:pf k)(i3:pf cy)(bA:iQ k.aV g)(qa:iQ cy.aV eO)(hf:∀i∈k.aV,∀j∈cy.aV,f i j->R (g i) (eO j)/\R (eO j) (g i))(o8:jL f k cy):m1 R c bK:=by
 have hm:k.m=cy.m:=dx<|bP<|bP o8;have ag:=decide_eq_decide.mp<|eq_of_beq<|cO<|bP o8;have aH:(∀i∈k.aV,∃j,j∈cy.aV/\f i j)/\∀j∈cy.aV,∃i,i∈k.aV/\f i j:=((qP _ _).mp<|cO o8).elim (λt=>⟨an.top t▸nofun,i3.top (hm▸t)▸nofun⟩) λt=>⟨λi ah=>pX.mp<|hg (bP t) i ah,λj aQ=>pX.mp<|hg (cO t) j aQ⟩;exact⟨h.len an bA▸aO.len i3 qa▸ag,λx ac=>rl ((h.mem x).mp ac) (λi ah e=>⟨x,(aO.mem x).mpr<|e▸uM (hm▸ah),NU x⟩) λi ah e=>(aH.1 i ah).elim λj q=>⟨eO j,(aO.mem _).mpr<|wB q.1,e▸(hf i ah j q.1 q.2).1⟩,
  λx ac=>rl ((aO.mem x).mp ac) (λi ah e=>⟨x,(h.mem x).mpr (e▸uM (hm.symm▸ah)),NU x⟩) λj aQ e=>(aH.2 j aQ).elim λi q=>⟨g i,(h.mem _).mpr (wB q.1),e▸(hf i q.1 j aQ q.2).2⟩⟩
structure yV(p:cZ)(s:g8):Prop where
 ok:ml p
 name:s.name=p.name
 b2:s.b2=p.b2
 dG:s.dG=p.dG
 lb:ja s.lb (lQ p) fV
structure qb(P:af->List g8)(N:Nat->List cZ)(x:af)(j:Nat):Prop where
 d4:x.shaped=true
 ps:cD yV (N j) (P x)
def qb.same(h:qb P N x j)(aO:qb P N y j):cK P [x] [y]:=.MN<|.inl ⟨x,y,rfl,rfl,h.d4,aO.d4,h.ps.swap.comp (λB B B p q=>⟨⟨p.name.trans q.name.symm,V p.b2<|V q.b2 rfl,p.dG.trans q.dG.symm,V p.b2<|V q.b2 rfl⟩,.inr<|p.lb.same q.lb⟩) aO.ps⟩
def B3(P:af->List g8)(i j:Nat):Prop:=cK P [fV i] [fV j]
def NV(x y:af)(h:cK P [x] [y]):x=y\/(x.shaped=true/\y.shaped):=h.aR.imp_right λo=>⟨o.be,o.bF⟩
structure yW(P:af->List g8)(N:Nat->List cZ)(f:Nat->Nat->Bool):Prop where
 ref:∀j,j<3->qb P N (fV j) j
 up:∀i j,i<3->j<3->B3 P i j->f i j=true
 pd:∀i j,i<3->j<3->f i j->B3 P i j
def yW.Gw(F:yW P N f)(h:ja c k g)(aO:ja bK cy eO)(an:pf k)(i3:pf cy)(bA:iQ k.aV g)(qa:iQ cy.aV eO)(hn:∀j∈k.aV,qb P N (g j) j)(zT:∀j∈cy.aV,qb P N (eO j) j):jL f k cy=true↔cK P c bK:=
 ⟨λal=>(NT (R:=λx y=>cK P [x] [y]) (λB=>.refl) h aO an i3 bA qa (λi ah j aQ q=>have a:=((hn i ah).same<|F.ref i<|an.lt i ah).trans<|(F.pd i j (an.lt i ah) (i3.lt j aQ) q).trans<|(F.ref j<|i3.lt j aQ).same<|zT j aQ;⟨a,a.symm⟩) al).MO,
  λal=>NS (λB B=>.symm) NV h aO an i3 bA qa (λi ah j aQ q=>F.up i j (an.lt i ah) (i3.lt j aQ) (((F.ref i (an.lt i ah)).same (hn i ah)).trans (q.trans ((zT j aQ).same (F.ref j (i3.lt j aQ)))))) al.d9⟩
def NW(f:Nat->Nat->Bool):List cZ->List cZ->Prop:=cD λp q=>p.name=q.name/\mq f p q=true
def Zv:∀{cI:List cZ},NW f a4 cI->m5 f a4 cI:=by
 induction a4 with
 |nil=>exactλ{cI} h=>by cases cI with
  |nil=>exact rfl
  |cons=>exact h.elim
 |cons p a4 ay=>exactλ{cI} h=>by cases cI with
  |nil=>exact h.elim
  |cons q cI=>exact dI (ck<|uf.mpr ⟨h.1.1,dx<|bP<|ay h.2⟩)<|show(mq f p q&&o7 f a4 cI)=true from dI h.1.2<|cO<|ay h.2
def Zw:∀{cI:List cZ},m5 f a4 cI->NW f a4 cI:=by
 induction a4 with
 |nil=>exactλ{cI} h=>by cases cI with
  |nil=>exact trivial
  |cons=>exact nomatch dx (bP h)
 |cons p a4 ay=>exactλ{cI} h=>by cases cI with
  |nil=>exact nomatch dx (bP h)
  |cons q cI=>have e:=uf.mp<|dx<|bP h;have t:(mq f p q&&o7 f a4 cI)=true:=cO h;exact⟨⟨e.1,bP t⟩,ay<|dI (ck e.2)<|cO t⟩
def Zx(ref:∀j,j<3->qb P N (fV j) j):sR N (B3 P):=λf hf i j ah aQ h=>by
 have AL:mZ (cK P) (P<|fV i) (P<|fV j):=h.aR.elim (λe=>e▸.refl) Bu.gP;refine Zv<|(ref i ah).ps.comp (λp s q a c=>c.elim λt b=> ?_)<|AL.comp (a4:=λs q=>∃t,(ix s t/\hV (cK P) s.lb t.lb)/\yV q t) (λB t B a b=>⟨t,a,b⟩) (ref j aQ).ps.swap;have m:=b.1.1;exact⟨br a.name<|m.name.trans b.2.name,dI (dI (dI (ck<|a.b2▸b.2.b2▸m.uB)<|beq_of_eq<|a.b2▸b.2.b2▸m.rf)<|ck<|br a.dG<|m.dG.trans b.2.dG)<|NS (λB B=>.symm) NV a.lb b.2.lb a.ok.n b.2.ok.n .fV .fV (λi ah j aQ r=>hf i j (a.ok.n.lt i ah) (b.2.ok.n.lt j aQ) r) (cK.uC b.1.2).d9⟩
def nS(f:Nat->Nat->Bool)(x y:af):Prop:=x=y\/∃i j,(i<3/\j<3/\i≠j)/\(f i j=true\/f j i)/\x=fV i/\y=fV j
def nS.B2(x y:af)(h:nS f x y):nS f y x:=h.imp iX λh=>h.elim λi h=>h.elim λj h=>⟨j,i,⟨h.1.2.1,h.1.1,h.1.2.2.symm⟩,h.2.1.symm,h.2.2.2,h.2.2.1⟩
def nS.i8(ah:i<3)(aQ:j<3)(h:f i j):nS f (fV i) (fV j):=by
 by_cases e:i=j
 ·exact .inl<|e▸rfl
 ·exact .inr ⟨i,j,⟨ah,aQ,e⟩,.inl h,rfl,rfl⟩
def nS.aR(h:nS f x y):m1 (nS f) [x] [y]:=⟨Iff.rfl,λz hz=>⟨y,bo,bR hz▸h⟩,λz hz=>⟨x,bo,bR hz▸h.B2⟩⟩
def Zy(ref:∀j,j<3->qb P N (fV j) j)(up:∀i j,i<3->j<3->B3 P i j->f i j)(eV:∀i j,i<3->j<3->i≠j->f i j->m5 f (N i) (N j)=true):yW P N f:=by
 have o2:∀{i j:Nat},i<3->j<3->i≠j->f i j->mZ (λc bK=>cK P c bK\/m1 (nS f) c bK) (P<|fV i) (P<|fV j):=λ{i j} ah aQ bu q=>
  (ref i ah).ps.swap.comp (λs p t a c=>c.elim λq b=>⟨⟨a.name.trans<|b.1.1.trans b.2.name.symm,a.b2.symm▸b.2.b2.symm▸dx (bP<|bP<|bP b.1.2),a.dG.trans<|(dx<|cO<|bP b.1.2).trans b.2.dG.symm,a.b2.symm▸b.2.b2.symm▸eq_of_beq (cO<|bP<|bP b.1.2)⟩,
   .inr (.inr (NT (λB=>.inl rfl) a.lb b.2.lb a.ok.n b.2.ok.n .fV .fV (λi ah j aQ q=>have k:=nS.i8 (a.ok.n.lt i ah) (b.2.ok.n.lt j aQ) q;⟨k,k.B2⟩) (cO b.1.2)))⟩) ((Zw (eV i j ah aQ bu q)).comp (a4:=λp t=>∃q,(p.name=q.name/\mq f p q)/\yV q t) (λB q B a b=>⟨q,a,b⟩) (ref j aQ).ps)
 refine⟨ref,up,λi j ah aQ h=>cK.yy (K:=m1<|nS f) (λa b q=>q.d9 (λx y aD aF r=>r.elim (λe=>.inl<|aD.trans<|e▸aF.symm) λr=>r.elim λi r=>r.elim λj r=>.inr<|.inl ⟨x,y,aD,aF,r.2.2.1▸rfl,r.2.2.2▸rfl,?_⟩) λdV d1=>.inr<|.inr ⟨dV,d1,λx ac=>(q.mi x ac).imp λy h=>⟨h.1,.inr<|.inr h.2.aR⟩,λx ac=>(q.nM x ac).imp λy h=>⟨h.1,.inr<|.inr h.2.aR⟩⟩) (nS.i8 ah aQ h).aR⟩;rw[r.2.2.1,r.2.2.2];exact r.2.1.elim (o2 r.1.1 r.1.2.1 r.1.2.2) λq=>(o2 r.1.2.1 r.1.1 r.1.2.2.symm q).de λa b h=>h.imp iX<|Or.imp cK.symm λq=>⟨q.len.symm,q.nM,q.mi⟩
section
variable{T:List af}{p:Nat}
def pc.wC(h:pc T u k g):ja (aE T u) k g:=⟨h.aG,h.mem⟩
def pc.at(G:bO T)(h:pc T u k g)(bA:iQ k.aV g){s:Str}(b:fU[p]? =some (.key s)):p∈dS T u↔af.key s∈(hp k.m).map hW:=
 ⟨λab=>Gp G h ab λq aC m=>by
  obtain rfl:=bp<|br aC<|G.at b;exact(gb m).resolve_right λm=>(e4 m).elim λj e=>yR (bA.d4 j e.1) s e.2,
 λm=>(e4<|(h.mem _).mpr<|jg _ m).elim λqy ab=>Gp G h ab.1 λq aC B=>by
  have e:q=.key s:=yT ((ai lO aC).symm.trans ab.2) rfl;exact G.is (e▸aC) b▸ab.1⟩
def Zz:∀m∈jp,cu "error"∉(hp m).map hW/\((cu "any"∈(hp m).map hW\/cu "unknown"∈(hp m).map hW)/\nP m=m\/(cu "any"∉(hp m).map hW/\cu "unknown"∉(hp m).map hW)/\∀i<13,i∈hp (nP m)↔i∈hp m\/i=9):=by decide+kernel
def ZA(G:bO T){p:cZ}(h:pe T p q):ja (fK T q) (lQ p) fV:=by
 refine(hT h.dc.some).elim λr aH=> ?_;delta fK lQ;refine V h.b2 ?_;cases gj p.b2 with
 |false=>exact h.dc.wC
 |true=>
  have t:=Zz _ h.ok.k.m;have a:=λ{i:Nat} {s:Str} (b:fU[i]? =some (.key s))=>h.dc.at G .fV b;have Gx:=λi=>G.uF (t:=q.dc) (x:=i);show ja (if 0<=fT (dq T [q.dc,4])then _ else _) ⟨nP p.k.m,p.k.aV⟩ fV;rcases t.2 with ic|ic
  ·have h0:0<=fT (dq T [q.dc,4]):=ic.1.elim (λm=>FY ((Gx 0).mpr<|.inl<|(a rfl).mpr m)▸Int.le_refl _) λm=>FZ<|(Gx 1).mpr<|.inl<|(a rfl).mpr m;exact V (bh h0)<|V ic.2 h.dc.wC
  ·have n:∀i:Nat,i≠4->∀{s:Str},fU[i]? =some (.key s)->af.key s∉(hp p.k.m).map hW->fT (dq T [q.dc,4])≠i:=λi cq s b ac e=>ac<|(a b).mp<|((Gx i).mp (Bx e.symm).1).resolve_right cq;have h0:¬0<=fT (dq T [q.dc,4]):=by
    rcases My (dq T [q.dc,4])with e|e|e|e
    ·exact absurd e (n 0 (by decide) rfl ic.1.1)
    ·exact absurd e (n 13 (by decide) rfl t.1)
    ·exact absurd e (n 1 (by decide) rfl ic.1.2)
    ·exact e▸(by decide)
   refine V (bH h0) ⟨NC G,λx=>⟨λm=>(e4 m).elim λi ah=>((G.sJ aH).mp ah.1).elim (λpA=>rl ((h.dc.mem x).mp<|i1 ⟨i,pA,ah.2⟩) (λj aQ e=>e▸uM (k:=⟨nP p.k.m,p.k.aV⟩) ((ic.2 j<|nR aQ).mpr<|.inl aQ)) λj aQ e=>e▸wB (k:=⟨nP p.k.m,p.k.aV⟩) aQ) λet=> ?_,λm=>rl (k:=⟨nP p.k.m,p.k.aV⟩) m (λj aQ e=>((ic.2 j<|nR aQ).mp aQ).elim (λaQ=> ?_) λZB=> ?_) λj aQ e=> ?_⟩⟩
   ·exact ah.2▸et▸(ai lO G.rh).symm▸uM (i:=9) (k:=⟨nP p.k.m,p.k.aV⟩) ((ic.2 9<|by decide).mpr<|.inr rfl)
   ·exact(e4<|(h.dc.mem x).mpr<|e▸uM aQ).elim λi ah=>i1 ⟨i,(G.sJ aH).mpr<|.inl ah.1,ah.2⟩
   ·exact i1 ⟨4,(G.sJ aH).mpr<|.inr rfl,(ai lO G.rh).trans (ZB▸e).symm⟩
   ·exact(e4<|(h.dc.mem x).mpr<|e▸wB aQ).elim λi ah=>i1 ⟨i,(G.sJ aH).mpr<|.inl ah.1,ah.2⟩
structure nT(T:List af)(a1:Nat->Nat)(N:Nat->List cZ):Prop where
 G:bO T
 uN:∀j,j<3->∃u ps f,d4 T a1 40 (16+j)=some u/\T[u]? =some (.obj ps f)/\u≠11/\cD (pe T) (N j) ps
def nT.D(X:nT T a1 N):F4 T a1:=⟨λd Y ba=>by
 cases d with
 |zero=>exact absurd Y<|vu 0
 |succ d=>exact(X.uN d ba).imp λu h=>h.imp λps h=>h.imp λf h=>⟨(ai (d4 T a1 40) (Nat.succ_add 15 d).symm).trans h.1,h.2.1,h.2.2.1⟩⟩
def NX(G:bO T)(h:cD (pe T) df ps):cD yV df (ps.map<|gy T):=(h.imp λp q h=>(⟨h.ok,h.name,h.b2,h.dG,ZA G h⟩:yV p (gy T q))).map
def nT.ref(X:nT T a1 N):∀j,j<3->qb (yF T a1) N (fV j) j:=λj aQ=>(X.uN j aQ).elim λu h=>h.elim λps h=>h.elim λf h=>by
 refine⟨rfl,?_⟩;delta yF;exact V (M6 (d:=j+1) (f:=f) ((ai (d4 T a1 40) (Nat.succ_add 15 j).symm).trans h.1) h.2.1)<|NX X.G h.2.2.2
end
end
end
section
open PySem.Builtin (bitAnd bitOr bitNot)
noncomputable def sW(b k u:Int):Int:=if bitAnd b k≠0 then u else 0
noncomputable def nU(b:Int):Int:=bitOr (bitOr (bitOr b<|sW b 4 3)<|sW b 32 24)<|sW b 1024 512
noncomputable def wD(b:Int):Int:=bitOr (bitOr (bitOr (nU b)<|sW b 3 4)<|sW b 24 32)<|sW b 512 1024
noncomputable def e1.nil(k:e1):Bool:=decide (k.m=0)&&k.aV.isEmpty
noncomputable def qc(m:Nat)(a b:e1):Int:=
 if bitAnd b.m 4096≠0\/a.nil=true then 1
 else if bitAnd a.m 4096≠0/\m=4 then 0
 else if bitAnd b.m 2048≠0\/bitAnd a.m 4096≠0 then(if b.nil=true then 0 else 1)
 else if m=2 then(if bitAnd a.m (wD b.m)≠0\/(bitAnd a.m 2048≠0/\b.nil=false)then 1 else if(a.aV++b.aV).isEmpty=false then-1 else 0)
 else if bitAnd a.m (bitNot<|nU b.m)≠0\/(a.aV.isEmpty=false/\b.aV.isEmpty)then 0
 else if a.aV.isEmpty=false then-1 else 1
section
variable{a b k:e1}
def ZC:I.key (dA k)=true:=show(I.hr 5 (J k.m)&&(I.gR 4 (k.aV.map J)&&true))=true from dI rfl<|dI (Bl _) rfl
def uO:eh C .eq (dA k) (.ak [.int 0,.ak []])=some k.nil:=by
 show(if I.key (dA k)&&I.key (.ak [.int 0,.ak []])then some (decide<|dA k=.ak [.int 0,.ak []])else none)=_;refine(bh<|dI ZC rfl).trans<|ai some ?_;cases k with
 |mk m aV=>cases m with
  |succ m=>exact cp λe=>Nat.noConfusion<|k0<|I.int.inj<|h2 (I.ak.inj e) λe B=>e
  |zero=>cases aV with
   |nil=>exact rfl
   |cons x xs=>exact cp λe=>h2 (I.ak.inj e) λB e=>h2 e λe B=>nomatch I.ak.inj e
def NY{t:Bool}(h:k.nil=t):eh C .bu (dA k) (.ak [.int 0,.ak []])=some (!t):=h▸ai (Option.map (!·)) (uO (C:=C) (k:=k))
def wE{x b c u:Int}:iF .ip (.int x) (bif decide (bitAnd b c≠0)then .int u else .int 0) C=some (.int<|bitOr x<|sW b c u,C):=by
 delta sW;by_cases h:bitAnd b c≠0
 ·exact V (bh h)<|V (ck h) rfl
 ·exact V (bH h)<|V (cp h) rfl
def kG{i:Int}(h:i≠0):h3 C (.int i)=some true:=p2<|ck h
def kH{i:Int}(h:¬i≠0):h3 C (.int i)=some false:=p2<|cp h
def uP{l:List Nat}{t:Bool}(h:l.isEmpty=t):eh C .gt (J l.length) (.int 0)=some (!t):=k8 (h▸by cases l with
 |nil=>rfl
 |cons x l=>exact ck (hd (pF _)))
def NZ{l:List Nat}{t:Bool}(h:l.isEmpty=t):eh C .eq (J l.length) (.int 0)=some t:=gY (h▸by cases l with
 |nil=>rfl
 |cons x l=>exact cp nofun)
noncomputable def wF(i:Nat):dB:=Ih.body.getD i .fA
noncomputable def jN:dB->List dB
 |.iq B cr a=>a
 |.gQ B cr a=>a
 |.ite B a cr=>a
 |_=>[]
noncomputable def B4(i:Nat):dB:=(jN<|wF 4).getD i .fA
def ZD(aU:jK a)(aj:jK b):a0 a2 (d+1) 113 [dA a,dA b,J m] C=some (.int<|qc m a b,C):=by
 have ef:∀k:e1,fq C (dA k) (.int 0)=some (J k.m):=λB=>b0 (i:=0) rfl;have ia:∀k:e1,fq C (dA k) (.int 1)=some (.ak<|k.aV.map J):=λB=>b0 (i:=1) rfl;delta qc;by_cases a6:bitAnd b.m 4096≠0
 ·exact V (bh<|.inl a6)<|go λr=>r _ (ef _) _ _ rfl _ (kG a6) _<|kG a6
 cases bS:a.nil with
 |true=>exact V (bh<|.inr rfl)<|go λr=>r _ (ef _) _ _ rfl _ (kH a6) _<|dH uO bS
 |false=>
 have gZ:cw (bk d) (wF 0) (cm [dA a,dA b,J m]) C=some (.next,cm [dA a,dA b,J m],C):=dk λr=>r _ (ef _) _ _ rfl _ (kH a6) _<|dH uO bS;refine V (bH λh=>h.elim a6 nofun) ?_;by_cases d2:bitAnd a.m 4096≠0/\m=4
 ·exact V (bh d2)<|gi [true] λr=>r _ _ _ gZ _ (ef _) _ _ rfl _ (kG d2.1) _<|cY (b:=4) d2.2
 have g0:cw (bk d) (wF 1) (cm [dA a,dA b,J m]) C=some (.next,cm [dA a,dA b,J m],C):=by
  by_cases eQ:bitAnd a.m 4096≠0
  ·exact dk λr=>r _ (ef _) _ _ rfl _ (kG eQ) _<|bN (b:=4) λh=>d2 ⟨eQ,h⟩
  ·exact dk λr=>r _ (ef _) _ _ rfl _ (kH eQ) _<|kH eQ
 refine V (bH d2) ?_;by_cases gV:bitAnd b.m 2048≠0
 ·refine V (bh<|.inl gV) ?_;cases e:b.nil with
  |true=>exact gi [true,true] λr=>r _ _ _ gZ _ _ _ g0 _ (ef _) _ _ rfl _ (kG gV) _ (kG gV) _<|dH uO e
  |false=>exact gi [true,true] λr=>r _ _ _ gZ _ _ _ g0 _ (ef _) _ _ rfl _ (kG gV) _ (kG gV) _<|dH uO e
 by_cases eQ:bitAnd a.m 4096≠0
 ·refine V (bh<|.inr eQ) ?_;cases e:b.nil with
  |true=>exact gi [true,true] λr=>r _ _ _ gZ _ _ _ g0 _ (ef _) _ _ rfl _ (kH gV) _ (ef _) _ _ rfl _ (kG eQ) _<|dH uO e
  |false=>exact gi [true,true] λr=>r _ _ _ gZ _ _ _ g0 _ (ef _) _ _ rfl _ (kH gV) _ (ef _) _ _ rfl _ (kG eQ) _<|dH uO e
 have jb:cw (bk d) (wF 2) (cm [dA a,dA b,J m]) C=some (.next,cm [dA a,dA b,J m],C):=dk λr=>r _ (ef _) _ _ rfl _ (kH gV) _ (ef _) _ _ rfl _<|kH eQ;have qd:cw (bk d) (wF 3) (cm [dA a,dA b,J m]) C=some (.next,ar (cm [dA a,dA b,J m]) 3<|.int<|nU b.m,C):=dk λr=>r _ (ef b) _ (ef b) _ _ rfl _ rfl _ _ wE _ (ef b) _ _ rfl _ rfl _ _ wE _ (ef b) _ _ rfl _ rfl _ _ wE;refine V (bH λh=>h.elim gV eQ) ?_;by_cases gM:m=2
 ·have aP:jf (bk d) (.aK .eq (.E 2)<|U 2) (ar (cm [dA a,dA b,J m]) 3<|.int<|nU b.m) C=some (true,C):=Bc λr=>r _<|cY (b:=2) gM;have ZE:cw (bk d) (B4 0) (ar (cm [dA a,dA b,J m]) 3<|.int<|nU b.m) C=some (.next,ar (ar (cm [dA a,dA b,J m]) 3<|.int<|nU b.m) 3<|.int<|wD b.m,C):=dk λr=>r _ (ef b) _ _ rfl _ rfl _ _ wE _ (ef b) _ _ rfl _ rfl _ _ wE _ (ef b) _ _ rfl _ rfl _ _ wE;have fin:∀{v:I} {aT:bT},cG (bk d) [B4 1,B4 2] (ar (ar (cm [dA a,dA b,J m]) 3<|.int<|nU b.m) 3<|.int<|wD b.m) C=some (.ret v,aT,C)->a0 a2 (d+1) 113 [dA a,dA b,J m] C=some (v,C):=λh=>gi [true,true,true,true,true] λr=>r _ _ _ gZ _ _ _ g0 _ _ _ jb _ _ _ qd _ _ _<|Mi aP<|(eB ZE).trans h;refine V (bh gM) ?_;by_cases fN:bitAnd a.m (wD b.m)≠0
  ·exact V (bh<|.inl fN)<|fin<|yf<|dk λr=>r _ (ef _) _ _ rfl _ (kG fN) _<|kG fN
  by_cases jk:bitAnd a.m 2048≠0/\b.nil=false
  ·exact V (bh<|.inr jk)<|fin<|yf<|dk λr=>r _ (ef _) _ _ rfl _ (kH fN) _ (ef _) _ _ rfl _ (kG jk.1) _<|NY jk.2
  have N0:cw (bk d) (B4 1) (ar (ar (cm [dA a,dA b,J m]) 3<|.int<|nU b.m) 3<|.int<|wD b.m) C=some (.next,ar (ar (cm [dA a,dA b,J m]) 3<|.int<|nU b.m) 3<|.int<|wD b.m,C):=by
   by_cases jF:bitAnd a.m 2048≠0
   ·cases e:b.nil with
    |true=>exact dk λr=>r _ (ef _) _ _ rfl _ (kH fN) _ (ef _) _ _ rfl _ (kG jF) _<|NY e
    |false=>exact absurd ⟨jF,e⟩ jk
   ·exact dk λr=>r _ (ef _) _ _ rfl _ (kH fN) _ (ef _) _ _ rfl _ (kH jF) _<|kH jF
  have N1:iF .add (.ak<|a.aV.map J) (.ak<|b.aV.map J) C=some (.ak<|(a.aV++b.aV).map J,C):=(Mq (by rw[c2,c2];exact a3 (lg (yS _ aU.aV)<|yS _ aj.aV)<|by decide)).trans<|ai (λl=>some (I.ak l,C)) iI.symm;refine V (bH λh=>h.elim fN jk) ?_;cases jF:(a.aV++b.aV).isEmpty with
  |true=>exact fin<|(eB N0).trans<|yf<|dk λr=>r _ (ia _) _ (ia _) _ _ N1 _ _ mm _<|uP jF
  |false=>exact fin<|(eB N0).trans<|yf<|dk λr=>r _ (ia _) _ (ia _) _ _ N1 _ _ mm _<|uP jF
 have pg:cw (bk d) (wF 4) (ar (cm [dA a,dA b,J m]) 3<|.int<|nU b.m) C=some (.next,ar (cm [dA a,dA b,J m]) 3<|.int<|nU b.m,C):=dk λr=>r _<|bN (b:=2) gM;refine V (bH gM) ?_;by_cases fN:bitAnd a.m (bitNot<|nU b.m)≠0
 ·exact V (bh<|.inl fN)<|gi [true,true,true,true,true] λr=>r _ _ _ gZ _ _ _ g0 _ _ _ jb _ _ _ qd _ _ _ pg _ (ef _) _ _ rfl _ (kG fN) _<|kG fN
 cases jk:a.aV.isEmpty with
 |true=>exact V (bH λh=>h.elim fN nofun)<|gi [true,true,true,true,true] λr=>r _ _ _ gZ _ _ _ g0 _ _ _ jb _ _ _ qd _ _ _ pg _ (ef _) _ _ rfl _ (kH fN) _ (ia _) _ _ mm _ (uP jk) _ (ia _) _ _ mm _<|uP jk
 |false=>
  cases jF:b.aV.isEmpty with
  |true=>exact V (bh<|.inr ⟨rfl,rfl⟩)<|gi [true,true,true,true,true] λr=>r _ _ _ gZ _ _ _ g0 _ _ _ jb _ _ _ qd _ _ _ pg _ (ef _) _ _ rfl _ (kH fN) _ (ia _) _ _ mm _ (uP jk) _ (ia _) _ _ mm _<|NZ jF
  |false=>exact V (bH λh=>h.elim fN nofun)<|gi [true,true,true,true,true] λr=>r _ _ _ gZ _ _ _ g0 _ _ _ jb _ _ _ qd _ _ _ pg _ (ef _) _ _ rfl _ (kH fN) _ (ia _) _ _ mm _ (uP jk) _ (ia _) _ _ mm _ (NZ jF) _ (ia _) _ _ mm _<|uP jk
end
end
variable{aw:List (e1×Nat)}{e':e1×Nat}
section
section
variable{l B5:St}{nV:gO}{T:List af}{f c:Nat}{x y:b3}{a b:I}{F:Nat->Option I}
def Gy:(C++x::l).set C.length y=C++y::l:=(List.set_append_right _ _<|gF _).trans (by rw[Nat.sub_self];rfl)
def fe{e:b4}{r:Option (eG×bT×St)}(h0:H 0=some (.L C.length))(ab:0<C.length)(hm:dw c f=none)(he:bV (bk d) e H (C++.cR c F::l)=some (v,C++.cR c F::B5))(k:cG (bk d) ss H (C++.cR c (ar F f v)::B5)=r):cG (bk d) (.setAttr (.E 0) f e::ss) H (C++.cR c F::l)=r:=
 have aJ:cw (bk d) (.setAttr (.E 0) f e) H (C++.cR c F::l)=some (.next,H,C++.cR c (ar F f v)::B5):=bB he<|bB (fJ h0)<|bB (x:=kj dw (C++.cR c F::B5) f v<|.L C.length) ((wa d8 (dd ab) hm).trans<|ai some Gy) rfl
 (eB aJ).trans k
def yX(ah:oh c=some f)(h:a0 a2 d f (.L C.length::args) (C++[.cR c λB=>none])=some (.none,S)):sp (d+1) c args C=some (.L C.length,S):=by
 show(match oh c with
  |some f=>(a0 a2 d f (I.L C.length::args)<|C++[b3.cR c λB=>none]).bind λr=>if r.1=I.none then some (I.L C.length,r.2)else none
  |none=>_)=_
 exact V ah<|bB h<|bh rfl
def Gz:(C++x::l).length=C.length+1+l.length:=eo.trans ((ai (C.length+·)<|m8 l.length 1).trans (iZ _ _ _).symm)
def lk{e:b4}(h:bV O e H (C++x::l)=some (.L (C++x::l).length,(C++x::l)++[y])):bV O e H (C++x::l)=some (.L<|C.length+1+l.length,C++x::(l++[y])):=h.trans (by rw[Gz,iG];rfl)
def yY{body:List dB}(h:kT[f]? =some ⟨np,hG,body⟩)(ao:args.length=np)(aj:cG (bk d) body (cm args) C=some (.next,H,S)):a0 a2 (d+1) f args C=some (.none,S):=(sq h ao).trans<|bB aj rfl
def ei.ZF(X:ei C A T)(h:A.t=nV.t):ei C nV T:=by obtain⟨a,b,c,e⟩:=X;rw[h]at a b c e;exact⟨a,b,c,e⟩
def ZG(aV:List af):∀{T:List af} {C:St} {H:bT},ei C A T->H 0=some (.L A.t)->(T++aV).Nodup->(∀r∈aV,I.key r.b6)->T.length+aV.length<16000000->
  (∀aT S,fX (λB=>true) (λx H s=>cG (bk<|d+1) [.expr<|.b1 (.E 0) 41 [(.E 1)]] (ar H 1 x) s) (aV.map af.b6) H C=some (.next,aT,S)->ei S A (T++aV)->bw C S [A.t+1,A.t+2]->S.length=C.length->bZ)->bZ:=by
 induction aV with
 |nil=>exactλX B B B B aq=>aq _ _ rfl ((ew _).symm▸X) (.refl _ _) rfl
 |cons r aV ay=>intro T C H X h0 aG an ao aq;refine Fr (d:=d) X (an r bo) (λq=>(kU.mp aG).2.2 r q r bo rfl) (c1 (cT _ _) ao) λbe a6 dC f1 dV=>X.jH.elim λF tt=>ay (H:=ar H 1 r.b6) dC h0 (by rw[iG];exact aG) (λq aC=>an q<|bQ _ aC) (by rw[eo,iZ,m8 [r].length];exact ao) λaT S bS fm f2 d1=> ?_;exact aq aT S (eT rfl (eJ λk=>k _ h0 _ (hM tt.1 tt.2.2.2.2 rfl) _ rfl _ _ a6) bS) (by rw[iG]at fm;exact fm) (f1.trans f2)<|d1.trans dV
noncomputable def N2(q:Nat):Nat->Option I:=ar (ar (ar (ar (ar (ar (ar (ar (ar (ar (λB=>none) 45<|.L<|q+1) 23<|.L<|q+2) 14<|.L<|q+3) 11<|.L<|q+4) 16<|.L<|q+5) 34<|.L<|q+6) 39<|.L<|q+7) 43<|.L<|q+8) 49<|.int 0) 42<|.int 0
noncomputable def GA(q:Nat):St:=.cR 1 (N2 q)::[.list [],.dict [],.list [.none],.list [],.list [],.list [],.dict [],.dict []]
def ZH:∀r∈fU,I.key r.b6:=by decide+kernel
def N3:fU.Nodup:=by decide+kernel
def wG{m:St}(h:m[i]? =some x):(C++m)[C.length+i]? =some x:=(wk<|cT _ _).trans<|V (Nat.add_sub_cancel_left C.length i) h
def ZI(ab:0<C.length)(aX:A.t=C.length)(aq:∀S,sp (d+3) 1 [] C=some (.L C.length,S)->ei S A (fU.take 16)->S.length=C.length+9->S[C.length+3]? =some (.list [.none])->bw C S []->bZ):bZ:=by have ZJ:ei (C++GA C.length) A []:=⟨aX▸ab,⟨N2 C.length,by rw[aX];exact d8,aX▸rfl,aX▸rfl,aX▸rfl,rfl⟩,by rw[aX];exact wG rfl,by rw[aX];exact wG rfl⟩;have ao:(C++GA C.length).length=C.length+9:=eo;have ba:(C++GA C.length)[C.length+3]? =some (.list [.none]):=wG rfl;refine ZG (A:=A) (d:=d) (fU.take 16) (H:=cm [.L C.length]) ZJ (aX▸rfl) (N3.sublist<|List.take_sublist 16 fU) (λr aH=>ZH r<|List.mem_of_mem_take aH) (by decide) λaT S a6 dC f1 dV=> ?_;have bu:∀{x},x<=C.length\/x=C.length+3->x∉[A.t+1,A.t+2]:=λh=>aX▸h.elim (λh=>mg (dU<|pG h)<|dU<|pG<|rX h) λh=>h▸mg (dd<|nw (by decide) (n:=C.length+1) (k:=2)) (dd<|oW _);refine aq S (yX rfl<|yY (np:=1) rfl rfl<|fe (l:=[]) rfl ab rfl (lk rfl)<|fe rfl ab rfl (lk rfl)<|fe rfl ab rfl (lk rfl)<|fe rfl ab rfl (lk rfl)<|fe rfl ab rfl (lk rfl)<|fe rfl ab rfl (lk rfl)<|fe rfl ab rfl (lk rfl)<|fe rfl ab rfl (lk rfl)<|fe rfl ab rfl lJ<|fe rfl ab rfl lJ<|oT<|lL (l:=(fU.take 16).map af.b6) rfl a6) dC (dV.trans ao) (f1.get ba<|bu<|.inr rfl) ⟨dV▸ao▸cT _ _,λa aU B=>(f1.same a (ao▸c7 aU (cT _ _))<|bu<|.inl<|hi aU).trans<|no aU⟩
noncomputable def wH(q:Nat)(a b c:I):Nat->Option I:=ar (ar (ar (ar (ar (ar (ar (ar (ar (ar (ar (ar (ar (ar (ar (λB=>none) 17 a) 24 b) 33 c) 40<|.ak []) 10<|.int<|-1) 9<|.ak []) 50<|.int<|-1) 18<|.int 0) 4<|.bool false) 28<|.L<|q+1) 56<|.L<|q+2) 12<|.int 0) 7<|.int 0) 19<|.str<|aa "") 35<|.int 0
def ZK{a b c:I}(ab:0<C.length):sp (d+2) 2 [a,b,c] C=some (.L C.length,C++.cR 2 (wH C.length a b c)::[.list [],.list []]):=yX rfl<|yY (np:=4) rfl rfl<|fe (l:=[]) rfl ab rfl (fJ rfl)<|fe rfl ab rfl (fJ rfl)<|fe rfl ab rfl (fJ rfl)<|fe rfl ab rfl rfl<|fe rfl ab rfl rfl<|fe rfl ab rfl rfl<|fe rfl ab rfl rfl<|fe rfl ab rfl rfl<|fe rfl ab rfl rfl<|fe rfl ab rfl (lk rfl)<|fe rfl ab rfl (lk rfl)<|fe rfl ab rfl rfl<|fe rfl ab rfl rfl<|fe rfl ab rfl rfl<|fe rfl ab rfl rfl rfl
noncomputable def B6(t:Nat):Nat->Option I:=ar (ar (ar (ar (λB=>none) 51<|.L t) 15<|.int 0) 32<|.int 200) 31<|.int 40
def ZL(ab:0<C.length):sp (d+2) 4 [.L t] C=some (.L C.length,C++[.cR 4<|B6 t]):=yX rfl<|yY (np:=2) rfl rfl<|fe (l:=[]) rfl ab rfl (fJ rfl)<|fe rfl ab rfl rfl<|fe rfl ab rfl rfl<|fe rfl ab rfl rfl rfl
def ZM{l:List I}(X:ei C A T)(ao:C[A.t+3]? =some (.list l))(aJ:l.length<1000)(aq:∀S,a0 a2 (d+3) 14 [.L A.t,a,b] C=some (.L C.length,S)->S[A.t+3]? =some (.list<|l++[.L C.length])->S[C.length]? =some (.cR 2<|wH C.length (J l.length) a b)->S[C.length+2]? =some (.list [])->bw C S [A.t+3]->S.length=C.length+3->bZ):bZ:=by have ba:=fc ao;have k2:=bw.push C [.cR 2<|wH C.length (J l.length) a b,.list [],.list []] [];have qF:=k2.get ao b5;have d9:(C++[b3.cR 2<|wH C.length (J l.length) a b,.list [],.list []]).length=C.length+3:=eo;refine X.jH.elim λF tt=>uo (v:=.L C.length) qF (qx _) (ea aJ<|by decide) λax aU u=> ?_;exact aq ax (go λk=>k _ (ky tt.1 rfl tt.2.2.2.1) _ _ (oU ao) _ _ (ZK (d:=d)<|lM ba) _ (ky (k2.get tt.1 b5) rfl tt.2.2.2.1) _ (lH qF) _ _<|lI qF aU) (u.i6 qF) (u.get d8<|dd ba) (u.get (wG (m:=[b3.cR 2<|wH C.length (J l.length) a b,.list [],.list []]) rfl)<|dd<|c7 ba<|cT _ _) ((k2.cj nofun).trans u.bU)<|u.len.trans d9
def ZN{n:Nat}(X:ei C A T)(hn:af.ref n∉T)(ao:T.length<1000)(aq:∀S,a0 a2 (d+2) 10 [.L A.t,J n,.ak []] C=some (J T.length,S)->ei S A (T++[.ref n])->bw C S [A.t+1,A.t+2]->bZ):bZ:=X.jH.elim λF tt=>Fr (d:=d) X (r:=.ref n) rfl hn (ea ao<|by decide) λS c ii f B=>aq S (go λr=>r _ (hM tt.1 tt.2.2.2.2 rfl) _ _ rfl _ _ c) ii f
end
end
section
noncomputable def il(i:Nat):dB:=Ii.body.getD i .fA
section
variable{T:List af}{q n x:Nat}{D:kE}{ns df:List Nat}
noncomputable def ZO:List Nat:=[0,4,1,0,1,1,1,9,2,2,2,9,0,0,0,0,3,0,0,0,0,0,1,0,0,2]
def ZP(h:C[0]? =some (.list<|zs.map .int))(aq:∀ci be aT S yZ (l:List Nat),cw (bk d) (il 0) (cm [.L 0]) C=some (.next,ci,be)->cw (bk d) (il 1) ci be=some (.next,aT,S)->aT 1=some (.L yZ)->S[yZ]? =some (.list<|l.map J)->l≠[]->l.length<=40->bZ):bZ:=by
 have eS:nh (.L 0) none (some<|.int 40) C=some (.L C.length,C++[.list<|(zs.take 40).map .int]):=(M9 (rfl:l4 none=some none) (Na<|by decide) h).trans (ai (λl=>some (I.L C.length,C++[b3.list l])) (by
  have e:(zs.map I.int).take (ng (40:Int) (zs.map I.int).length)=(zs.take 40).map .int:=(show _=(zs.map I.int).take 40 by have c:ng (40:Int) (zs.map I.int).length=min 40 (zs.map I.int).length:=bH (by decide);exact c▸(List.take_eq_take_min (i:=40)).symm).trans List.map_take.symm
  exact e))
 have ag:=yq (O:=bk d) (H:=cm [.L 0]) (i:=42) (elt:=.b8 .mD (.E 42)<|U 999983) (cg:=.je (.E 0) none<|some<|U 40) (ik:=C) (b6:=I.int) (xs:=zs.take 40) (g:=λz=>J (z.fmod 999983).toNat) (jj λk=>k _ _ eS) (lN d8) (iw d8) λz B=>i7 λk=>k _ rfl _ _ ((bh (by decide):(if(0:Int)<999983 then some (I.int<|z.fmod 999983,C++[.list<|(zs.take 40).map .int])else none)=_).trans<|ai (λz=>some (I.int z,C++[.list<|(zs.take 40).map .int])) (Int.toNat_of_nonneg<|Int.fmod_nonneg_of_pos z<|by decide).symm);have g:∀{s:St},(s++[b3.list<|(zs.take 40).map λz=>J (z.fmod 999983).toNat])[s.length]? =some (.list<|((zs.take 40).map λz=>(z.fmod 999983).toNat).map J):=d8.trans<|ai (λl=>some<|b3.list l) (jB (g:=J) (f:=λz:Int=>(z.fmod 999983).toNat)).symm;have N4:((zs.take 40).map λz=>(z.fmod 999983).toNat).length<=40:=a3 (cM<|c2 _)<|List.length_take_le _ _;generalize (zs.take 40).map (λz=>(z.fmod 999983).toNat)=l at g N4;cases l with
 |nil=>exact aq _ _ _ _ _ ZO (ut ag) (gx λk=>k _ rfl _ _ (nJ g) _ rfl) rfl d8 nofun (by decide)
 |cons x l=>exact aq _ _ _ _ _ (x::l) (ut ag) (gx λk=>k _ rfl _ _ (nJ g) _<|bN (b:=0) nofun) rfl g nofun N4
def ZQ(h:C[0]? =some (.list<|zs.map .int))(aq:∀ci be dr bF s3 S D aG na N,cw (bk<|d+5) (il 0) (cm [.L 0]) C=some (.next,ci,be)->cw (bk<|d+5) (il 1) ci be=some (.next,dr,bF)->cw (bk<|d+5) (il 2) dr bF=some (.next,ar dr 2<|.L D.a,s3)->cw (bk<|d+5) (il 3) (ar dr 2<|.L D.a) s3=some (.next,ar (ar dr 2<|.L D.a) 3<|.L aG,S)->
  dr 1=some (.L D.n)->hD D 40 S->p6 S aG na N->D.n<D.a->D.a<aG->(∀i,i<3->D.a<na i/\aG≠na i)->bZ):bZ:=by
 refine ZP (d:=d+5) h λci be dr bF yZ l oQ a6 bi g du n2=> ?_;have ab:=fc g;have ao:(bF++[b3.list [J 0]]).length=bF.length+1:=eo;refine YK (d:=d) (D:=⟨yZ,bF.length,l⟩) (C:=bF++[.list [J 0]]) ⟨⟨du,n2,lM ab,dU ab⟩,(bw.push bF _ []).get g b5,0,jA _,d8⟩ (jA _) (ao▸pF _) λc m0 er cU o5 wz jq s4 wI e bM aD aF gh dJ fi le bu hO=> ?_;refine aq ci be dr bF _ s4 ⟨yZ,bF.length,l⟩ c (λi=>[m0,er,cU].getD i 0) (λi=>[o5,wz,jq].getD i []) oQ a6 rfl (gx λk=>k _ bi _ rfl _ _ wI) bi (hO.w.cj<|gF _) ⟨e,λi ah=> ?_,λi ah=> ?_⟩ ab (ao▸le.2.2.2:) λi ah=> ?_
 ·rcases gd ah with rfl|rfl|rfl;exact bM;exact aD;exact aF
 ·rcases gd ah with rfl|rfl|rfl;exact gh;exact dJ;exact fi
 ·rcases gd ah with rfl|rfl|rfl;exact⟨(ao▸le.1:),bu.1⟩;exact⟨(ao▸le.2.1:),bu.2.1⟩;exact⟨(ao▸le.2.2.1:),bu.2.2⟩
structure rm(df:List Nat)(C:St)(x:Nat)(o:b3):Prop where
 c:C[x]? =some o
 n:x∉df
def rm.keep(h:rm df C x o)(f:bw C S ms)(s:∀a∈ms,a∈df):rm df S x o:=⟨f.get h.c λq=>h.n<|s x q,h.n⟩
structure wJ(C:St)(q n:Nat):Prop where
 wu:∃a b,C[q]? =some (.cR 2<|wH q (J n) a b)
 B7:C[q+2]? =some (.list [])
def wJ.keep(h:wJ C q n)(f:bw C S ms)(Y:q∉ms)(ae:q+2∉ms):wJ S q n:=⟨h.wu.imp λB h=>h.imp λB h=>f.get h Y,f.get h.B7 ae⟩
def GB{c:I}(ag:∀C,fq C (.str<|aa "ABC") (J i)=some c)(h:hD D b C)(aj:b<=1000)(X:ei C A T)(ao:C[A.t+3]? =some (.list l))(aJ:l.length<1000)(on:D.n<D.a)(o:D.a<A.t)(Y:H 1=some (.L D.n))(ae:H 2=some (.L D.a))(cq:H 4=some (.L A.t))(aq:∀q S,((gp (bk<|d+3) [] (ar H 42<|J i) C).bind λr=>if r.1 then(bV (bk<|d+3) (.a5 14 [(.E 4),(.b8 .add (U 1)<|.a5 98 [(.E 1),(.E 2),(U 3)]),(.av (.bc<|.str<|aa "ABC")<|.E 42)]) (ar H 42<|J i) r.2).bind λu=>some (some u.1,u.2)else some (none,r.2))=some (some<|.L q,S)->C.length<=q->S.length=q+3->S[A.t+3]? =some (.list<|l++[.L q])->wJ S q l.length->hD D (b+1) S->ei S A T->bw C S [D.a,A.t+3]->bZ):bZ:=by refine lf (d:=d+2) (n:=3) h (a3 aj<|by decide) (by decide) λv be aS a6 fS=> ?_;have dC:=X.keep fS.f λa h B=>fv<|dd<|c7 o h;have jn:=c7 o<|cT A.t 3;refine ZM (d:=d) (a:=J<|1+v) (b:=c) dC (fS.f.get ao<|fv<|dd jn) aJ λS bS g1 bd cQ f2 d1=> ?_;exact aq be.length S (bB (x:=gp (bk<|d+3) [] _ C) rfl<|bB (i7 λk=>k _ cq _ Y _ ae _ _ a6 _ _ rfl _ rfl _ (ag _) _ _ bS) rfl) fS.f.len d1 g1 ⟨⟨_,_,bd⟩,cQ⟩ (fS.w.keep f2 (fv<|dU<|ea on jn)<|fv<|dU jn) (dC.keep f2 λa B h=>fv<|dU<|pG h)<|(fS.f.cj λB h=>bR h▸bo).trans<|f2.cj λB=>bQ _
def GC(X:ei C A T)(hn:af.ref n∉T)(ao:T.length<1000)(cq:H 4=some (.L A.t))(aI:wJ C q n)(aq:∀S,((gC (.aR 42) (.L q) H).bind λci=>(gp (bk<|d+2) [] ci C).bind λr=>if r.1 then(bV (bk<|d+2) (.a5 10 [(.E 4),(.aZ (.E 42) 17),(.ak [])]) ci r.2).bind λu=>some (some u.1,u.2)else some (none,r.2))=some (some<|J T.length,S)->ei S A (T++[.ref n])->bw C S [A.t+1,A.t+2]->bZ):bZ:=aI.wu.elim λa e=>e.elim λb e=>ZN (d:=d) X hn ao λS c ii f=>aq S (bB (x:=gC (.aR 42) (.L q) H) rfl<|bB (x:=gp (bk<|d+2) [] _ C) rfl<|bB (i7 λk=>k _ cq _ rfl _ (ky e rfl rfl) _ _ c) rfl) ii f
end
end
section
def qe{α:Type}{a x:α}{l:List α}(h:x≠a)(k:x∉l):x∉a::l:=λq=>(cS q).elim h k
noncomputable def N5:Nat->af->Bool
 |i,.key B=>decide<|i<16
 |i,.bool B cr=>decide<|i<16
 |i,.ref d=>decide<|i=15+d/\1<=d/\d<=3
 |i,.dM ps=>decide<|ps=[8,9]
 |i,.obj B cr=>decide<|i=11
 |B,cr=>false
def ZR:bO fU:=⟨N3,List.prefix_refl _,λi r h=>by
 have k:=(show∀i<19,((fU[i]?).all<|N5 i)=true by decide+kernel) i<|fc h;rw[h]at k;have k:N5 i r:=k;cases r with
 |key s=>exact(dx k:i<16)
 |bool b f=>exact(dx k:i<16)
 |ref d=>exact(dx k:i=15+d/\1<=d/\d<=3)
 |obj ps f=>exact .inl<|dx k
 |dM ps=>obtain rfl:ps=[8,9]:=dx k;have f:∀{x r:af},some x=some r->x.d6=false/\eY x= -1->r.d6=false/\eY r= -1:=λe h=>bp e▸h;have n:∀{p:Nat},p∈[8,9]->∀{r:af},fU[p]? =some r->r.d6=false/\eY r= -1:=λ{p} ab {r} aH=>ux (P:=λp=>fU[p]? =some r->r.d6=false/\eY r= -1) (λe=>f (x:=.bool 0 0) e ⟨rfl,rfl⟩) (λe=>f (x:=.bool 1 0) e ⟨rfl,rfl⟩) _ ab aH;exact⟨by decide,by decide,by decide,ux ⟨by decide,by decide,by decide,by decide,by decide,by decide,_,rfl,by decide⟩ ⟨by decide,by decide,by decide,by decide,by decide,by decide,_,rfl,by decide⟩,λp ab q aC r r' aH mO hf=>b7<|(n ab aH).1.symm.trans hf,λB B=>by decide,λp ab r aH q aC e=>vl<|e.trans (n ab aH).2⟩
 |_=>exact b7 k⟩
structure uQ where
 aG:Nat
 gk:Nat
 hq:Nat
 na:Nat->Nat
noncomputable def lS(D:kE)(A:gO)(a4:uQ):List Nat:=[D.a,a4.aG,A.t+1,A.t+2,A.k7,A.iO,A.ev]
structure hP(D:kE)(A:gO)(a4:uQ):Prop where
 n:D.n<D.a
 a:D.a<a4.aG
 t:a4.aG<A.t
 d:A.t+8<A.k7
 e:A.k7+3<=A.iO
 f:A.iO+3<=A.ev
structure g2(D:kE)(A:gO)(a4:uQ)(C:St)(T:List af)(bv:Nat->I)(N:Nat->List cZ)(b:Nat):Prop where
 jO:hD D b C
 fh:C[a4.aG]? =some (.list [.L<|a4.na 0,.L<|a4.na 1,.L<|a4.na 2])
 ok:∀i,i<3->lh (N i)
 d0:∀i,i<3->rm (lS D A a4) C (a4.na i) (.list<|(N i).map fQ)
 fZ:ei C A T
 cX:bO T
 sr:rm (lS D A a4) C (A.t+3) (.list [.none,.L A.k7,.L A.iO,.L A.ev])
 gk:rm (lS D A a4) C a4.gk (.list [.L A.k7,.L A.iO,.L A.ev])
 made:rm (lS D A a4) C a4.hq (.list [J 16,J 17,J 18])
 kz:∀i,i<3->∃F,C[A.fw i]? =some (.cR 2 F)/\F 10=some (bv i)/\F 9=some (.ak [])/\F 56=some (.L<|A.fw i+2)
 B8:∀i,i<3->rm (lS D A a4) C (A.fw i+2) (.list [])
 o:hP D A a4
 h:A.ev<a4.gk
section
variable{T:List af}{x:Nat}{D:kE}{a4:uQ}{bv:Nat->I}
def g2.keep(P:g2 D A a4 C T bv N b)(f:bw C S ms)(s:∀a∈ms,a∈lS D A a4)(jO:hD D b' S)(fh:S[a4.aG]? =some (.list [.L<|a4.na 0,.L<|a4.na 1,.L<|a4.na 2]))(fZ:ei S A a7)(cX:bO a7)(kz:∀i,i<3->∃F,S[A.fw i]? =some (.cR 2 F)/\F 10=some (B9 i)/\F 9=some (.ak [])/\F 56=some (.L<|A.fw i+2)):g2 D A a4 S a7 B9 N b':=⟨jO,fh,P.ok,λi ah=>(P.d0 i ah).keep f s,fZ,cX,P.sr.keep f s,P.gk.keep f s,P.made.keep f s,kz,λi ah=>(P.B8 i ah).keep f s,P.o,P.h⟩
def hP.fw(o:hP D A a4)(i:Nat):A.t+8<A.fw i:=gO.all (P:=(A.t+8<·)) o.d (c7 o.d<|k3 o.e) (c7 o.d<|a3 (k3 o.e)<|k3 o.f) i
def hP.top(o:hP D A a4)(i:Nat):A.fw i<=A.ev:=gO.all (P:=(·<=A.ev)) (a3 (k3 o.e)<|k3 o.f) (k3 o.f) (gF _) i
def hP.N6(o:hP D A a4)(ah:i<3)(aQ:j<3)(h:i≠j):A.fw i+3<=A.fw j\/A.fw j+3<=A.fw i:=by
 have aF:=a3 o.e<|k3 o.f;rcases gd ah with rfl|rfl|rfl<;>rcases gd aQ with rfl|rfl|rfl
 ·exact absurd rfl h
 ·exact .inl o.e
 ·exact .inl aF
 ·exact .inr o.e
 ·exact absurd rfl h
 ·exact .inl o.f
 ·exact .inr aF
 ·exact .inr o.f
 ·exact absurd rfl h
def hP.ZS(o:hP D A a4)(ah:i<3)(aQ:j<3)(h:i≠j):A.fw i≠A.fw j:=(o.N6 ah aQ h).elim (λh=>dU<|un h) λh=>dd<|un h
def N7(Y:x≠D.a)(ae:x≠a4.aG)(ba:x<=A.t\/A.t+3<=x)(cq:∀i,i<3->x≠A.fw i):x∉lS D A a4:=qe Y (qe ae<|qe (ba.elim (λh=>dU<|pG h) λh=>dd<|c7 (ow<|oW _) h)<|qe (ba.elim (λh=>dU<|pG<|rX h) λh=>dd h)<|qe (cq 0<|by decide)<|mg (cq 1<|by decide)<|cq 2<|by decide)
def hP.cf(o:hP D A a4)(h:x<A.t)(Y:x≠D.a)(ae:x≠a4.aG):x∉lS D A a4:=N7 Y ae (.inl<|hi h) λi B=>dU<|ea h<|c1 (cT _ _)<|o.fw i
def hP.ah(o:hP D A a4)(h:A.t+3<=x)(cq:∀i,i<3->x≠A.fw i):x∉lS D A a4:=
 have aP:a4.aG<x:=c7 o.t<|k3 h
 N7 (dd<|ea o.a aP) (dd aP) (.inr h) cq
def hP.gk(o:hP D A a4)(h:A.ev<x):x∉lS D A a4:=o.ah (a3 (hi<|c1 (hA (by decide) _)<|o.fw 2)<|hi h) λi B=>dd<|c1 (o.top i) h
def ZT(Y:H 1=some (.L D.n))(ae:H 2=some (.L D.a))(nu:hD D 40 C)(fE:p6 C aG na N)(on:D.n<D.a)(y0:D.a<aG)(o9:∀i,i<3->D.a<na i/\aG≠na i)(aq:∀be bF S A a4,cw (bk<|d+3) (il 4) H C=some (.next,ar H 4<|.L A.t,be)->cw (bk<|d+3) (il 5) (ar H 4<|.L A.t) be=some (.next,ar (ar H 4<|.L A.t) 6<|.L a4.gk,bF)->
  cw (bk (d+3)) (il 6) (ar (ar H 4 (.L A.t)) 6 (.L a4.gk)) bF=some (.next,ar (ar (ar H 4 (.L A.t)) 6 (.L a4.gk)) 7 (.L a4.hq),S)->a4.aG=aG->g2 D A a4 S fU (λB=>.int (-1)) N 43->bZ):bZ:=by
 have mK:=fc fE.fh;have uR:=ea y0 mK;refine ZI (d:=d) (A:=⟨C.length,0,0,0,0⟩) (lM mK) rfl λax a6 dC dV aD f0=> ?_;refine GB (d:=d) (i:=0) (H:=ar H 4<|.L C.length) (λB=>rfl) (nu.keep f0 b5 b5) (by decide) dC aD (by decide) on uR Y ae rfl λnW be dJ fF er g1 y1 hj fm f1=> ?_;refine GB (d:=d) (i:=1) (H:=ar H 4<|.L C.length) (λB=>rfl) hj (by decide) fm g1 (pV rfl) on uR Y ae rfl λhy bF fi hu cU bd y2 j5 nc f2=> ?_;refine GB (d:=d) (i:=2) (H:=ar H 4<|.L C.length) (λB=>rfl) j5 (by decide) nc bd (pV rfl) on uR Y ae rfl λeW s3 og mW bl cQ y3 iK f6 hk=> ?_;have nX:C.length+8<nW:=a3 (cM dV.symm) fF;have nF:nW+3<=hy:=a3 (cM er.symm) hu;have eZ:hy+3<=eW:=a3 (cM cU.symm) mW;have s0:∀a∈[D.a,C.length+3],a∈[D.a,C.length+1,C.length+2,C.length+3]:=λa h=>(cS h).elim (λe=>e▸bo) λh=>bQ _<|bQ _<|bQ _ h;have qf:∀a∈[C.length+1,C.length+2],a∈[D.a,C.length+1,C.length+2,C.length+3]:=λa h=>bQ _<|(cS h).elim (λe=>e▸bo) λh=>bQ _<|bR h▸bo;have out:∀{x},C.length+3<x->x∉[D.a,C.length+1,C.length+2,C.length+3]:=λh=>Mb (dd<|ea uR<|c1 (cT _ _) h) (dd<|c1 (hA (by decide) _) h) (dd<|c1 (hA (by decide) _) h)<|dd h;have ri:∀{x},x<C.length->D.a≠x->x∉[D.a,C.length+1,C.length+2,C.length+3]:=λh n=>Mb n.symm (dU<|ow h) (dU<|c7 h<|cT _ _)<|dU<|c7 h<|cT _ _;have fH:C.length+3<nW:=c1 (hA (by decide) _) nX;have du:=c7 fH<|k3 nF;have n2:=c7 du<|k3 eZ;have up:∀{x},C.length+3<x->C.length+3<x+2:=λh=>c7 h<|cT _ _;have ez:=f1.cj s0;have ec:=f2.cj s0;have oG:=(hk.cj s0).trans<|bw.push s3 [.list [.L nW,.L hy,.L eW]] _;have cX:(s3++[b3.list [.L nW,.L hy,.L eW]])[s3.length]? =some (.list [.L nW,.L hy,.L eW]):=d8;have jr:C.length+3<s3.length:=c7 n2<|a3 (cT _ 3)<|cM bl.symm;have jI:=f6.keep (bw.push s3 [.list [.L nW,.L hy,.L eW]] []) λB B B=>b5;refine GC (d:=d+1) (H:=ar (ar H 4<|.L C.length) 6<|.L s3.length) (n:=1) jI (by decide) (by decide) rfl (y1.keep (ec.trans oG) (out fH)<|out<|up fH) λg5 v3 cA bG=> ?_;refine GC (d:=d+1) (H:=ar (ar H 4<|.L C.length) 6<|.L s3.length) (n:=2) cA (by decide) (by decide) rfl (y2.keep (oG.trans<|bG.cj qf) (out du)<|out<|up du) λgu v5 mr bn=> ?_;refine GC (d:=d+1) (H:=ar (ar H 4<|.L C.length) 6<|.L s3.length) (n:=3) mr (by decide) (by decide) rfl (y3.keep (((bw.push s3 [.list [.L nW,.L hy,.L eW]] _).trans<|bG.cj qf).trans<|bn.cj qf) (out n2)<|out<|up n2) λhJ uh wK fx=> ?_;have W:=((bG.trans bn).trans fx).trans<|bw.push hJ [.list [J 16,J 17,J 18]] _;have jn:s3.length∉[C.length+1,C.length+2]:=λh=>out jr<|qf _ h;have aB:=(ez.trans<|ec.trans oG).trans<|W.cj qf;have N8:=bG.get cX jn;have N9:=bn.get N8 jn;have Oa:=fx.get N9 jn;have or:hP D ⟨C.length,nW,hy,eW,0⟩ ⟨aG,s3.length,hJ.length,na⟩:=⟨on,y0,mK,nX,nF,eZ⟩;have GD:eW<s3.length:=c7 (nw (k:=3)<|by decide)<|cM bl.symm;have jO:=iK.keep ((bw.push s3 [.list [.L nW,.L hy,.L eW]] _).trans W) (λh=>ri (ea on uR) (dd on)<|qf _ h)<|mg (dU<|ow uR)<|dU<|c7 uR<|cT _ _;have y1:=y1.keep ((ec.trans oG).trans<|W.cj qf) (out fH)<|out<|up fH;have y2:=y2.keep (oG.trans<|W.cj qf) (out du)<|out<|up du;have y3:=y3.keep ((bw.push s3 [.list [.L nW,.L hy,.L eW]] _).trans<|W.cj qf) (out n2)<|out<|up n2;have fw:∀{q n:Nat},wJ (hJ++[.list [J 16,J 17,J 18]]) q n->∃F,(hJ++[b3.list [J 16,J 17,J 18]])[q]? =some (.cR 2 F)/\F 10=some (.int<|-1)/\F 9=some (.ak [])/\F 56=some (.L<|q+2):=λaI=>aI.wu.elim λa h=>h.elim λb h=>⟨_,h,rfl,rfl,rfl⟩;refine aq ax _ _ ⟨C.length,nW,hy,eW,0⟩ ⟨aG,s3.length,hJ.length,na⟩ (ut<|bB (x:=kS (bk<|d+3) [] H C) rfl a6) (ut<|F6 dJ fi og) (ut<|ra (fJ rfl) (lN cX)<|sC (iw cX) v3<|sC (iw N8) v5<|sC (iw N9) uh<|bh<|iw Oa) rfl
  ⟨jO,aB.get (f0.get fE.fh b5)<|ri mK<|dU y0,fE.ok,λi ah=>⟨aB.get (f0.get (fE.d0 i ah) b5)<|ri (fc<|fE.d0 i ah)<|dU (o9 i ah).1,or.cf (fc<|fE.d0 i ah) (dd (o9 i ah).1) (o9 i ah).2.symm⟩,(wK.keep (bw.push hJ _ []) λB B B=>b5).ZF rfl,ZR,
   ⟨W.get ((bw.push s3 _ []).get cQ b5)<|mg (dd<|ow<|oW _)<|dd<|oW _,or.ah (gF _) λi B=>dU<|c1 (hA (by decide) _)<|or.fw i⟩,
   ⟨W.get cX jn,or.gk GD⟩,⟨d8,or.gk (ea GD (fc Oa))⟩,λi ah=> ?_,λi ah=>⟨?_,?_⟩,or,GD⟩
 ·rcases gd ah with rfl|rfl|rfl;exact fw y1;exact fw y2;exact fw y3
 ·rcases gd ah with rfl|rfl|rfl;exact y1.B7;exact y2.B7;exact y3.B7
 ·refine or.ah (a3 (hi<|c1 (hA (by decide) _)<|or.fw i)<|cT _ _) λj aQ=> ?_;by_cases e:i=j
  ·exact e▸dd (nw<|by decide)
  ·exact(or.N6 ah aQ e).elim (λh=>dU h) λh=>dd<|c7 (un h)<|cT _ _
end
end
variable{a4:uQ}
section
section
variable{T:List af}{x f n:Nat}{D:kE}{lP:Nat->List cZ}{bv:Nat->I}{F:Nat->Option I}{a9:Nat->Nat->Prop}
def wL(h:x<A.t):x∉[A.t+1,A.t+2]:=mg (dU<|ow h)<|dU<|c7 h<|cT _ _
def Ca(h:A.t+2<x):x∉[A.t+1,A.t+2]:=mg (dd<|Nat.lt_of_succ_lt h)<|dd h
def hP.uS(o:hP D A a4)(i:Nat):A.t+2<A.fw i:=c1 (hA (by decide) _)<|o.fw i
def hP.d0(o:hP D A a4):D.a<A.t:=ea o.a o.t
def hP.fL(o:hP D A a4):D.n<A.t:=ea o.n o.d0
def hP.Ob(o:hP D A a4)(h:x<=A.t+8)(i:Nat):x≠A.fw i:=dU<|c1 h<|o.fw i
def hP.GF(o:hP D A a4)(h:x<A.t)(i:Nat):x≠A.fw i:=o.Ob (a3 (hi h)<|cT _ _) i
def GG:∀a∈[A.t+1,A.t+2],a∈lS D A a4:=λa h=>bQ _<|bQ _<|(cS h).elim (λe=>e▸bo) λh=>bQ _<|bR h▸bo
def g2.h9(P:g2 D A a4 C T bv N b)(W:i9 C A T n S a7):g2 D A a4 S a7 bv N b:=P.keep W.bU GG (P.jO.keep W.bU (wL P.o.fL)<|wL P.o.d0) (W.bU.get P.fh<|wL P.o.t) W.fZ W.cX λi ah=>(P.kz i ah).imp λF h=>⟨W.bU.get h.1<|Ca<|P.o.uS i,h.2⟩
def g2.y4(P:g2 D A a4 C T bv N b)(aB:hO D b' C S):g2 D A a4 S T bv N b':=P.keep aB.f (λa h=>bR h▸bo) aB.w (aB.f.get P.fh<|fv<|dd P.o.a) (P.fZ.keep aB.f λa h B=>fv<|dd<|c7 P.o.d0 h) P.cX λi ah=>(P.kz i ah).imp λF h=>⟨aB.f.get h.1<|fv (P.o.GF P.o.d0 i).symm,h.2⟩
def g2.same(P:g2 D A a4 C T bv N b)(f:bw C S []):g2 D A a4 S T bv N b:=P.y4 ⟨P.jO.keep f b5 b5,f.cj nofun⟩
def g2.ZU(P:g2 D A a4 C T bv N b)(h:∀i,i<3->bv i=B9 i):g2 D A a4 C T B9 N b:={P with kz:=λi ah=>h i ah▸P.kz i ah}
def g2.Oc(P:g2 D A a4 C T bv N b)(ah:i<3)(v:I)(aq:∀S,kj dw C 10 v (.L<|A.fw i)=some S->g2 D A a4 S T (λj=>if j=i then v else bv j) N b->bZ):bZ:=(P.kz i ah).elim λF e=>by
 have f:=bw.set C (A.fw i)<|.cR 2<|ar F 10 v;have m:∀{x},x<A.t->x∉[A.fw i]:=λh=>fv<|P.o.GF h i;refine aq _ (wa e.1 (dd<|lM<|P.o.fw i) rfl) (P.keep f (λa h=>bR h▸ ?_) (P.jO.keep f (m P.o.fL)<|m P.o.d0) (f.get P.fh<|m P.o.t) (P.fZ.keep f λa B h=>fv<|P.o.Ob (a3 h<|hA (by decide) _) i) P.cX λj aQ=> ?_)
 ·exact bQ _ (bQ _<|bQ _<|bQ _ (by rcases gd ah with rfl|rfl|rfl;exact bo;exact bQ _ bo;exact bQ _<|bQ _ bo))
 ·by_cases c:j=i
  ·subst c;exact⟨_,List.getElem?_set_self<|fc e.1,V (bh rfl) rfl,e.2.2.1,e.2.2.2⟩
  ·exact(P.kz j aQ).imp λG h=>⟨f.get h.1<|fv<|P.o.ZS aQ ah c,V (bH c) h.2.1,h.2.2⟩
def g2.av(P:g2 D A a4 C T bv N b)(ah:i<3):fq C (.L a4.gk) (J i)=some (.L<|A.fw i):=j9 P.gk.c (by rcases gd ah with rfl|rfl|rfl<;>rfl)
def g2.Od(P:g2 D A a4 C T bv N b)(ah:i<3):fq C (.L a4.aG) (J i)=some (.L<|a4.na i):=j9 P.fh (by rcases gd ah with rfl|rfl|rfl<;>rfl)
def Oe(h:x∉lS D A a4):x∉[A.t+1,A.t+2]:=λq=>h<|GG x q
def GH(P:g2 D A a4 C T bv N b)(eA:H 3=some (.L a4.aG))(dW:H 4=some (.L A.t))(jE:H 6=some (.L a4.gk))(lE:H 7=some (.L a4.hq))(ah:i<3)(ao:T.length<=1000)(aq:∀u S a7,cG (bk<|d+7) (jN<|il 7) (ar H 5<|J i) C=some (.next,ar H 5<|J i,S)->g2 D A a4 S a7 (λj=>if j=i then J u else bv j) N b->ek T a7->a7.length<=T.length+10->m9 a7 u (N i)->bZ):bZ:=NM (d:=d) (s:=0) P.fZ P.cX (a3 ao<|by decide) (P.ok i ah) (Nat.mod_lt i<|by decide) (by decide) (P.d0 i ah).c P.made.c (Oe P.made.n) (Oe (P.d0 i ah).n) λu be a7 c W a1=>(P.h9 W).Oc ah (J u) λbF aJ ff=>aq u bF a7 (eJ λk=>k _ dW _ eA _ rfl _ (P.Od ah) _ rfl _ _ (wx<|by decide) _ lE _ _ c _ jE _ rfl _ ((P.h9 W).av ah) _ aJ) ff W.pre W.len a1
def ZV(P:g2 D A a4 C fU bv N b)(eA:H 3=some (.L a4.aG))(dW:H 4=some (.L A.t))(jE:H 6=some (.L a4.gk))(lE:H 7=some (.L a4.hq))(aq:∀S a7 e8 fy e2,cw (bk<|d+7) (il 7) H C=some (.next,ar (ar (ar H 5<|J 0) 5<|J 1) 5<|J 2,S)->g2 D A a4 S a7 (λi=>J<|[e8,fy,e2].getD i 0) N b->a7.length<=49->m9 a7 e8 (N 0)->m9 a7 fy (N 1)->m9 a7 e2 (N 2)->bZ):bZ:=GH (d:=d) P eA dW jE lE (i:=0) (by decide) (by decide) λe8 be cA a6 gz nF dV ZW=>GH (d:=d) (H:=ar H 5<|J 0) gz eA dW jE lE (i:=1) (by decide) (a3 dV<|by decide) λfy bF mr bS ff eZ d1 ZX=>GH (d:=d) (H:=ar (ar H 5<|J 0) 5<|J 1) ff eA dW jE lE (i:=2) (by decide) (a3 d1<|a3 (fl dV 10)<|by decide) λe2 s3 wK d2 P3 hB uT ZY=>aq s3 wK e8 fy e2 (wq (n:=3) rfl (by decide)<|eT rfl a6<|eT rfl bS<|eT rfl d2 rfl) (P3.ZU λi ah=>by rcases gd ah with rfl|rfl|rfl<;>rfl) (a3 uT<|fl (a3 d1<|fl dV 10) 10) ((ZW.pre gz.cX eZ).pre ff.cX hB) (ZX.pre ff.cX hB) ZY
def uU(G:bO T)(aQ:j<3):d4 T a1 (n+1) (16+j)=d4 T a1 n (a1 j):=by
 show(match T[16+j]?with
  |some (.obj B cr)=>some<|16+j
  |some (.ref d)=>if 1<=d/\d<=3 then d4 T a1 n (a1<|d-1)else none
  |some (.dM B)=>none
  |none=>none
  |_=>some 11)=_
 exact V (B0 G aQ)<|bh ⟨Nat.le_add_left _ _,aQ⟩
def ZZ(h:T[u]? =some (.obj ps f)):d4 T a1 (n+1) u=some u:=by
 show(match T[u]?with
  |some (.obj B cr)=>some u
  |some (.ref d)=>if 1<=d/\d<=3 then d4 T a1 n (a1<|d-1)else none
  |some (.dM B)=>none
  |none=>none
  |_=>some 11)=_
 exact V h rfl
def uV(T:List af)(a1:Nat->Nat)(N:Nat->List cZ)(j:Nat):Prop:=m9 T (a1 j) (N j)\/∃i,i<3/\a1 j=16+i/\N j=N i
def wM(h:m9 T u df)(e:d4 T a1 40 (16+j)=d4 T a1 (n+1) u):∃u ps f,d4 T a1 40 (16+j)=some u/\T[u]? =some (.obj ps f)/\u≠11/\cD (pe T) df ps:=h.ex.elim λps q=>q.elim λf q=>⟨u,ps,f,e.trans<|ZZ q.1,q.1,h.bu,q.2⟩
def Z0{e8 fy e2:Nat}(P:g2 D A a4 C T (λi=>J<|[e8,fy,e2].getD i 0) N b)(aj:b<=1000)(bi:H 1=some (.L D.n))(bg:H 2=some (.L D.a))(eA:H 3=some (.L a4.aG))(jE:H 6=some (.L a4.gk))(lE:H 7=some (.L a4.hq))(h0:m9 T e8 (N 0))(Y:m9 T fy (N 1))(ae:m9 T e2 (N 2))(aq:∀S y5 a1 lP,cw (bk<|d+1) (il 8) H C=some (.next,H,S)->y5.aG=a4.aG->y5.gk=a4.gk->y5.hq=a4.hq->g2 D A y5 S T (λi=>J<|a1 i) lP (b+1)->nT T a1 lP->(∀j,j<3->uV T a1 lP j)->bZ):bZ:=by
 refine lf (d:=d) (n:=5) P.jO (a3 aj<|by decide) (by decide) λv be aS a6 fS=> ?_;have gz:=P.y4 fS;by_cases cq:v=4
 ·refine gz.Oc (i:=2) (by decide) (J 16) λbF aJ ff=>yI (i:=2) (v:=.L<|a4.na 0) ff.fh (dd<|lM P.o.a) (pV rfl) λs3 aP w=> ?_;have Z1:∀i,i<3->(if i=2 then J 16 else J ([e8,fy,e2].getD i 0))=J ([e8,fy,16].getD i 0):=λi ah=>by rcases gd ah with rfl|rfl|rfl<;>rfl
  have hw:∀{x},x∉lS D A a4->x∉[a4.aG]:=λh=>fv λq=>h<|q▸bQ _ bo;have uW:∀a∈[a4.aG],a∈lS D A a4:=λa h=>bR h▸bQ _ bo;refine aq s3 ⟨a4.aG,a4.gk,a4.hq,λi=>[a4.na 0,a4.na 1,a4.na 0].getD i 0⟩ (λi=>[e8,fy,16].getD i 0) (λi=>[N 0,N 1,N 0].getD i []) (gx λk=>k _ bi _ bg _ _ a6 _ (cY (b:=4) cq) _ lE _ (j9 (i:=0) gz.made.c rfl) _ jE _ (gz.av (i:=2)<|by decide) _ aJ _ eA _ (ff.Od (i:=0)<|by decide) _ eA _ aP) rfl rfl rfl
   ⟨ff.jO.keep w.bU (fv<|dU<|ea P.o.n P.o.a)<|fv<|dU P.o.a,w.i6 ff.fh,λi ah=> ?_,λi ah=> ?_,ff.fZ.keep w.bU λa h B=>fv<|dd<|c7 P.o.t h,ff.cX,ff.sr.keep w.bU uW,ff.gk.keep w.bU uW,ff.made.keep w.bU uW,λi ah=>(ff.kz i ah).imp λF h=>⟨w.bU.get h.1<|fv (P.o.GF P.o.t i).symm,h.2.1.trans<|ai some<|Z1 i ah,h.2.2⟩,λi ah=>(ff.B8 i ah).keep w.bU uW,⟨P.o.n,P.o.a,P.o.t,P.o.d,P.o.e,P.o.f⟩,P.h⟩ ⟨ff.cX,λj aQ=> ?_⟩ λj aQ=> ?_
  ·rcases gd ah with rfl|rfl|rfl;exact ff.ok 0 ah;exact ff.ok 1 ah;exact ff.ok 0 (by decide)
  ·rcases gd ah with rfl|rfl|rfl;exact(ff.d0 0 ah).keep w.bU uW;exact(ff.d0 1 ah).keep w.bU uW;exact(ff.d0 0<|by decide).keep w.bU uW
  ·rcases gd aQ with rfl|rfl|rfl;exact wM (n:=38) h0<|uU ff.cX aQ;exact wM (n:=38) Y<|uU ff.cX aQ;exact wM (n:=37) h0 ((uU ff.cX aQ).trans<|uU (j:=0) ff.cX<|by decide)
  ·rcases gd aQ with rfl|rfl|rfl;exact .inl h0;exact .inl Y;exact .inr ⟨0,by decide,rfl,rfl⟩
 ·refine aq be a4 (λi=>[e8,fy,e2].getD i 0) N (gx λk=>k _ bi _ bg _ _ a6 _<|bN (b:=4) cq) rfl rfl rfl gz ⟨gz.cX,λj aQ=> ?_⟩ λj aQ=> ?_
  ·rcases gd aQ with rfl|rfl|rfl;exact wM (n:=38) h0<|uU gz.cX aQ;exact wM (n:=38) Y<|uU gz.cX aQ;exact wM (n:=38) ae<|uU gz.cX aQ
  ·rcases gd aQ with rfl|rfl|rfl;exact .inl h0;exact .inl Y;exact .inl ae
structure rn(D:kE)(A:gO)(C:St)(x:Nat)(o:b3):Prop where
 c:C[x]? =some o
 n:x∉[D.a,A.t+1,A.t+2]
 h:x<A.co
structure hE(D:kE)(A:gO)(a4:uQ)(C:St)(T:List af)(a1:Nat->Nat)(N:Nat->List cZ)(b bL:Nat)(f:Nat->Nat->Bool):Prop where
 jO:hD D b C
 fh:rn D A C a4.aG (.list [.L<|a4.na 0,.L<|a4.na 1,.L<|a4.na 2])
 ok:∀i,i<3->lh (N i)
 d0:∀i,i<3->rn D A C (a4.na i) (.list<|(N i).map fQ)
 au:dX C A T a1
 cX:bO T
 gk:rn D A C a4.gk (.list [.L A.k7,.L A.iO,.L A.ev])
 made:rn D A C a4.hq (.list [J 16,J 17,J 18])
 same:rn D A C bL (.dict<|jM f)
 o:D.n<D.a/\D.a<A.t
 s:A.t+2<bL
def Z2(P:g2 D A a4 C T (λi=>J<|a1 i) N b)(eA:H 3=some (.L a4.aG))(dW:H 4=some (.L A.t))(aq:∀be S nV bL e7,cw (bk<|d+6) (il 9) H C=some (.next,ar H 8<|.L bL,be)->cw (bk<|d+6) (il 10) (ar H 8<|.L bL) be=some (.next,ar (ar H 8<|.L bL) 9<|.L nV.co,S)->nV.t=A.t->hE D nV a4 S T a1 N b bL e7->
  (∀a9,sR N a9->∀i j,i<3->j<3->a9 i j->e7 i j)->(∀i j,i<3->j<3->i≠j->e7 i j->m5 e7 (N i) (N j)=true)->bZ):bZ:=by
 refine Y3 (d:=d) (na:=a4.na) ⟨P.fh,λi ah=>(P.d0 i ah).c,P.ok⟩ (lM<|fc P.fh) λe7 be a6 aD f1 up eV=> ?_;have gz:=P.same f1;have f2:=bw.push be [.cR 4<|B6 A.t] [];have ff:=gz.same f2;have ch:∀{x o},rm (lS D A a4) be x o->rn D {A with co:=be.length} (be++[.cR 4<|B6 A.t]) x o:=λh=>⟨f2.get h.c b5,λq=>h.n<|(cS q).elim (λe=>e▸bo) λq=>GG _ q,fc h.c⟩;have jn:∀{x},A.t+2<x->x∉[D.a,A.t+1,A.t+2]:=λh=>qe (dd<|ea P.o.d0<|c1 (cT _ _) h)<|Ca (A:=A) h;have aJ:A.t+2<C.length:=c7 (P.o.uS 2) (hi<|(P.kz 2<|by decide).elim λF h=>fc h.1);refine aq be _ {A with co:=be.length} C.length e7 (gx λk=>k _ eA _ _ a6) (gx λk=>k _ dW _ _<|ZL (d:=d+4)<|lM<|fc aD) rfl ⟨ff.jO,⟨ff.fh,qe (dd P.o.a)<|wL P.o.t,fc gz.fh⟩,ff.ok,λi ah=>ch<|gz.d0 i ah,
  ⟨⟨ff.fZ.pos,P.o.d,c7 (nw (by decide)) P.o.e,c7 (nw (by decide)) P.o.f,ea P.h (fc gz.gk.c)⟩,ff.fZ.jH,ff.fZ.lF,ff.fZ.av,ff.sr.c,λi ah=>(ff.kz i ah).imp λF e=>⟨e.1,e.2.1,e.2.2.1,A.fw i+2,e.2.2.2,?_,hi (fc (gz.B8 i ah).c),(ff.B8 i ah).c⟩,B6 A.t,d8,rfl,rfl,rfl,rfl⟩,ff.cX,ch gz.gk,ch gz.made,⟨f2.get aD b5,jn aJ,fc aD⟩,⟨P.o.n,P.o.d0⟩,aJ⟩ up eV
 exact a3 (gO.all (P:=(A.k7<=·)) (gF _) (k3 P.o.e) (a3 (k3 P.o.e)<|k3 P.o.f) i)<|cT _ _
end
end
section
noncomputable def sX(i:Nat):dB:=(jN<|il 13).getD i .fA
def lT(T:List af)(N:Nat->List cZ)(x:af)(j:Nat):Prop:=(∃i,i<3/\x=fV i/\N j=N i)\/∃ps f,x=.obj ps f/\cD (pe T) (N j) ps
structure nY(T:List af)(N:Nat->List cZ)(k:e1)(u:Nat):Prop where
 kr:jK k
 ex:∃g,pc T u k g/\iQ k.aV g/\∀j∈k.aV,lT T N (g j) j
structure wN(H:bT)(D:kE)(A:gO)(a4:uQ)(bL m0 dg:Nat):Prop where
 bi:H 1=some (.L D.n)
 bg:H 2=some (.L D.a)
 eA:H 3=some (.L a4.aG)
 dW:H 4=some (.L A.t)
 jE:H 6=some (.L a4.gk)
 lE:H 7=some (.L a4.hq)
 v7:H 8=some (.L bL)
 y6:H 9=some (.L A.co)
 Cb:H 10=some (J m0)
 Cc:H 11=some (.L dg)
noncomputable def qg(e:e1×Nat):I:=.ak [dA e.1,J e.2]
noncomputable def ro(j u i:Nat):Nat:=if i=j then u else 16+i
section
variable{T:List af}{x n m0 rp mb:Nat}{D:kE}{k:e1}{g:Nat->af}
def dX.Cd(X:dX C A T a1):A.t+8<A.co:=ea (ea (ea X.eC.2.1 X.eC.2.2.1) X.eC.2.2.2.1) X.eC.2.2.2.2
def rn.keep(h:rn D A C x o)(f:bw C S ms)(s:∀a∈ms,a∈[D.a,A.t+1,A.t+2]\/A.co<a):rn D A S x o:=⟨f.get h.c λq=>(s x q).elim h.n λl=>Nat.lt_asymm l h.h,h.n,h.h⟩
def hE.keep(P:hE D A a4 C T a1 N b bL e7)(f:bw C S ms)(s:∀a∈ms,a∈[D.a,A.t+1,A.t+2]\/A.co<a)(jO:hD D b' S)(au:dX S A a7 a1)(cX:bO a7):hE D A a4 S a7 a1 N b' bL e7:=⟨jO,P.fh.keep f s,P.ok,λi ah=>(P.d0 i ah).keep f s,au,cX,P.gk.keep f s,P.made.keep f s,P.same.keep f s,P.o,P.s⟩
def hE.up(P:hE D A a4 C T a1 N b bL e7)(f:bw C S ms)(h:∀a∈ms,A.co<a):hE D A a4 S T a1 N b bL e7:=
 have n:∀{x},x<=A.co->x∉ms:=λl q=>lu l<|h _ q;have t:=a3 (k3 (k:=8)<|hi P.au.Cd)<|gF _
 P.keep f (λa q=>.inr<|h a q) (P.jO.keep f (n<|a3 (hi<|ea P.o.1 P.o.2) t)<|n<|a3 (hi P.o.2) t) (P.au.keep f λa B l=>n l) P.cX
def hE.push(P:hE D A a4 C T a1 N b bL e7)(m:St):hE D A a4 (C++m) T a1 N b bL e7:=P.up (bw.push C m []) nofun
def hE.y4(P:hE D A a4 C T a1 N b bL e7)(aB:hO D b' C S):hE D A a4 S T a1 N b' bL e7:=P.keep aB.f (λa q=>.inl<|bR q▸bo) aB.w (P.au.keep aB.f λa l B=>fv<|dd<|c7 P.o.2 l) P.cX
def hE.h9(P:hE D A a4 C T a1 N b bL e7)(W:i9 C A T n S a7):hE D A a4 S a7 a1 N b bL e7:=P.keep W.bU (λa q=>.inl<|bQ _ q) (P.jO.keep W.bU (wL<|ea P.o.1 P.o.2)<|wL P.o.2) (P.au.with W.fZ W.bU) W.cX
def hE.cj(P:hE D A a4 C T a1 N b bL e7)(h:b<=b'):hE D A a4 C T a1 N b' bL e7:={P with jO:=P.jO.cj h}
def hE.ah(P:hE D A a4 C T a1 N b bL e7)(h:A.co<x):x∉[D.a,A.t+1,A.t+2]:=
 have l:A.t+8<x:=ea P.au.Cd h
 qe (dd<|ea P.o.2<|c1 (cT _ _) l) (Ca (A:=A)<|c1 (hA (by decide) _) l)
def uV.pre(h:uV T a1 N j)(G:bO T)(x:ek T a7):uV a7 a1 N j:=h.imp_left λh=>h.pre G x
def lT.pre(h:lT T N r j)(G:bO T)(p:ek T a7):lT a7 N r j:=h.imp_right λh=>h.imp λps h=>h.imp λf h=>⟨h.1,h.2.imp λB B h=>h.pre G p⟩
def lT.d4(h:lT T N r j):r.shaped:=h.elim (λh=>h.elim λi h=>h.2.1▸rfl) λh=>h.elim λps h=>h.elim λf h=>h.1▸rfl
def lT.bu(h:lT T N r j)(ok:lh (N j)):r≠.obj [] 0:=λe=>h.elim (λh=>h.elim λi h=>nomatch e.symm.trans h.2.1) λh=>h.elim λps h=>h.elim λf h=>(Gq _ ok.names).2.2<|Gr h.2▸(af.obj.inj<|br e h.1).1▸rfl
def nY.pre(h:nY T N k u)(G:bO T)(p:ek T a7):nY a7 N k u:=⟨h.kr,h.ex.imp λg h=>⟨h.1.pre G p,h.2.1,λj aQ=>(h.2.2 j aQ).pre G p⟩⟩
def Of(an:k.aV=[j])(hn:lT T N r j)(ok:lh (N j)):iQ k.aV (λB=>r)/\∀i∈k.aV,lT T N r i:=by rw[an];exact⟨⟨λB B=>hn.d4,λB B=>hn.bu ok,.inr ⟨j,rfl⟩⟩,λi ah=>bR ah▸hn⟩
def Og(h:l=[J 16,J 17,J 18]\/∃v,l=[J<|ro j v 0,J<|ro j v 1,J<|ro j v 2])(aQ:j<3):l.set j (J u)=[J<|ro j u 0,J<|ro j u 1,J<|ro j u 2]:=by rcases h with rfl|⟨v,rfl⟩<;>(rcases gd aQ with rfl|rfl|rfl<;>rfl)
def Z3(P:hE D A a4 C T a1 N b bL e7)(R:wN H D A a4 bL m0 dg)(pE:∀j,j<3->uV T a1 N j)(an:jK k)(y7:H 15=some (.ak<|k.aV.map J))(y8:H 16=some (J mb))(GI:H 17=some (.L rp))(GJ:C[rp]? =some (.list [J 16,J 17,J 18]))(h0:A.co<rp)(Oh:mb<3)(ao:T.length<=1000)(aq:∀S a7 (mk:Nat->Nat) (g:Nat->af),cw (bk<|d+7) (sX 5) H C=some (.next,H,S)->hE D A a4 S a7 a1 N b bL e7->ek T a7->a7.length<=T.length+10->bw C S [A.t+1,A.t+2,rp]->S[rp]? =some (.list [J<|mk 0,J<|mk 1,J<|mk 2])->(∀j∈k.aV,a7[mk j]? =some (g j))->iQ k.aV g->(∀j∈k.aV,lT a7 N (g j) j)->bZ):bZ:=by
 have GK:=uI _ an.aV;have cW:=λ(e:cw (bk (d+7)) (sX 5) H C=some (.next,H,C))=>aq C T (λj=>16+j) fV e P (.refl _) (cT _ _) (.refl _ _) GJ (λj aQ=>B0 P.cX<|GK j aQ) .fV λj aQ=>.inl ⟨j,GK j aQ,rfl,rfl⟩;by_cases ag:k.aV.length=1
 ·obtain⟨j,e⟩:=List.length_eq_one_iff.mp ag;have aQ:j<3:=GK j<|e▸qH j;by_cases hf:mb=0
  ·exact cW (gx λq=>q _ y7 _ _ mm _ (cY (b:=1) ag) _ y8 _<|k8<|cp<|hf▸by decide)
  have Oi:eh C .gt (J mb) (.int 0)=some true:=k8<|ck<|hd<|Nat.pos_of_ne_zero hf;have wO:H 15=some (.ak [J j]):=y7.trans<|e▸rfl;have gh:rp≠0:=dd<|lM h0;have bl:∀a∈[rp],a∈[A.t+1,A.t+2,rp]:=λa h=>bQ _<|bQ _ h;have Oj:fq C (.L a4.gk) (J j)=some (.L<|A.fw j):=j9 P.gk.c (by rcases gd aQ with rfl|rfl|rfl<;>rfl);refine(P.au.kz j aQ).elim λF q=>yI (i:=j) (v:=J<|a1 j) GJ gh aQ λbe aJ w=> ?_;have g1:=(w.i6 GJ).trans<|ai (λl=>some<|b3.list l)<|Og (.inl rfl) aQ;have gz:=P.up w.bU λa h=>bR h▸h0;have aD:∀v,ro j v j=v:=λv=>bh rfl;by_cases ae:mb=2
  ·refine NM (d:=d) (f:=1) (s:=1) gz.au.fZ gz.cX (a3 ao<|by decide) (gz.ok j aQ) (by decide) (by decide) (gz.d0 j aQ).c gz.made.c (λh=>gz.made.n<|bQ _ h) (λh=>(gz.d0 j aQ).n<|bQ _ h) λu bF a7 c W uN=> ?_;have bd:=W.bU.get g1 λh=>P.ah h0<|bQ _ h;refine yI (i:=j) (v:=J u) bd gh aQ λs3 aP bn=>uN.ex.elim λps h=>h.elim λf h=> ?_;have GL:lT a7 N (.obj ps f) j:=.inr ⟨ps,f,rfl,h.2⟩;have o:=Of e GL<|P.ok j aQ;exact aq s3 a7 (ro j u) (λB=>.obj ps f) (gx λnr=>nr _ y7 _ _ mm _ (cY (b:=1) ag) _ y8 _ Oi _ R.jE _ wO _ (b0 (i:=0) rfl) _ Oj _ (ky q.1 rfl q.2.1) _ GI _ wO _ (b0 (i:=0) rfl) _ aJ _ y8 _ (cY (b:=2) ae) _ R.dW _ R.eA _ wO _ (b0 (i:=0) rfl) _ (j9 gz.fh.c (by rcases gd aQ with rfl|rfl|rfl<;>rfl)) _ R.lE _ _ c _ GI _ wO _ (b0 (i:=0) rfl) _ aP)
    ((gz.h9 W).up bn.bU λa h=>bR h▸h0) W.pre W.len ((w.bU.cj bl).trans<|(W.bU.cj λa h=>(cS h).elim (λe=>e▸bo) λh=>bQ _<|bR h▸bo).trans<|bn.bU.cj bl) ((bn.i6 bd).trans<|ai (λl=>some<|b3.list l)<|Og (.inr ⟨_,rfl⟩) aQ) (λi ah=>by rw[e]at ah;rw[bR ah,aD];exact h.1) o.1 o.2
  ·have aB:cw (bk<|d+7) (sX 5) H C=some (.next,H,be):=gx λnr=>nr _ y7 _ _ mm _ (cY (b:=1) ag) _ y8 _ Oi _ R.jE _ wO _ (b0 (i:=0) rfl) _ Oj _ (ky q.1 rfl q.2.1) _ GI _ wO _ (b0 (i:=0) rfl) _ aJ _ y8 _<|bN (b:=2) ae;have fin:∀{r:af},T[a1 j]? =some r->lT T N r j->bZ:=λ{r} aH GL=>have o:=Of e GL<|P.ok j aQ;aq be T (ro j<|a1 j) (λB=>r) aB gz (.refl _) (cT _ _) (w.bU.cj bl) g1 (λi ah=>by rw[e]at ah;rw[bR ah,aD];exact aH) o.1 o.2;exact(pE j aQ).elim (λuN=>uN.ex.elim λps h=>h.elim λf h=>fin h.1<|.inr ⟨ps,f,rfl,h.2⟩) λh=>h.elim λi h=>fin (h.2.1▸B0 P.cX h.1)<|.inl ⟨i,h.1,rfl,h.2.2⟩
 ·exact cW<|gx λq=>q _ y7 _ _ mm _<|bN (b:=1) ag
end
end
section
noncomputable def y9:List Nat:=[1,2,4,3,5,6,7,0]
def Z4:∀w∈y9,w<8:=by decide
section
variable{T:List af}{x n m0 rp mb:Nat}{D:kE}{k:e1}{g:Nat->af}
def Z5(h:hD D b C)(aj:b<=9000)(bi:H 1=some (.L D.n))(bg:H 2=some (.L D.a))(Cb:H 10=some (J m0))(hm:m0∈jp)(aq:∀m S,m∈jp->cw (bk<|d+1) (sX 1) H C=some (.next,ar H 13<|J m,S)->hO D (b+2) C S->bZ):bZ:=
 lf (d:=d) (n:=4) h (a3 aj<|by decide) (by decide) λv be B a6 fS=>by
  by_cases ba:v<3
  ·exact aq m0 be hm (gx λk=>k _ bi _ bg _ _ a6 _ (lG<|ck<|hd ba) _ Cb)<|fS.cj<|jZ _
  ·exact lf (d:=d) (n:=16) fS.w (a3 (kX aj)<|by decide) (by decide) λy bF a8 bS hj=>Ga bF a8 λm wP im=>aq m bF wP (gx λk=>k _ bi _ bg _ _ a6 _ (lG<|cp λq=>ba<|qG.mp q) _ bi _ bg _ _ bS _ im)<|fS.trans hj
def Z6{w:Nat}(h:hD D b C)(Z7:H 12=some (J w))(Ok:H 13=some (J m))(hm:m∈jp)(hw:w<8)(aq:∀aV S,jK ⟨m,aV⟩->cw (bk d) (sX 2) H C=some (.next,ar H 15<|.ak<|aV.map J,S)->hO D b C S->bZ):bZ:=by
 by_cases t:PySem.Builtin.bitAnd (m:Int) 6144≠0
 ·exact aq [] C ⟨hm,bo,λB=>rfl⟩ (gx λk=>k _ Ok _ _ (di _ _ _) _<|kG t) h.refl
 ·exact aq (F7 w) _ ⟨hm,Nd w hw,λq=>absurd ((F8 m hm).mp q) t⟩ (gx λk=>k _ Ok _ _ (di _ _ _) _ (kH t) _ _ (F9 (m:=3) rfl (by decide) λB=>fJ Z7) _ _<|yn d8)<|h.refl.push _
def GM{l:List (e1×Nat)}(P:hE D A a4 C T a1 N b bL e7)(R:wN H D A a4 bL m0 dg)(hm:m0∈jp)(pE:∀j,j<3->uV T a1 N j)(aj:b<=1000)(ao:T.length<=1000)(he:C[dg]? =some (.list<|l.map qg))(hle:l.length<=10)(h0:A.co<dg)(eb:∀e∈l,nY T N e.1 e.2)(aq:∀e aT S a7,cG (bk<|d+7) (jN<|il 13) (ar H 5<|J i) C=some (.next,aT,S)->wN aT D A a4 bL m0 dg->hE D A a4 S a7 a1 N (b+5) bL e7->ek T a7->a7.length<=T.length+13->S[dg]? =some (.list<|(l++[e]).map qg)->(∀e'∈l++[e],nY a7 N e'.1 e'.2)->bZ):bZ:=by
 refine lf (d:=d+6) (n:=8) P.jO (a3 aj<|by decide) (by decide) λv be B a6 fS=> ?_;have Ol:(i+v)%8<y9.length:=Nat.mod_lt _ (by decide);have hw:=Z4 _<|List.getElem_mem Ol;have g5:cw (bk<|d+7) (sX 0) (ar H 5<|J i) C=some (.next,ar (ar H 5<|J i) 12<|J y9[(i+v)%8],be):=gx λk=>k _ rfl _ R.bi _ R.bg _ _ a6 _ _ rfl _ _ (wx (b:=8)<|by decide) _<|b0 (l:=y9.map J)<|nN<|jh Ol;generalize y9[(i+v)%8]=w at hw g5;refine Z5 (d:=d+6) (H:=ar (ar H 5<|J i) 12<|J w) fS.w (a3 (kX aj)<|by decide) R.bi R.bg R.Cb hm λm bF wP gu hj=> ?_;refine Z6 (d:=d+7) (H:=ar (ar (ar H 5<|J i) 12<|J w) 13<|J m) hj.w rfl rfl wP hw λaV s3 an hJ j5=> ?_;refine lf (d:=d+6) (n:=3) j5.w (a3 (fl aj 3)<|by decide) (by decide) λmb s4 Oh eQ iK=> ?_;have aB:=((fS.trans hj).trans j5).trans iK;have uX:=(P.y4 aB).cj (b':=b+5)<|jZ _;have Om:=aB.f.get he<|fv λq=>P.ah h0<|q▸bo;have Z8:=(bw.push s4 [.list [J 16,J 17,J 18]] []).get Om b5;have wQ:=uX.push [.list [J 16,J 17,J 18]];have q8:cw (bk<|d+7) (sX 3) (ar (ar (ar (ar H 5<|J i) 12<|J w) 13<|J m) 15<|.ak<|aV.map J) s3=some (.next,ar (ar (ar (ar (ar H 5<|J i) 12<|J w) 13<|J m) 15<|.ak<|aV.map J) 16<|J mb,s4):=gx λk=>k _ R.bi _ R.bg _ _ eQ;have nZ:cw (bk<|d+7) (sX 4) (ar (ar (ar (ar (ar H 5<|J i) 12<|J w) 13<|J m) 15<|.ak<|aV.map J) 16<|J mb) s4=some (.next,ar (ar (ar (ar (ar (ar H 5<|J i) 12<|J w) 13<|J m) 15<|.ak<|aV.map J) 16<|J mb) 17<|.L s4.length,s4++[.list [J 16,J 17,J 18]]):=ut<|yq (b6:=J) (xs:=[16,17,18]) (g:=J) (fJ R.lE) (lN uX.made.c) (iw uX.made.c) λp B=>fJ rfl;have nO:=fc Om;have Ce:wN (ar (ar (ar (ar (ar (ar H 5<|J i) 12<|J w) 13<|J m) 15<|.ak<|aV.map J) 16<|J mb) 17<|.L s4.length) D A a4 bL m0 dg:=⟨R.bi,R.bg,R.eA,R.dW,R.jE,R.lE,R.v7,R.y6,R.Cb,R.Cc⟩;refine Z3 (d:=d) (k:=⟨m,aV⟩) wQ Ce pE an rfl rfl rfl d8 (ea h0 nO) Oh ao λpJ On mk g Cf mu v2 Cg mP r2 er cU bl=> ?_;have wR:∀{y},A.co<y->y∉[A.t+1,A.t+2]:=λh q=>P.ah h<|bQ _ q;refine NH (d:=d+2) (f:=mb%2) mu.au.fZ mu.cX (a3 (a3 Cg<|fl ao 10)<|by decide) an (Nat.mod_lt _<|by decide) r2 (wR<|ea h0 nO) er cU λu Al Oo fN za gc=> ?_;have GN:=mP.get Z8<|Ma (λq=>wR h0<|q▸bo) (λq=>wR h0<|q▸bQ _ bo)<|dU nO;have Op:=za.bU.get GN<|wR h0;refine uo (v:=qg (⟨m,aV⟩,u)) Op (dd<|lM h0) (V (c2 _)<|c1 hle<|by decide) λBH aU w=> ?_;have o2:=v2.trans za.pre;exact aq (⟨m,aV⟩,u) _ BH Oo ((eB g5).trans<|(eB gu).trans<|(eB hJ).trans<|(eB q8).trans<|(eB nZ).trans<|(eB Cf).trans<|oT<|gx λk=>k _ R.Cc _ (lH GN) _ rfl _ rfl _ R.dW _ rfl _ rfl _ rfl _ _ (wx (b:=2)<|by decide) _ rfl _ _ fN _ _<|lI GN aU)
  Ce ((mu.h9 za).up w.bU λa h=>bR h▸h0) o2 (a3 za.len<|fl Cg 3) ((w.i6 Op).trans<|ai (λl=>some<|b3.list l) (iI (f:=qg) (l₁:=l) (l₂:=[(⟨m,aV⟩,u)])).symm)
  λe' aO=>(gb aO).elim (λaO=>(eb e' aO).pre wQ.cX o2) λaO=>bR aO▸⟨an,g,gc,cU,λj aQ=>(bl j aQ).pre mu.cX za.pre⟩
def Z9(P:hE D A a4 C T a1 N b bL e7)(bi:H 1=some (.L D.n))(bg:H 2=some (.L D.a))(eA:H 3=some (.L a4.aG))(dW:H 4=some (.L A.t))(jE:H 6=some (.L a4.gk))(lE:H 7=some (.L a4.hq))(v7:H 8=some (.L bL))(y6:H 9=some (.L A.co))(pE:∀j,j<3->uV T a1 N j)(aj:b<=900)(ao:T.length<=900)(aq:∀ci dr aT be bF S a7 m0 dg bM aD aF,cw (bk<|d+7) (il 11) H C=some (.next,ci,be)->cw (bk<|d+7) (il 12) ci be=some (.next,dr,bF)->cw (bk<|d+7) (il 13) dr bF=some (.next,aT,S)->wN aT D A a4 bL m0 dg->hE D A a4 S a7 a1 N (b+16) bL e7->A.co<dg->ek T a7->a7.length<=T.length+39->S[dg]? =some (.list<|[bM,aD,aF].map qg)->(∀e∈[bM,aD,aF],nY a7 N e.1 e.2)->bZ):bZ:=by refine lf (d:=d+6) (n:=16) P.jO (a3 aj<|by decide) (by decide) λv be aS a6 fS=>Ga be aS λm0 hm ac=> ?_;have gz:=P.y4 fS;have ff:=gz.push [.list []];have dp:A.co<be.length:=gz.au.co.elim λF h=>fc h.1;have R:wN (ar (ar H 10<|J m0) 11<|.L be.length) D A a4 bL m0 be.length:=⟨bi,bg,eA,dW,jE,lE,v7,y6,rfl,rfl⟩;refine GM (d:=d) (i:=0) (l:=[]) ff R hm pE (a3 (kX aj)<|by decide) (a3 ao<|by decide) d8 (by decide) dp nofun λbM ke s3 wK v3 aaa P3 hB uT cQ qd=> ?_;have Oq:=λj aQ=>(pE j aQ).pre ff.cX hB;refine GM (d:=d) (i:=1) P3 aaa hm Oq (a3 (fl aj 6)<|by decide) (a3 uT<|a3 (fl ao 13)<|by decide) cQ (pV rfl) dp qd λaD BO s4 zb v5 aab uX lD Ch eu pg=> ?_;have Ch:=a3 Ch<|fl uT 13;refine GM (d:=d) (i:=2) uX aab hm (λj aQ=>(Oq j aQ).pre P3.cX lD) (a3 (fl aj 11)<|by decide) (a3 Ch<|a3 (fl ao 26)<|by decide) eu (pV rfl) dp pg λaF Os s5 GO uh Ce wQ sn aac i4 aad=> ?_;exact aq _ _ Os be _ s5 GO m0 be.length bM aD aF (gx λk=>k _ bi _ bg _ _ a6 _ ac) (gx λk=>k) (wq (n:=3) rfl (by decide)<|eT rfl v3<|eT rfl v5<|eT rfl uh rfl) Ce wQ dp (hB.trans<|lD.trans sn) (a3 aac<|fl Ch 13) i4 aad
end
end
section
structure eK where
 aM:Nat
 tr:List (Nat×Nat)
 bz:List (I×I)
 dn:List I
 dl:Nat
 ns:List I
 n0:Bool
 miss:Str
structure fo where
 q:Nat
 dY:Nat
 gI:Nat
 rule:Nat
noncomputable def fo.iz(Q:fo):List Nat:=[Q.q,Q.q+2,Q.q+3,Q.dY,Q.q+5,Q.q+7]
noncomputable def fo.all(Q:fo):List Nat:=[Q.q,Q.q+2,Q.q+3,Q.dY,Q.q+5,Q.q+6,Q.q+7,Q.gI,Q.rule]
noncomputable def js(tr:List (Nat×Nat)):List (I×I):=tr.map λk=>(ce k,J 1)
structure uY(A:gO)(Q:fo)(r:eK)(v:I)(F:Nat->Option I):Prop where
 mP:F 6=some (.L<|Q.q+2)
 oR:F 7=some (J 0)
 sY:F 15=some (J r.dl)
 rq:F 22=some (.L A.co)
 rr:F 25=some (.L<|Q.q+3)
 sZ:F 29=some (.str r.miss)
 rs:F 30=some (J r.aM)
 rt:F 37=some (.L<|Q.q+6)
 ru:F 44=some (.L<|Q.q+5)
 rv:F 46=some (.L Q.gI)
 rx:F 52=some (.bool r.n0)
 s1:F 54=some (.L Q.dY)
 s2:F 55=some v
 m:F 5=none/\F 8=none/\F 27=none/\F 36=none/\F 47=none
structure bE(A:gO)(C:St)(Q:fo)(r:eK)(as:List (Nat×Nat))(v:I):Prop where
 cf:∀a∈Q.all,A.co<a
 aG:Q.all.Nodup
 cells:∃R F G,uY A Q r v R/\(F 45=some (.L<|Q.q+7)/\F 41=none/\F 13=none)/\G 21=none/\cD (λa o=>C[a]? =some o) Q.all [.cR 3 R,.dict<|js as,.dict r.bz,.list<|r.tr.map ce,.list r.dn,.cR 0 F,.list r.ns,.dict [(.int 5,.L Q.rule)],.cR 5 G]
def cD.Ot{α β:Type}{c4 W:α->β->Prop}{xs:List α}:∀{ys:List β},cD c4 xs ys->(∀x∈xs,∀y,c4 x y->W x y)->cD W xs ys:=by
 induction xs with
 |nil=>exactλ{ys} v B=>by cases ys with
  |nil=>exact v
  |cons=>exact v.elim
 |cons x xs ay=>exactλ{ys} v h=>by cases ys with
  |nil=>exact v.elim
  |cons=>exact⟨h _ bo _ v.1,ay v.2 λy a8=>h y<|bQ _ a8⟩
def cD.ry{α β:Type}{c4 W:α->β->Prop}{b:α}{o:β}(da:W b o){xs:List α}:∀{ys:List β} {i:Nat},cD c4 xs ys->xs.Nodup->xs[i]? =some b->(∀x∈xs,x≠b->∀y,c4 x y->W x y)->cD W xs (ys.set i o):=by
 induction xs with
 |nil=>exactλB B e=>bf e
 |cons x xs ay=>exactλ{ys i} v aG e k=>by cases ys with
  |nil=>exact v.elim
  |cons y ys=>cases i with
   |zero=>obtain rfl:=bp e;exact⟨da,v.2.Ot λz hz=>k z (bQ _ hz) λq=>(hH aG).1<|q▸hz⟩
   |succ i=>exact⟨k x bo (λq=>(hH aG).1<|q▸dK e) _ v.1,ay v.2 (hH aG).2 e λz hz=>k z<|bQ _ hz⟩
section
variable{Q tT:fo}{r r':eK}{Ou:List (Nat×Nat)}{kq:I}{f:Nat}{P:Prop}
def bE.d9(X:bE A C Q r as v)(k:∀R F G,uY A Q r v R->(F 45=some (.L<|Q.q+7)/\F 41=none/\F 13=none)->G 21=none->cD (λa o=>C[a]? =some o) Q.all [.cR 3 R,.dict<|js as,.dict r.bz,.list<|r.tr.map ce,.list r.dn,.cR 0 F,.list r.ns,.dict [(.int 5,.L Q.rule)],.cR 5 G]->P):P:=X.cells.elim λR h=>h.elim λF h=>h.elim λG h=>k R F G h.1 h.2.1 h.2.2.1 h.2.2.2
def bE.wS(X:bE A C Q r as v):C[Q.q+2]? =some (.dict<|js as):=X.d9 λB B B B B B c=>c.2.1
def bE.zc(X:bE A C Q r as v):C[Q.q+3]? =some (.dict r.bz):=X.d9 λB B B B B B c=>c.2.2.1
def bE.dY(X:bE A C Q r as v):C[Q.dY]? =some (.list<|r.tr.map ce):=X.d9 λB B B B B B c=>c.2.2.2.1
def bE.g9(X:bE A C Q r as v):C[Q.q+5]? =some (.list r.dn):=X.d9 λB B B B B B c=>c.2.2.2.2.1
def bE.mv(X:bE A C Q r as v):C[Q.q+7]? =some (.list r.ns):=X.d9 λB B B B B B c=>c.2.2.2.2.2.2.1
def bE.gI(X:bE A C Q r as v):C[Q.gI]? =some (.dict [(.int 5,.L Q.rule)]):=X.d9 λB B B B B B c=>c.2.2.2.2.2.2.2.1
def bE.at(X:bE A C Q r as v)(hm:dw 3 f=none)(h:∀R,uY A Q r v R->R f=some x):hs dw C f (.L Q.q)=some x:=X.d9 λR B B q B B c=>ky c.1 hm<|h R q
def bE.rz(X:bE A C Q r as v):hs dw C 6 (.L Q.q)=some (.L<|Q.q+2):=X.at rfl λB h=>h.mP
def bE.aae(X:bE A C Q r as v):hs dw C 7 (.L Q.q)=some (J 0):=X.at rfl λB h=>h.oR
def bE.GP(X:bE A C Q r as v):hs dw C 15 (.L Q.q)=some (J r.dl):=X.at rfl λB h=>h.sY
def bE.c5(X:bE A C Q r as v):hs dw C 22 (.L Q.q)=some (.L A.co):=X.at rfl λB h=>h.rq
def bE.rA(X:bE A C Q r as v):hs dw C 25 (.L Q.q)=some (.L<|Q.q+3):=X.at rfl λB h=>h.rr
def bE.GQ(X:bE A C Q r as v):hs dw C 29 (.L Q.q)=some (.str r.miss):=X.at rfl λB h=>h.sZ
def bE.d5(X:bE A C Q r as v):hs dw C 30 (.L Q.q)=some (J r.aM):=X.at rfl λB h=>h.rs
def bE.qh(X:bE A C Q r as v):hs dw C 37 (.L Q.q)=some (.L<|Q.q+6):=X.at rfl λB h=>h.rt
def bE.s6(X:bE A C Q r as v):hs dw C 44 (.L Q.q)=some (.L<|Q.q+5):=X.at rfl λB h=>h.ru
def bE.GR(X:bE A C Q r as v):hs dw C 46 (.L Q.q)=some (.L Q.gI):=X.at rfl λB h=>h.rv
def bE.GS(X:bE A C Q r as v):hs dw C 52 (.L Q.q)=some (.bool r.n0):=X.at rfl λB h=>h.rx
def bE.s7(X:bE A C Q r as v):hs dw C 54 (.L Q.q)=some (.L Q.dY):=X.at rfl λB h=>h.s1
def bE.GU(X:bE A C Q r as v):hs dw C 55 (.L Q.q)=some v:=X.at rfl λB h=>h.s2
def bE.qi(X:bE A C Q r as v):hs dw C 45 (.L<|Q.q+6)=some (.L<|Q.q+7):=X.d9 λB F B B h B c=>ky c.2.2.2.2.2.1 rfl h.1
def bE.nv(X:bE A C Q r as v)(hm:dw 3 m=some f)(h:∀R,uY A Q r v R->R m=none):mT dw C m (.L Q.q)=some (some f):=X.d9 λR B B q B B c=>hM c.1 (h R q) hm
def bE.ph(X:bE A C Q r as v):mT dw C 5 (.L Q.q)=some (some 30):=X.nv rfl λB h=>h.m.1
def bE.Ov(X:bE A C Q r as v):mT dw C 8 (.L Q.q)=some (some 34):=X.nv rfl λB h=>h.m.2.1
def bE.zd(X:bE A C Q r as v):mT dw C 27 (.L Q.q)=some (some 33):=X.nv rfl λB h=>h.m.2.2.1
def bE.ze(X:bE A C Q r as v):mT dw C 36 (.L Q.q)=some (some 31):=X.nv rfl λB h=>h.m.2.2.2.1
def bE.Ow(X:bE A C Q r as v):mT dw C 47 (.L Q.q)=some (some 32):=X.nv rfl λB h=>h.m.2.2.2.2
def bE.gt(X:bE A C Q r as v)(i:Nat)(h:Q.all[i]? =some a):A.co<a:=X.cf a<|dK h
def bE.pos(X:bE A C Q r as v)(i:Nat)(h:Q.all[i]? =some a):a≠0:=dd<|lM<|X.gt i h
def bE.lt(X:bE A C Q r as v)(h:a∈Q.all):a<C.length:=X.d9 λB B B B B B c=>(c.swap.i8 a h).elim λB q=>fc q.2
def bE.keep(X:bE A C Q r as v)(f:bw C S ms)(h:∀a∈Q.all,a∉ms):bE A S Q r as v:=⟨X.cf,X.aG,X.d9 λR F G Y ae ba c=>⟨R,F,G,Y,ae,ba,c.Ot λa aU B q=>f.get q<|h a aU⟩⟩
def bE.push(X:bE A C Q r as v)(g:St):bE A (C++g) Q r as v:=X.keep (bw.push C g []) λB B=>b5
def hL.ry{o':b3}(u:hL C b o S){xs:List Nat}{ys:List b3}(i:Nat)(c:cD (λa o=>C[a]? =some o) xs ys)(h:C[b]? =some o')(aG:xs.Nodup)(e:xs[i]? =some b):cD (λa o=>S[a]? =some o) xs (ys.set i o):=cD.ry (W:=λa o=>S[a]? =some o) (u.i6 h) c aG e λB B n B q=>u.get q n
def bE.Ci(X:bE A C Q r as v)(u:hL C (Q.q+2) (.dict<|js Ou) S):bE A S Q r Ou v:=⟨X.cf,X.aG,X.d9 λR F G Y ae ba c=>⟨R,F,G,Y,ae,ba,u.ry 1 c c.2.1 X.aG rfl⟩⟩
def bE.Ox(X:bE A C Q r as v)(u:hL C (Q.q+3) (.dict bz) S):bE A S Q {r with bz:=bz} as v:=⟨X.cf,X.aG,X.d9 λR F G Y ae ba c=>⟨R,F,G,⟨Y.mP,Y.oR,Y.sY,Y.rq,Y.rr,Y.sZ,Y.rs,Y.rt,Y.ru,Y.rv,Y.rx,Y.s1,Y.s2,Y.m⟩,ae,ba,u.ry 2 c c.2.2.1 X.aG rfl⟩⟩
def bE.GV(X:bE A C Q r as v){tr:List (Nat×Nat)}(u:hL C Q.dY (.list<|tr.map ce) S):bE A S Q {r with tr:=tr} as v:=⟨X.cf,X.aG,X.d9 λR F G Y ae ba c=>⟨R,F,G,⟨Y.mP,Y.oR,Y.sY,Y.rq,Y.rr,Y.sZ,Y.rs,Y.rt,Y.ru,Y.rv,Y.rx,Y.s1,Y.s2,Y.m⟩,ae,ba,u.ry 3 c c.2.2.2.1 X.aG rfl⟩⟩
def bE.aaf(X:bE A C Q r as v)(u:hL C (Q.q+5) (.list dn) S):bE A S Q {r with dn:=dn} as v:=⟨X.cf,X.aG,X.d9 λR F G Y ae ba c=>⟨R,F,G,⟨Y.mP,Y.oR,Y.sY,Y.rq,Y.rr,Y.sZ,Y.rs,Y.rt,Y.ru,Y.rv,Y.rx,Y.s1,Y.s2,Y.m⟩,ae,ba,u.ry 4 c c.2.2.2.2.1 X.aG rfl⟩⟩
def bE.GW(X:bE A C Q r as v){ns:List I}(u:hL C (Q.q+7) (.list ns) S):bE A S Q {r with ns:=ns} as v:=⟨X.cf,X.aG,X.d9 λR F G Y ae ba c=>⟨R,F,G,⟨Y.mP,Y.oR,Y.sY,Y.rq,Y.rr,Y.sZ,Y.rs,Y.rt,Y.ru,Y.rv,Y.rx,Y.s1,Y.s2,Y.m⟩,ae,ba,u.ry 6 c c.2.2.2.2.2.2.1 X.aG rfl⟩⟩
def bE.GX(X:bE A C Q r as v)(hm:dw 3 f=none){n:Nat}{s:Str}(h:∀R,uY A Q r v R->uY A Q {r with dl:=n,miss:=s} kq (ar R f x))(k:∀S,kj dw C f x (.L Q.q)=some S->bw C S [Q.q]->bE A S Q {r with dl:=n,miss:=s} as kq->P):P:=
 X.d9 λR F G Y ae ba c=>have u:hL C Q.q (.cR 3<|ar R f x) (C.set Q.q<|.cR 3<|ar R f x):=rfl
  k _ (wa c.1 (X.pos 0 rfl) hm) u.bU ⟨X.cf,X.aG,_,F,G,h R Y,ae,ba,u.ry 0 c c.1 X.aG rfl⟩
def bE.Oy(X:bE A C Q r as v)(n:Nat)(k:∀S,kj dw C 15 (J n) (.L Q.q)=some S->bw C S [Q.q]->bE A S Q {r with dl:=n} as v->P):P:=X.GX (f:=15) (x:=J n) rfl (s:=r.miss) (λR h=>⟨h.mP,h.oR,rfl,h.rq,h.rr,h.sZ,h.rs,h.rt,h.ru,h.rv,h.rx,h.s1,h.s2,h.m⟩) k
def bE.aag(X:bE A C Q r as v)(s:Str)(k:∀S,kj dw C 29 (.str s) (.L Q.q)=some S->bw C S [Q.q]->bE A S Q {r with miss:=s} as v->P):P:=X.GX (f:=29) (x:=.str s) (kq:=v) rfl (n:=r.dl) (s:=s) (λR h=>⟨h.mP,h.oR,h.sY,h.rq,h.rr,rfl,h.rs,h.rt,h.ru,h.rv,h.rx,h.s1,h.s2,h.m⟩) k
def bE.aah(X:bE A C Q r as v)(kq:I)(k:∀S,kj dw C 55 kq (.L Q.q)=some S->bw C S [Q.q]->bE A S Q r as kq->P):P:=X.GX (f:=55) (x:=kq) rfl (n:=r.dl) (s:=r.miss) (λR h=>⟨h.mP,h.oR,h.sY,h.rq,h.rr,h.sZ,h.rs,h.rt,h.ru,h.rv,h.rx,h.s1,rfl,h.m⟩) k
def aai{α:Type}{a:α}{l:List α}:∀{i:Nat},l.Nodup->a∉l->(l.set i a).Nodup:=by
 induction l with
 |nil=>exactλh B=>h
 |cons x l ay=>exactλ{i} h n=>by cases i with
  |zero=>exact oS ⟨λq=>n<|bQ _ q,(hH h).2⟩
  |succ i=>exact oS ⟨λq=>(List.mem_or_eq_of_mem_set q).elim (hH h).1 λe=>n<|e▸bo,ay (hH h).2 λq=>n<|bQ _ q⟩
def bE.aaj(X:bE A C Q r as v)(k:∀S,kj dw (C++[.list []]) 54 (.L C.length) (.L Q.q)=some S->bw C S [Q.q]->bE A S {Q with dY:=C.length} {r with tr:=[]} as v->P):P:=
 (X.push [.list []]).d9 λR F G h ae ba c=>by
  have u:hL (C++[b3.list []]) Q.q (.cR 3<|ar R 54<|.L C.length) ((C++[b3.list []]).set Q.q<|.cR 3<|ar R 54<|.L C.length):=rfl;have bK:=u.ry 0 c c.1 X.aG rfl;have bu:∀a∈Q.all,a≠C.length:=λa h=>dU<|X.lt h;exact k _ (wa c.1 (X.pos 0 rfl) rfl) ((bw.push C _ _).trans u.bU) ⟨λa (h:a∈Q.all.set 3 C.length)=>(List.mem_or_eq_of_mem_set h).elim (X.cf a) λe=>e▸ea (X.gt 0 rfl) (X.lt bo),aai (i:=3) X.aG λq=>bu _ q rfl,
   ar R 54 (.L C.length),F,G,⟨h.mP,h.oR,h.sY,h.rq,h.rr,h.sZ,h.rs,h.rt,h.ru,h.rv,h.rx,rfl,h.s2,h.m⟩,ae,ba,bK.1,bK.2.1,bK.2.2.1,u.get d8 (bu _ bo).symm,bK.2.2.2.2⟩
end
end
section
def uZ{a b:Nat×Nat}(h:ce a=ce b):a=b:=h2 (I.ak.inj h) λY h=>h2 h λae B=>Prod.ext (Fm Y)<|Fm ae
section
variable{k:Nat×Nat}{tr a b:List (Nat×Nat)}
def wT:e3 (js tr) (ce k)=true:=dI rfl<|nt.mpr λp ab=>(e4 ab).elim λq h=>h.2▸rfl
def GY(h:k∉tr):cE (js tr) (ce k)=none:=ai (Option.map Prod.snd) (List.find?_eq_none.mpr λx ac e=>(e4 ac).elim λq aC=>have c:ce q=x.1:=ai Prod.fst aC.2;h<|(uZ (c.trans<|dx e):q=k)▸aC.1)
def GZ(h:k∈tr):cE (js tr) (ce k)=some (J 1):=by
 delta cE;cases hf:(js tr).find? λp=>decide (p.1=ce k)with
 |none=>exact absurd (ck rfl)<|List.find?_eq_none.mp hf _<|nQ h
 |some p=>exact(e4<|List.mem_of_find?_eq_some hf).elim λq aC=>aC.2▸rfl
def Oz(h:k∉tr):fB (js tr) (ce k) (J 1)=js (tr++[k]):=by delta fB;exact V (GY h) (iI (f:=λk=>(ce k,J 1)) (l₁:=tr) (l₂:=[k])).symm
def OA(Y:k∉a)(ae:k∉b):mE (js (a++k::b)) (ce k)=js (a++b):=by have e:∀{l:List (Nat×Nat)},k∉l->(js l).filter (λp=>decide<|p.1≠ce k)=js l:=λh=>List.filter_eq_self.mpr λp ab=>(e4 ab).elim λq aC=>ck λc=>h<|uZ ((ai Prod.fst aC.2).trans c)▸aC.1;have c:(js (k::b)).filter (λp=>decide<|p.1≠ce k)=js b:=(vv (p:=λp:I×I=>decide<|p.1≠ce k) λq=>dx q rfl).trans<|e ae;exact(ai (List.filter λp=>decide<|p.1≠ce k)<|iI (f:=λk=>(ce k,J 1)) (l₁:=a) (l₂:=k::b)).trans ((List.filter_append _ _).trans ((congr (ai (·++·)<|e Y) c).trans iI.symm))
noncomputable def s8(clean:Bool)(dO:List (Nat×Nat))(bz:List (I×I)):List (I×I):=if clean then dO.foldl (λbz k=>fB bz (ce k)<|.bool true) bz else bz
def jt(bz:List (I×I)):Prop:=∀p∈bz,nf p.1=2
def jt.ok(h:jt bz):e3 bz (ce k)=true:=dI rfl<|nt.mpr λp ab=>V (h p ab) rfl
def OB{k:I}{p:I×I}(h:p∈fB bz k v):p∈bz\/p=(k,v):=by
 delta fB at h;by_cases c:(cE bz k).isSome=true
 ·rw[bh c]at h;refine(e4 h).elim λq aC=> ?_;by_cases e:q.1=k
  ·exact .inr<|br aC.2<|(bh e).trans<|e▸rfl
  ·exact .inl<|((bH e).symm.trans aC.2)▸aC.1
 ·rw[bH c]at h;exact(gb h).imp id bR
def jt.set(h:jt bz):jt (fB bz (ce k) v):=λp ab=>(OB ab).elim (h p) λe=>e▸rfl
def aak{k:I}:(fB bz k v).length<=bz.length+1:=by
 delta fB;by_cases c:(cE bz k).isSome=true
 ·exact V (bh c)<|a3 (cM<|c2 _)<|jZ _
 ·exact V (bH c)<|cM eo
end
section
variable{Q:fo}{r:eK}{tr:List (Nat×Nat)}{w:I}{n fH du o:Nat}{D:List (I×I)}{clean:Bool}
def G0(h:C[o]? =some (.list<|l++[x]))(h0:o≠0)(k:∀S,mF o 1 [] C=some (x,S)->hL C o (.list l) S->R):R:=k _ ((Xa h h0 List.getLast?_concat).trans<|by rw[List.dropLast_concat]) rfl
def OC(h:C[o]? =some (.dict D))(h0:o≠0)(an:e3 D x)(bA:cE D x=some w)(k:∀S,vk C x (.L o)=some S->hL C o (.dict<|mE D x) S->R):R:=k _ (Xc h h0 an bA) rfl
def OD{c:Int}(X:bE A C Q r as v)(ao:r.ns.length<16000000)(aq:∀S n,a0 a2 (d+2) 31 [.L Q.q,.int c] C=some (.none,S)->bE A S Q {r with ns:=n} as v->bw C S [Q.q+7]->(n=r.ns\/∃x,n=r.ns++[x])->R):R:=by
 cases h:r.n0 with
 |true=>exact X.d9 λB F B B hR B fN=>uo (v:=.ak [.int c,J 0]) X.mv (X.pos 6 rfl) ao λS aU u=>aq S _ (go λk=>k _ (dH X.GS<|ai I.bool h) _ X.qh _ (hM fN.2.2.2.2.2.1 hR.2.1 rfl) _ X.aae _ _<|go λk=>k _ X.qi _ (lH X.mv) _ _<|lI X.mv aU) (X.GW u) u.bU<|.inr ⟨_,rfl⟩
 |false=>exact aq C r.ns (go λk=>k _<|dH X.GS<|ai I.bool h) X (.refl _ _)<|.inl rfl
def OE(X:bE A C Q r as v):a0 a2 (d+1) 33 [.L Q.q] C=some (.ak [J r.ns.length,J r.tr.length],C):=go λk=>k _ X.qh _ X.qi _ _ (oU X.mv) _ X.s7 _ _<|nJ X.dY
def OF(X:bE A C Q r as v):a0 a2 (d+1) 43 [.L Q.q] C=some (.bool<|r.n0&&decide (r.aM=1),C):=by
 have aP:=X.GS;cases h:r.n0 with
 |false=>rw[h]at aP;exact go λk=>k _ aP
 |true=>rw[h]at aP;exact go λk=>k _ aP _ X.d5 _<|o6 (b:=1)
def aal(h0:H 0=some (.L Q.q))(Y:H 1=some (.ak [J fH,J du]))(m:Nat):∀{fuel:Nat} {C:St} {tr:List (Nat×Nat)},bE A C Q {r with tr:=tr} tr v->tr.Nodup->tr.length=du+m->m<fuel->
  (∀S,kR (λH s=>jf (bk d) (.aK .gt (.cx .len<|.aZ (.E 0) 54)<|.av (.E 1)<|U 1) H s) (λH s=>cG (bk d) [.delItem (.aZ (.E 0) 6)<|.b1 (.aZ (.E 0) 54) 1 []] H s) fuel H C=some (.next,H,S)->bE A S Q {r with tr:=tr.take du} (tr.take du) v->bw C S [Q.q+2,Q.dY]->R)->R:=by
 induction m with
 |zero=>
  intro fuel C tr X aG ao hf aq;cases fuel with
  |zero=>exact absurd hf<|t7 _
  |succ fuel=>rw[List.take_of_length_le (show tr.length<=du from cM ao)]at aq;exact aq C (Gi<|Fj λk=>k _ h0 _ X.s7 _ _ (nJ X.dY) _ Y _ (b0 (i:=1) rfl) _<|k8<|cp<|Int.not_lt.mpr<|Int.ofNat_le.mpr<|cM ao) X<|.refl _ _
 |succ m ay=>
  intro fuel C tr X aG ao hf aq;cases fuel with
  |zero=>exact absurd hf<|t7 _
  |succ fuel=>
   rcases List.eq_nil_or_concat tr with e|⟨rB,k,e⟩
   ·subst e;exact nomatch ao
   ·have e:tr=rB++[k]:=e.trans List.concat_eq_append;subst e;have Cj:k∉rB:=λq=>(kU.mp aG).2.2 k q k (qH k) rfl;have li:rB.length=du+m:=nl<|br eo ao;have aP:=X.dY.trans<|ai (λl=>some<|b3.list l)<|iI (f:=ce) (l₁:=rB) (l₂:=[k]);refine G0 aP (X.pos 3 rfl) λax ab u=> ?_;have dC:bE A ax Q {r with tr:=rB} (rB++[k]) v:=X.GV u;refine OC dC.wS (X.pos 1 rfl) wT (GZ<|i0 _<|qH k) λbq bC w=> ?_;have fm:bE A bq Q {r with tr:=rB} rB v:=dC.Ci<|eF ((OA Cj b5).trans<|ai js<|ew rB) w;refine ay fm (aG.sublist<|List.sublist_append_left _ _) li (Nat.lt_of_succ_lt_succ hf) λS c ii f=> ?_;rw[List.take_append_of_le_length (k3<|cM li.symm)]at aq;exact aq S (Nv (Fj λk=>k _ h0 _ X.s7 _ _ (nJ X.dY) _ Y _ (b0 (i:=1) rfl) _<|k8<|ck<|hd<|ao▸nw (pF m))
     (eJ λk=>k _ h0 _ X.rz _ h0 _ X.s7 _ (lH X.dY) _ _ (lI X.dY ab) _ bC) c) ii (((u.bU.cj λB=>bQ _).trans (w.bU.cj λB h=>bR h▸bo)).trans f)
def OG(X:bE A C Q r r.tr v)(aG:r.tr.Nodup)(h0:fH<=r.ns.length)(Y:du<=r.tr.length)(aj:r.tr.length<16000000)(aq:∀S,a0 a2 (d+1) 38 [.L Q.q,.ak [J fH,J du]] C=some (.none,S)->bE A S Q {r with tr:=r.tr.take du,ns:=r.ns.take fH} (r.tr.take du) v->bw C S [Q.q+2,Q.dY,Q.q+7]->R):R:=by have u:hL C (Q.q+7) (.list<|r.ns.take fH) (C.set (Q.q+7)<|.list<|r.ns.take fH):=rfl;refine aal (d:=d) (fH:=fH) (du:=du) (r:={r with ns:=r.ns.take fH}) (H:=cm [.L Q.q,.ak [J fH,J du]]) rfl rfl (r.tr.length-du) (fuel:=zC) (tr:=r.tr) (X.GW u) aG (Nat.add_sub_of_le Y).symm (c1 (Nat.sub_le _ _) aj) λS c ii f=> ?_;exact aq S (go λk=>k _ X.qh _ X.qi _ (b0 (i:=0) rfl) _ (Xd X.mv (X.pos 6 rfl) h0) _ _ _ c) ii<|(u.bU.cj λB h=>bQ _<|bQ _ h).trans<|f.cj λB h=>(cS h).elim (λe=>e▸bo) λh=>bQ _<|bR h▸bo
def aam(dO:List (Nat×Nat)):∀{C:St} {bz:List (I×I)} {H:bT},bE A C Q {r with bz:=bz} dO v->dO.Nodup->jt bz->bz.length+dO.length<16000000->H 0=some (.L Q.q)->H 1=some (.bool clean)->
  (∀aT S,fX (λs=>hc s (some Q.dY)<|r.tr.map ce) (λx H s=>(gC (.aR 2) x H).bind λci=>cG (bk d) [.delItem (.aZ (.E 0) 6)<|.E 2,.ite (.E 1) [.setItem (.aZ (.E 0) 25) (.E 2)<|.bc<|.bool true] []] ci s) (dO.map ce) H C=some (.next,aT,S)->aT 0=some (.L Q.q)->bE A S Q {r with bz:=s8 clean dO bz} [] v->bw C S [Q.q+2,Q.q+3]->R)->R:=by
 induction dO with
 |nil=>exactλX B B B h0 B aq=>aq _ _ (v9<|iw X.dY) h0 (by cases clean<;>exact X)<|.refl _ _
 |cons k dO ay=>
  intro C bz H X aG an ao h0 Y aq;have aG:=hH aG;refine OC X.wS (X.pos 1 rfl) wT (GZ bo) λax bC u=> ?_;have dC:bE A ax Q {r with bz:=bz} dO v:=X.Ci<|eF (OA (a:=[]) b5 aG.1:mE (js (k::dO)) (ce k)=js dO) u;have f1:bw C ax [Q.q+2,Q.q+3]:=u.bU.cj λB h=>bR h▸bo;have aJ:hc C (some Q.dY) (r.tr.map ce)=true:=iw X.dY;cases clean with
  |false=>exact ay (H:=ar H 2<|ce k) dC aG.2 an (c1 (hA (jZ _) _) ao) h0 Y λaT S c q ii f=>aq aT S (eT aJ (eJ λr=>r _ h0 _ X.rz _ rfl _ bC _ Y) c) q ii<|f1.trans f
  |true=>refine oV (k:=ce k) (v:=.bool true) dC.zc (X.pos 2 rfl) an.ok (c1 (cT _ _) ao) λbq BN w=>ay (H:=ar H 2<|ce k) (bz:=fB bz (ce k)<|.bool true) (dC.Ox w) aG.2 an.set (c1 (fl aak _) (show bz.length+1+dO.length<16000000 by rw[iZ,m8 1];exact ao)) h0 Y λaT S c q ii f=> ?_;exact aq aT S (eT aJ (eJ λr=>r _ h0 _ X.rz _ rfl _ bC _ Y _ h0 _ dC.rA _ rfl _ BN) c) q ii<|(f1.trans<|w.bU.cj λB=>bQ _).trans f
def aan(X:bE A C Q r r.tr v)(aG:r.tr.Nodup)(an:jt r.bz)(ao:r.bz.length+r.tr.length<16000000)(aq:∀S n,a0 a2 (d+1) 42 [.L Q.q,.bool clean] C=some (.none,S)->bE A S {Q with dY:=n} {r with tr:=[],bz:=s8 clean r.tr r.bz} [] v->bw C S [Q.q+2,Q.q+3,Q.q]->C.length<=n->R):R:=
 aam (d:=d) (clean:=clean) (r:=r) r.tr (H:=cm [.L Q.q,.bool clean]) X aG an ao rfl rfl λaT ax c q dC f=>dC.aaj λS aJ f2 fm=>aq S ax.length (p1 λk=>k _ _ _ (wg (jj λk=>k _ X.s7) (lN X.dY) c) _ q _ aJ) fm
  ((f.cj λB h=>(cS h).elim (λe=>e▸bo) λh=>bQ _<|bR h▸bo).trans<|f2.cj λB h=>bQ _<|bQ _ h) f.len
def OH{z:I×St}(X:bE A C Q r as v)(h:a0 a2 d 96 [.L Q.rule,.L Q.q,x,y] C=some z):a0 a2 (d+1) 35 [.L Q.q,.int 5,x,y] C=some z:=X.d9 λB B G B B qj c=>go λk=>k _ X.GR _ (Fk X.gI) _ _ (Fl X.gI<|Ms X.gI rfl) _ rfl _ (hM c.2.2.2.2.2.2.2.2.1 qj rfl) _ _ h
end
end
section
def Ck(dn:List I):Prop:=∀x∈dn,∃a b y,x=.ak (J a::J b::y)/\(0<a->b=15+a)
noncomputable def lU(ps:List ed)(nm:Str):Option ed:=ps.find? λp=>decide<|p.name=nm
noncomputable def wU(ps:List ed):Bool:= !ps.isEmpty&&ps.all λp=>gj p.b2
noncomputable def s9(T:List af)(s:Nat)(eR dN:List ed):Bool:=wU dN&& !rd T s&&dN.all λp=>(lU eR p.name).isNone
section
variable{Q:fo}{r:eK}{iA au n:Nat}{T:List af}{a b:af}{cF:List I}
def aao(aJ:hc C iv cF)(dn:List I):∀{H:bT} {last:Int} {count:Nat},Ck dn->H 1=some (J 0)->H 2=some (J iA)->H 4=some (.int last)->H 5=some (J count)->(0<iA->count=0\/last=(15+iA:Nat)/\count=1)->
  (∀aT OI,fX (λs=>hc s iv cF) (λx H s=>(gC (.aR 6) x H).bind λci=>cG (bk d) [
  .ite (.and (.aK .eq (.av (.E 6)<|.E 1)<|.E 2)<|.aK .gt (.av (.E 6)<|.b8 .add (.E 1)<|U 1)<|.E 4) [
   .assign (.aR 4) (.av (.E 6)<|.b8 .add (.E 1)<|U 1),
   .tw 5 .add (U 1)] []] ci s) dn H C=some (.next,aT,C)->aT 2=some (J iA)->aT 5=some (J OI)->(0<iA->OI<=1)->R)->R:=by
 induction dn with
 |nil=>exactλB B ae B dF ab aq=>aq _ _ (v9 aJ) ae dF λh=>(ab h).elim (λe=>e▸jA _) λe=>cM e.2
 |cons x dn ay=>
  intro H last count aH Y ae cq dF ab aq;have mO:=λy (h:y∈dn)=>aH y<|bQ _ h;refine(aH x bo).elim λu q=>q.elim λw q=>q.elim λy z=> ?_;obtain⟨e,aap⟩:=z;subst e;by_cases bD:u=iA
  ·by_cases aS:last<(w:Int)
   ·refine ay (H:=ar (ar (ar H 6<|.ak (J u::J w::y)) 4<|J w) 5<|J<|count+1) (last:=w) (count:=count+1) mO Y ae rfl rfl (λh=> ?_) λaT bK e=>aq aT bK<|eT aJ (eJ λk=>k _ rfl _ Y _ (b0 (i:=0) rfl) _ ae _ (cY bD) _ rfl _ Y _ _ rfl _ (b0 (i:=1) rfl) _ cq _ (k8<|ck aS) _ rfl _ Y _ _ rfl _ (b0 (i:=1) rfl) _ _ _<|bB dF rfl) e;have OJ:w=15+iA:=bD▸aap (bD▸h);exact .inr ⟨ai (λn:Nat=>(n:Int)) OJ,(ab h).elim (λe=>e▸rfl) λe=>absurd (e.1▸OJ▸aS)<|Int.lt_irrefl _⟩
   ·exact ay (H:=ar H 6<|.ak (J u::J w::y)) mO Y ae cq dF ab λaT bK e=>aq aT bK<|eT aJ (eJ λk=>k _ rfl _ Y _ (b0 (i:=0) rfl) _ ae _ (cY bD) _ rfl _ Y _ _ rfl _ (b0 (i:=1) rfl) _ cq _<|k8<|cp aS) e
  ·exact ay (H:=ar H 6<|.ak (J u::J w::y)) mO Y ae cq dF ab λaT bK e=>aq aT bK<|eT aJ (eJ λk=>k _ rfl _ Y _ (b0 (i:=0) rfl) _ ae _<|bN bD) e
def OK(X:bE A C Q r as v)(G1:dX C A T a1)(aH:Ck r.dn)(ao:r.dn.length<24)(aJ:T[s]? =some a):a0 a2 (d+2) 79 [.L Q.q,J s,J t] C=some (.bool false,C):=by
 refine aao (d:=d) (iA:=mh a) (iw X.g9) r.dn (H:=ar (ar (cm [.L<|Q.q+5,J 0,J<|mh a,J s]) 4<|.int<|-1) 5<|J 0) (count:=0) aH rfl rfl rfl rfl (λB=>.inl rfl) λaT bK e ae dF ag=> ?_;have aV:a0 a2 (d+1) 78 [.L<|Q.q+5,J 0,J<|mh a,J s] C=some (.bool false,C):=by
  by_cases h:0<mh a
  ·exact p1 λk=>k _ _ _ (wg (fJ rfl) (lN X.g9) e) _ ae _ (k8<|ck<|hd h) _ dF _ (ka<|cp<|pD.mpr<|hd<|c1 (ag h) (by decide:1<3))
  ·exact p1 λk=>k _ _ _ (wg (fJ rfl) (lN X.g9) e) _ ae _<|k8<|cp λq=>h<|qG.mp q
 exact go λk=>k _ X.s6 _ _ (oU X.g9) _ (ka<|cp<|pD.mpr<|hd ao) _ X.c5 _ G1.cz _ G1.cJ _ X.s6 _ (G1.row aJ) _ _ wr _ _ aV
def dX.n1(X:dX C A T a1):mT dw C 48 (.L A.co)=some (some 68):=X.co.elim λB h=>hM h.1 h.2.2.2.1 rfl
def dX.aaq(X:dX C A T a1):mT dw C 20 (.L A.co)=some (some 64):=X.co.elim λB h=>hM h.1 h.2.2.1 rfl
def dX.same(X:dX C A T a1)(f:bw C S []):dX S A T a1:=X.keep f λB B B=>b5
def mj.G2(a9:mj T a1 s a eR)(X:dX C A T a1)(hn:e9 nm):a0 a2 (d+3) 70 [.L A.co,J s,.str nm] C=some (yp<|lU eR nm,C):=a9.d4.elim λu h=>h.elim λf h=>XX X a9.row h.1 h.2 hn a9.names
def aar(X:dX C A T a1)(a9:mj T a1 s a eR)(Cl:mj T a1 t b dN)(aj:b.kind=8\/b.kind=9)(aq:∀S,a0 a2 (d+4) 76 [.L A.co,J s,J t] C=some (.bool<|s9 T s eR dN,S)->bw C S []->R):R:=
 a9.d4.elim λu h=>h.elim λf h=>Cl.d4.elim λDl aO=>aO.elim λlR aO=>X3 (d:=d) X Cl.row aj aO.1 aO.2 Cl.names λax bG bn=>by
  have dC:=X.same bn;have rS:=X4 (d:=d) dC a9.row (u:=u) (ps:=eR) (f:=f) (λan=>⟨h.1,h.2,a9.cF an,a9.names⟩) a9.M4;have bG:a0 a2 (d+3) 75 [.L A.co,J t] C=some (.bool<|wU dN,ax):=bG;delta s9 at aq;cases hw:wU dN with
  |false=>rw[hw]at bG aq;exact aq ax (go λr=>r _ _ bG) bn
  |true=>
   rw[hw]at bG aq;cases hn:rd T s with
   |true=>rw[hn]at rS aq;exact aq ax (go λr=>r _ _ bG _ _ rS) bn
   |false=>
    rw[hn]at rS aq;have ag:=yr (b6:=cn) (C:=ax) (O:=bk<|d+3) (H:=ar (cm [.L A.co,J s,J t]) 3 (af.obj dN lR).b6) (i:=7) (elt:=.aK .is (.a5 70 [(.E 0),(.E 1),(.av (.E 7)<|U 0)])<|.bc<|.none) (cg:=.av (.E 3)<|U 1) (xs:=dN) (g:=λp=>.bool (lU eR p.name).isNone)
     (jj λk=>k _<|b0 (i:=1) rfl) λq aC=>jj λk=>k _ (b0 (i:=0) rfl) _ _ (a9.G2 (d:=d) dC<|Cl.names q aC) _ (by cases lU eR q.name<;>rfl)
    have e:(dN.map λp=>(lU eR p.name).isNone).all id=dN.all λp=>(lU eR p.name).isNone:=List.all_map;exact aq _ (go λr=>r _ _ bG _ _ rS _ dC.cz _ dC.cJ _ dC.n1 _ _ (rc (d:=d+1) dC aO.1) _ (dC.row aO.2) _ _ ag _ _<|e▸FN (d8.trans<|ai (λl=>some<|b3.list l) jB.symm))<|bn.trans<|bw.push _ _ _
def bw.rP(f:bw C ax [])(g:bw ax bq ms)(h:∀a∈ms,C.length<=a):bw C bq []:=⟨a3 f.len g.len,λa aU B=>(g.same a (c7 aU f.len) λq=>lu (h a q) aU).trans<|f.same a aU b5⟩
def aas{c:b4}{body:List dB}(h:jf O c H C=some (true,ax))(aj:cG O body H ax=some (.next,dr,bq))(ae:jf O c dr bq=some (false,cB)):cw O (.pr c body) H C=some (.next,dr,cB):=by show kR _ _ (15999998+1+1) _ _=_;exact Nv h aj<|Gi ae
def aat{c:b4}{body:List dB}(h:jf O c H C=some (true,ax))(aj:cG O body H ax=some (.ret v,dr,bq)):cw O (.pr c body) H C=some (.ret v,dr,bq):=by show kR _ _ (15999999+1) _ _=_;exact YX h aj
def aau(X:dX C A T a1)(Y:0<iA)(ba:iA<=3)(aq:∀S,a0 a2 (d+1) 72 [.L A.co,J iA,J au] C=some (.bool<|decide<|iA=au,S)->bw C S []->R):R:=by
 have f2:=(bw.push C [.dict []] []).trans<|bw.push _ [.list [J iA]] [];have nX:0<C.length:=ea X.eC.1<|X.jH.elim λB h=>fc h.1;have hn:(C++[b3.dict []]).length=C.length+1:=eo;have rP:(C++[b3.dict []]).length≠0:=hn▸qx _;have bu:C.length≠(C++[b3.dict []]).length:=hn▸dU (oW _);have hw:(C++[b3.dict []]++[b3.list<|[]++[J iA]])[(C++[b3.dict []]).length]? =some (.list<|[]++[J iA]):=d8;have bC:(C++[b3.dict []]++[b3.list [J iA]])[C.length]? =some (.dict<|gH []):=(bw.push (C++[b3.dict []]) _ []).get d8 b5;have ge:∀a∈[C.length,(C++[b3.dict []]).length],C.length<=a:=λa h=>(cS h).elim (λe=>e▸gF _) λh=>bR h▸hn▸jZ _;refine G0 hw rP λcB ab u=> ?_;have hk:=u.bU.cj (ns:=[C.length,(C++[b3.dict []]).length]) λB=>bQ _;by_cases aj:iA=au
 ·rw[ck aj]at aq;exact aq cB (go λk=>k _ _ _<|aat (Bc λk=>k _<|uw hw)<|ho λk=>k _ (lH hw) _ _ (lI hw ab) _<|cY aj)<|f2.rP hk ge
 ·rw[cp aj]at aq;have OL:=u.get bC bu;have aav:=u.i6 hw;refine oV (k:=J iA) (v:=.int 1) OL (dd nX) Fs (by decide) λfD aJ w=> ?_;have Cm:=w.get aav bu.symm;have f4:=hk.trans<|w.bU.cj (ns:=[C.length,(C++[b3.dict []]).length]) λB h=>bR h▸bo;have f6:=X.same<|f2.rP f4 ge;have OM:=(bw.push fD [b3.list []] []).get Cm b5;have x:=Mf OM rP (d8 (C:=fD) (o:=.list [])) (dU<|fc Cm) (by decide);have y:hL (fD++[b3.list []]) (C++[b3.dict []]).length (.list []) ((fD++[b3.list []]).set (C++[b3.dict []]).length<|.list<|[]++[]):=rfl;have gk:∃F,fD[A.fw (iA-1)]? =some (.cR 2 F)/\F 9=some (.ak []):=(f6.kz (iA-1)<|c7 (Nat.sub_lt Y<|by decide) ba).imp λF h=>⟨h.1,h.2.2.1⟩;exact gk.elim λF h=>aq _ (go λk=>k _ _ _<|aas (Bc λk=>k _<|uw hw) (ho λk=>k _ (lH hw) _ _ (lI hw ab) _ (bN aj) _ (kb (b:=0)<|dd Y) _ (o0<|sz OL) _ aJ _ (lH Cm) _ _ (ra (l:=[]) (iv:=none) (jj λk=>k _ f6.cz _ f6.A7 _ (f6.FH Y ba) _<|ky h.1 rfl h.2) rfl rfl) _ _<|lI Cm x)<|Bc λk=>k _<|uw<|y.i6 OM)<|f2.rP ((f4.trans<|bw.push fD [.list []] _).trans<|y.bU.cj λB=>bQ _) ge
end
end
section
open PySem.Builtin (bitAnd bitOr)
structure Cn(p q:ed):Prop where
 aaw:bitAnd (p.b2:Int) 24=bitAnd (q.b2:Int) 24
 own:p.dG=q.dG
 rf:ij p.b2=ij q.b2
 aax:gj p.b2=gj q.b2
noncomputable def ON(i:Nat):dB:=Id.body.getD i .fA
noncomputable def OO(i:Nat):dB:=Ie.body.getD i .fA
section
variable{Q:fo}{r:eK}{n f:Nat}{T:List af}{a b:af}{w:Bool}
def eZ:fq C (cn p) (.int 2)=some (J p.b2):=b0 (i:=2) rfl
def hB:fq C (cn p) (.int 3)=some (J p.dG):=b0 (i:=3) rfl
def nX:fq C (cn p) (.int 0)=some (.str p.name):=b0 (i:=0) rfl
def ta(h:gj f=w):eh C .eq (.int<|bitAnd (f:Int) 1) (.int 0)=some (!w):=gY (h▸((ai (!·) decide_not).trans<|Bool.not_not _).symm)
def aay(X:dX C A T a1)(aJ:T[s]? =some a)(aA:p.dG<=3)(bC:mh a<=3)(aq:∀b S,a0 a2 (d+2) 89 [.L A.co,J s,cn p,cn q] C=some (.bool b,S)->bw C S []->(Cn p q->b)->R):R:=by
 by_cases Y:bitAnd (p.b2:Int) 24=bitAnd (q.b2:Int) 24/\p.dG=q.dG
 ·exact aq true C (go λk=>k _ _ rfl _ eZ _ _ (di _ _ _) _ eZ _ _ (di _ _ _) _ (gY<|ck Y.1) _ hB _ hB _<|cY Y.2) (.refl _ _) λB=>rfl
 have Co:∀{b:Bool},Cn p q->b:=λh=>absurd ⟨h.aaw,h.own⟩ Y;have bF:cw (bk<|d+1) (ON 1) (ar (cm [.L A.co,J s,cn p,cn q]) 4<|.int 24) C=some (.next,ar (cm [.L A.co,J s,cn p,cn q]) 4<|.int 24,C):=by
  by_cases ae:bitAnd (p.b2:Int) 24=bitAnd (q.b2:Int) 24
  ·exact dk λr=>r _ eZ _ _ (di _ _ _) _ eZ _ _ (di _ _ _) _ (gY<|ck ae) _ hB _ hB _<|bN λq=>Y ⟨ae,q⟩
  ·exact dk λr=>r _ eZ _ _ (di _ _ _) _ eZ _ _ (di _ _ _) _<|gY<|cp ae
 by_cases dF:bitAnd (q.b2:Int) 16=0
 ·exact aq false C (gi [false,true] λk=>k _ _ rfl _ _ _ bF _ eZ _ _ (di _ _ _) _<|gY<|ck dF) (.refl _ _) Co
 by_cases t6:bitAnd (p.b2:Int) 8≠0
 ·exact aq false C (gi [false,true] λk=>k _ _ rfl _ _ _ bF _ eZ _ _ (di _ _ _) _ (gY<|cp dF) _ eZ _ _ (di _ _ _) _<|kA<|ck t6) (.refl _ _) Co
 have fin:∀u0:Nat,u0<=3->cw (bk<|d+1) (ON 3) (ar (cm [.L A.co,J s,cn p,cn q]) 4<|.int 24) C=some (.next,ar (ar (cm [.L A.co,J s,cn p,cn q]) 4<|.int 24) 5<|J u0,C)->R:=λu0 hle s4=>by
  by_cases h0:0<u0
  ·exact aau (d:=d) (au:=q.dG) X h0 hle λS fF hu=>aq _ S (gi [false,true,false,true] λk=>k _ _ rfl _ _ _ bF _ eZ _ _ (di _ _ _) _ (gY<|cp dF) _ eZ _ _ (di _ _ _) _ (kA<|cp t6) _ _ _ s4 _ (lG<|ck<|hd h0) _ X.cz _ X.A7 _ _ (oU X.sr) _ (lG<|ck<|hd<|pG hle) _ hB _ _ fF) hu Co
  ·exact aq false C (gi [false,true,false,true] λk=>k _ _ rfl _ _ _ bF _ eZ _ _ (di _ _ _) _ (gY<|cp dF) _ eZ _ _ (di _ _ _) _ (kA<|cp t6) _ _ _ s4 _<|lG<|cp λq=>h0<|qG.mp q) (.refl _ _) Co
 by_cases se:0<p.dG
 ·exact fin _ aA<|dk λr=>r _ hB _ (k8<|ck<|hd se) _ hB
 ·exact fin _ bC<|dk λr=>r _ hB _ (k8<|cp λq=>se<|qG.mp q) _ X.cz _ X.cJ _ (X.row aJ) _ _ wr
def aaz(iB:bE A C Q r as v)(X:dX C A T a1)(aJ:T[s]? =some a)(aA:p.dG<=3)(bC:mh a<=3)(aq:∀b S,a0 a2 (d+3) 90 [.L Q.q,J s,cn p,cn q] C=some (.bool b,S)->bw C S []->(Cn p q->b)->R):R:=by
 have fin:∀{bq:St},cw (bk<|d+2) (OO 0) (cm [.L Q.q,J s,cn p,cn q]) C=some (.next,cm [.L Q.q,J s,cn p,cn q],bq)->bw C bq []->R:=λ{bq} g0 f1=>by
  have u1:=iB.keep f1 λB B=>b5;have bi:=sF (d:=d+1) (C:=bq) (p:=p);have bg:=sF (d:=d+1) (C:=bq) (p:=q);by_cases h:r.aM=4/\ij p.b2/\ij q.b2=false
  ·exact aq false bq (gi [true] λk=>k _ _ _ g0 _ u1.d5 _ (cY (b:=4) h.1) _ _ (gX bi h.2.1) _ _<|gX bg h.2.2) f1 λdp=>b7<|br h.2.2<|br dp.rf h.2.1
  ·have jb:cw (bk<|d+2) (OO 1) (cm [.L Q.q,J s,cn p,cn q]) bq=some (.next,cm [.L Q.q,J s,cn p,cn q],bq):=by
    by_cases cq:r.aM=4
    ·cases ab:ij p.b2 with
     |false=>exact dk λk=>k _ u1.d5 _ (cY (b:=4) cq) _ _<|gX bi ab
     |true=>cases aC:ij q.b2 with
      |false=>exact absurd ⟨cq,ab,aC⟩ h
      |true=>exact dk λk=>k _ u1.d5 _ (cY (b:=4) cq) _ _ (gX bi ab) _ _<|gX bg aC
    ·exact dk λk=>k _ u1.d5 _<|bN (b:=4) cq
   by_cases ae:r.aM=2
   ·exact aq true bq (gi [true,true] λk=>k _ _ _ g0 _ _ _ jb _ u1.d5 _<|cY (b:=2) ae) f1 λB=>rfl
   ·cases ab:gj p.b2 with
    |false=>exact aq true bq (gi [true,true] λk=>k _ _ _ g0 _ _ _ jb _ u1.d5 _ (bN (b:=2) ae) _ eZ _ _ (di _ _ _) _<|ta ab) f1 λB=>rfl
    |true=>exact aq (gj q.b2) bq (gi [true,true] λk=>k _ _ _ g0 _ _ _ jb _ u1.d5 _ (bN (b:=2) ae) _ eZ _ _ (di _ _ _) _ (ta ab) _ eZ _ _ (di _ _ _) _<|kA rfl) f1 λh=>br h.aax ab
 by_cases h:bitAnd (bitOr (p.b2:Int) (q.b2:Int)) 24=0
 ·exact fin (dk λr=>r _ eZ _ eZ _ _ rfl _ _ rfl _ _ (di _ _ _) _ (p2<|cp λq=>q h) _<|p2<|cp λq=>q h)<|.refl _ _
 ·refine aay (d:=d) (p:=p) (q:=q) X aJ aA bC λL ax gT gD jn=> ?_;cases L with
  |true=>exact fin (dk λr=>r _ eZ _ eZ _ _ rfl _ _ rfl _ _ (di _ _ _) _ (p2<|ck h) _ iB.c5 _ _ gT) gD
  |false=>exact aq false ax (go λr=>r _ eZ _ eZ _ _ rfl _ _ rfl _ _ (di _ _ _) _ (p2<|ck h) _ iB.c5 _ _ gT) gD jn
def aaA(iB:bE A C Q r as v)(X:dX C A T a1)(aJ:T[s]? =some a)(hm:e9 r.miss)(hn:e9 p.name)(ao:r.ns.length<16000000)(aq:∀b S m n,a0 a2 (d+3) 88 [.L Q.q,J s,cn p] C=some (.bool b,S)->bE A S Q {r with miss:=m,ns:=n} as v->bw C S [Q.q,Q.q+7]->e9 m->(n=r.ns\/∃x,n=r.ns++[x])->(gj p.b2=false->b=false)->(r.aM=4->gj p.b2->a.d6=false->b=false)->R):R:=by
 have hf:=Bj (d:=d+1) X.fZ aJ;cases i2:gj p.b2 with
 |false=>
  have k4:=FI (C:=C) hm (show e9 (aa "")=true by decide);by_cases ae:r.miss=aa ""
  ·by_cases Y:r.dn.length=1
   ·exact iB.aag p.name λS h f dC=>aq false S p.name r.ns (go λk=>k _ eZ _ _ (di _ _ _) _ (ta i2) _ iB.GQ _ (dH k4<|ck ae) _ iB.s6 _ _ (oU iB.g9) _ (cY (b:=1) Y) _ nX _ h) dC (f.cj λB h=>bR h▸bo) hn (.inl rfl) (λB=>rfl) λB B B=>rfl
   ·exact aq false C r.miss r.ns (go λk=>k _ eZ _ _ (di _ _ _) _ (ta i2) _ iB.GQ _ (dH k4<|ck ae) _ iB.s6 _ _ (oU iB.g9) _<|bN (b:=1) Y) iB (.refl _ _) hm (.inl rfl) (λB=>rfl) λB B B=>rfl
  ·exact aq false C r.miss r.ns (go λk=>k _ eZ _ _ (di _ _ _) _ (ta i2) _ iB.GQ _<|dH k4<|cp ae) iB (.refl _ _) hm (.inl rfl) (λB=>rfl) λB B B=>rfl
 |true=>
  have cW:∀{b:Bool},gj p.b2=false->b=false:=λh=>b7<|br h i2;cases wn:a.d6 with
  |true=>rw[wn]at hf;exact aq true C r.miss r.ns (go λk=>k _ eZ _ _ (di _ _ _) _ (ta i2) _ iB.c5 _ X.cz _ _ hf) iB (.refl _ _) hm (.inl rfl) cW λB B h=>b7<|br h wn
  |false=>
   rw[wn]at hf;by_cases cq:r.aM=4
   ·exact aq false C r.miss r.ns (go λk=>k _ eZ _ _ (di _ _ _) _ (ta i2) _ iB.c5 _ X.cz _ _ hf _ iB.d5 _<|cY (b:=4) cq) iB (.refl _ _) hm (.inl rfl) cW λB B B=>rfl
   ·exact OD (d:=d) (c:=11) iB ao λS n du n2 jr G3=>aq true S r.miss n (go λk=>k _ eZ _ _ (di _ _ _) _ (ta i2) _ iB.c5 _ X.cz _ _ hf _ iB.d5 _ (bN (b:=4) cq) _ iB.ze _ _ du) n2 (jr.cj λB=>bQ _) hm G3 cW λh=>absurd h cq
end
end
section
noncomputable def tb:af->Option af
 |.str B cr=>some<|cu "string"
 |.num B cr=>some<|cu "number"
 |_=>none
def rC(m:Nat)(x y:af):Prop:=(x=cu "undefined"/\y=cu "void")\/tb x=some y\/(m=2/\tb y=some x)
def n3(m:Nat)(x y:af):Prop:=y=cu "any"\/(¬(x=cu "any"/\m=4)/\(y=cu "unknown"\/x=cu "any"\/(x≠cu "unknown"/\rC m x y)))
def jP(m:Nat)(x y:af):Prop:=x=y\/n3 m x y\/(m=2/\n3 2 y x)
def G4(m:Nat)(x y:af):Prop:=(x.shaped=true/\y.shaped)\/(m=2/\(x.shaped=true\/y.shaped))
def n4(m:Nat)(x:af)(c:List af):Prop:=∃y∈c,jP m x y
def u2(m:Nat)(x:af)(c:List af):Prop:=∀y∈c,¬jP m x y/\¬G4 m x y
def iR(P:af->List g8)(c bK:List af):Prop:=∀x∈c,∃y∈bK,cK P [x] [y]
def iR.i8{P:af->List g8}{c:List af}(h:cK P c bK):iR P c bK:=h.d9.mi
def iR.j4{P:af->List g8}{x y:af}(h:iR P [x] [y]):cK P [x] [y]:=(h x bo).elim λB z=>bR z.1▸z.2
structure hY(P:af->List g8)(m:Nat)(c bK:List af)(b:Bool):Prop where
 iy:∀x,c=[x]->n4 m x bK->b=true
 cW:∀x,c=[x]->u2 m x bK->b=false
 kI:m≠2->iR P c bK->b=true
def u3(P:af->List g8)(m:Nat)(c bK:List af)(b:Bool):Prop:=(m=3->(b=true↔cK P c bK))/\(m≠3->hY P m c bK b)
structure hF where
 T0:List af
 a1:Nat->Nat
 A:gO
 G:bO T0
 D:F4 T0 a1
 len:T0.length+(yz T0).length<=400
noncomputable abbrev hF.P(Z:hF):af->List g8:=yF Z.T0 Z.a1
structure gA where
 C:St
 T:List af
 Q:fo
 r:eK
 eV:Option (fo×eK)
def iC(T:List af)(k:Nat×Nat):Prop:=(T[k.1]?).isSome=true/\(T[k.2]?).isSome=true
def iC.pre{T:List af}(x:ek T a7){k:Nat×Nat}(h:iC T k):iC a7 k:=⟨x.some h.1,x.some h.2⟩
noncomputable def OP(T:List af)(tr:List (Nat×Nat)):re:=λc bK=>∃k∈tr,aE T k.1=c/\aE T k.2=bK
noncomputable def lV(Z:hF)(T:List af)(tr:List (Nat×Nat)):re:=λc bK=>cK Z.P c bK\/OP T tr c bK
structure gm(Z:hF)(ex:List (Nat×Nat))(z:Nat)(C:St)(T:List af)(Q:fo)(r:eK)(v:I):Prop where
 bx:bE Z.A C Q r r.tr v
 aM:r.aM=1\/r.aM=2\/r.aM=3\/r.aM=4
 aG:r.tr.Nodup
 kJ:∀k∈r.tr,iC T k
 mw:∀k∈r.tr,r.aM=3\/k∈ex\/hY Z.P r.aM (aE T k.1) (aE T k.2) true
 knd:(r.bz.map Prod.fst).Nodup
 bz:∀p∈r.bz,∃k b,p=(ce k,.bool b)/\iC T k/\u3 Z.P r.aM (aE T k.1) (aE T k.2) b
 tc:∀k∈r.tr,cE r.bz (ce k)=none
 dn:Ck r.dn
 td:e9 r.miss=true
 jQ:r.ns.length+z<=9*(r.tr.length+r.bz.length)+4000000
noncomputable def kK:Option (fo×eK)->I
 |none=>.none
 |some p=>.L p.1.q
noncomputable def zf:Option (fo×eK)->List Nat
 |none=>[]
 |some p=>p.1.iz
structure Top(r:eK):Prop where
 tr:r.tr=[]
 dl:r.dl=0
 g9:r.dn=[]
 ns:r.ns=[]
structure cc(Z:hF)(ex:List (Nat×Nat))(z:Nat)(w:gA):Prop where
 au:dX w.C Z.A w.T Z.a1
 dz:hC Z.T0 w.T
 k:gm Z ex z w.C w.T w.Q w.r (kK w.eV)
 eV:∀p,w.eV=some p->gm Z [] 0 w.C w.T p.1 p.2 .none/\p.2.aM=3/\Top p.2/\(∀a∈w.Q.all,a∉p.1.iz)/\∀a∈p.1.all,a∉w.Q.iz
noncomputable def hZ(Z:hF)(w:gA):List Nat:=(Z.A.t+1)::(Z.A.t+2)::(w.Q.iz++zf w.eV)
structure jR(Z:hF)(w az:gA):Prop where
 len:w.C.length<=az.C.length
 same:∀a,a<w.C.length->a∉hZ Z w->az.C[a]? =w.C[a]?
 own:∀x∈hZ Z az,x∈hZ Z w\/w.C.length<=x
structure cC(Z:hF)(ex:List (Nat×Nat))(z:Nat)(w az:gA):Prop where
 ok:cc Z ex z az
 pre:ek w.T az.T
 bU:jR Z w az
 q:az.Q=w.Q
 same:az.r={w.r with tr:=az.r.tr,bz:=az.r.bz,ns:=az.r.ns,miss:=az.r.miss}
 ext:∃aB,az.r.tr=w.r.tr++aB/\(w.r.aM=3->∀k∈aB,jJ Z.P (lV Z az.T az.r.tr) (aE az.T k.1)<|aE az.T k.2)
 rD:∃F,az.r.bz=w.r.bz++F
 u4:∃N,az.r.ns=w.r.ns++N/\(w.r.aM=3->N=[])
 pi:w.r.aM=3->az.eV=w.eV
section
variable{Z:hF}{w az Cp:gA}{n:Nat}{T:List af}{Q:fo}{r r':eK}{c:List af}
def gn(bj:hC Z.T0 T)(x:ek T a7)(h:(T[t]?).isSome=true):aE a7 t=aE T t:=FS x h λp ab=>(hT h).elim λB aC=>((Z.G.h9 bj).parts aC p ab).elim λB hz=>ai Option.isSome hz.1
def jR.refl:jR Z w w:=⟨gF _,λB B B=>rfl,λB h=>.inl h⟩
def jR.trans(x:jR Z w az)(y:jR Z az Cp):jR Z w Cp:=⟨a3 x.len y.len,λa ao h=>(y.same a (c7 ao x.len) λq=>(x.own a q).elim h<|Nat.not_le_of_lt ao).trans<|x.same a ao h,λa h=>(y.own a h).elim (x.own a) λq=>.inr<|a3 x.len q⟩
def jR.i8(f:bw w.C az.C ms)(h:∀a∈ms,a∈hZ Z w)(q:az.Q=w.Q)(t:az.eV=w.eV):jR Z w az:=⟨f.len,λa ao n=>f.same a ao λq=>n<|h a q,λx ac=>.inl (by delta hZ at ac⊢;rw[q,t]at ac;exact ac)⟩
def jR.get(f:jR Z w az)(h:w.C[a]? =some o)(n:a∉hZ Z w):az.C[a]? =some o:=(f.same a (fc h) n).trans h
def aaB:∀a∈[Z.A.t+1,Z.A.t+2],a∈hZ Z w:=λa h=>(cS h).elim (λe=>e▸bo) λh=>bR h▸bQ _ bo
def rE:∀a∈w.Q.iz,a∈hZ Z w:=λa h=>bQ _<|bQ _<|jg _ h
def u5:∀a∈Q.iz,a∈Q.all:=λB h=>(u6 (.cons₂ _<|.cons₂ _<|.cons₂ _<|.cons₂ _<|.cons₂ _<|.cons _<|.cons₂ _<|.cons _<|.cons _ .slnil) h)
def gm.uS(W:gm Z ex z C T Q r v)(X:dX C Z.A T Z.a1):∀a∈Q.all,a∉[Z.A.t+1,Z.A.t+2]:=λa aU=>Ca (ea (c1 (hA (by decide) _) X.Cd)<|W.bx.cf a aU)
def gm.h9(W:gm Z ex z C T Q r v)(X:bE Z.A S Q r r.tr v)(bj:hC Z.T0 T)(x:ek T a7):gm Z ex z S a7 Q r v:=⟨X,W.aM,W.aG,λk an=>(W.kJ k an).pre x,λk an=>V (gn bj x (W.kJ k an).1)<|V (gn bj x (W.kJ k an).2)<|W.mw k an,W.knd,λp ab=>(W.bz p ab).imp λk h=>h.imp λb h=>⟨h.1,h.2.1.pre x,V (gn bj x h.2.1.1)<|V (gn bj x h.2.1.2) h.2.2⟩,W.tc,W.dn,W.td,W.jQ⟩
def gm.keep(W:gm Z ex z C T Q r v)(f:bw C S ms)(h:∀a∈Q.all,a∉ms):gm Z ex z S T Q r v:={W with bx:=W.bx.keep f h}
def cC.refl(W:cc Z ex z w):cC Z ex z w w:=⟨W,.refl _,.refl,rfl,rfl,⟨[],(ew _).symm,λB=>nofun⟩,⟨[],(ew _).symm⟩,⟨[],(ew _).symm,λB=>rfl⟩,λB=>rfl⟩
def cc.h9(W:cc Z ex z w)(X:dX S Z.A a7 Z.a1)(f:bw w.C S [Z.A.t+1,Z.A.t+2])(x:ek w.T a7)(bj:hC Z.T0 a7):cC Z ex z w {w with C:=S,T:=a7}:=⟨⟨X,bj,W.k.h9 (W.k.bx.keep f<|W.k.uS W.au) W.dz x,λp e=>have t:=W.eV p e;⟨t.1.h9 (t.1.bx.keep f<|t.1.uS W.au) W.dz x,t.2⟩⟩,x,.i8 f aaB rfl rfl,rfl,rfl,⟨[],(ew _).symm,λB=>nofun⟩,⟨[],(ew _).symm⟩,⟨[],(ew _).symm,λB=>rfl⟩,λB=>rfl⟩
def cc.te(W:cc Z ex z w)(f:bw w.C S []):cC Z ex z w {w with C:=S}:=W.h9 (W.au.same f) (f.cj nofun) (.refl _) W.dz
def cc.de(W:cc Z ex z w)(f:bw w.C S ms)(h:∀a∈ms,a∈w.Q.iz)(k:gm Z ee eL S w.T w.Q r' (kK w.eV)):cc Z ee eL {w with C:=S,r:=r'}/\jR Z w {w with C:=S,r:=r'}:=⟨⟨W.au.keep f λa B l q=>lu l<|W.k.bx.cf a<|u5 a<|h a q,W.dz,k,λp e=>have t:=W.eV p e;⟨t.1.keep f λa aU q=>t.2.2.2.2 a aU<|h a q,t.2⟩⟩,.i8 f (λa q=>rE a<|h a q) rfl rfl⟩
def lV.cj{tr:List (Nat×Nat)}(bj:hC Z.T0 T)(x:ek T a7)(aS:∀k∈tr,iC T k):∀c bK,lV Z T tr c bK->lV Z a7 (tr++aB) c bK:=λc bK h=>h.imp_right λh=>h.imp λk h=>⟨jg _ h.1,(gn bj x (aS k h.1).1).trans h.2.1,(gn bj x (aS k h.1).2).trans h.2.2⟩
def cC.up(W:cc Z ex z w)(O:cC Z ex eL w az):∀c bK,lV Z w.T w.r.tr c bK->lV Z az.T az.r.tr c bK:=O.ext.elim λaB e=>e.1.symm▸lV.cj W.dz O.pre W.k.kJ
def cC.wV(O:cC Z ex z w az)(m:w.r.aM=3):az.r.ns=w.r.ns:=O.u4.elim λN n=>n.1.trans<|n.2 m▸ew _
def cC.trans(O:cC Z ex z w az)(bW:cC Z ex eL az Cp):cC Z ex eL w Cp:=
 have m:az.r.aM=w.r.aM:=V O.same rfl
 O.ext.elim λaB e=>bW.ext.elim λF f=>O.rD.elim λK k=>bW.rD.elim λX l=>O.u4.elim λdf n=>bW.u4.elim λN o=>
  ⟨bW.ok,O.pre.trans bW.pre,O.bU.trans bW.bU,bW.q.trans O.q,bW.same.trans<|V O.same rfl,⟨aB++F,f.1.trans ((ai (·++F) e.1).trans<|iG _ _ _),λh k an=>(gb an).elim (λan=>have aS:=O.ok.k.kJ k<|e.1▸i0 _ an;V (gn O.ok.dz bW.pre aS.1)<|V (gn O.ok.dz bW.pre aS.2)<|(e.2 h k an).up<|bW.up O.ok)<|f.2 (m.trans h) k⟩,
   ⟨K++X,l.trans ((ai (·++X) k).trans (iG _ _ _))⟩,⟨df++N,o.1.trans ((ai (·++N) n.1).trans (iG _ _ _)),λh=>u7.mpr ⟨n.2 h,o.2 (m.trans h)⟩⟩,λh=>(bW.pi (m.trans h)).trans (O.pi h)⟩
end
end
variable{w az fW:gA}{Z:hF}
section
section
variable{n:Nat}{T:List af}{Q:fo}{r r':eK}{a b:af}
def G5(aG:l.Nodup)(h:∀x∈l,∃k,x=ce k/\iC T k)(eD:T.length<=400):l.length<=160000:=by
 have e:=o4 (m:=(List.range 160000).map λn=>ce (n/400,n%400)) aG λx ac=>(h x ac).elim λk an=>by
  have lt:∀{i:Nat},(T[i]?).isSome=true->i<400:=λh=>(hT h).elim λB h=>c7 (fc h) eD;have Y:=lt an.2.1;have ae:=lt an.2.2;refine i1 ⟨400*k.1+k.2,pH.mpr ?_,?_⟩
  ·exact c7 (Nat.add_lt_add_left ae _)<|show 400*k.1+400<=160000 from m3 400<|Nat.succ_le_of_lt Y
  ·rw[Nat.mul_add_div (by decide),Nat.div_eq_of_lt ae,Nat.mul_add_mod,Nat.mod_eq_of_lt ae];exact an.1.symm
 rw[c2,tW]at e;exact e
def cc.lW(W:cc Z ex z w):w.T.length<=400:=a3 W.dz.len Z.len
def cc.yD(W:cc Z ex z w):wm w.T:=(Z.G.h9 W.dz).yD (a3 W.lW<|by decide)
def cc.cX(W:cc Z ex z w):bO w.T:=Z.G.h9 W.dz
def gm.tf(W:gm Z ex z C T Q r v)(eD:T.length<=400):r.tr.length<=160000:=c2 (as:=r.tr) ce▸G5 (sT W.aG λB B B B=>uZ) (λx ac=>(e4 ac).imp λk h=>⟨h.2.symm,W.kJ k h.1⟩) eD
def gm.Cq(W:gm Z ex z C T Q r v)(eD:T.length<=400):r.bz.length<=160000:=c2 (as:=r.bz) Prod.fst▸G5 W.knd (λx ac=>(e4 ac).elim λp h=>(W.bz p h.1).imp λk q=>q.elim λb q=>⟨br h.2<|ai Prod.fst q.1,q.2.1⟩) eD
def gm.G6(W:gm Z ex z C T Q r v)(eD:T.length<=400):r.ns.length<16000000:=c1 (a3 (cT _ _)<|a3 W.jQ<|fl (m3 9<|lg (W.tf eD)<|W.Cq eD) _) (by decide)
def gm.wW(W:gm Z ex z C T Q r v):jt r.bz:=λp ab=>(W.bz p ab).elim λk h=>h.elim λb h=>h.1▸rfl
def gm.gf(W:gm Z ex z C T Q r v)(h:eL<=z):gm Z ex eL C T Q r v:={W with jQ:=a3 (hA h _) W.jQ}
def cc.gf(W:cc Z ex z w)(h:eL<=z):cc Z ex eL w:={W with k:=W.k.gf h}
def cC.gf(O:cC Z ex z w az)(h:eL<=z):cC Z ex eL w az:={O with ok:=O.ok.gf h}
def cc.OQ(W:cc Z ex z w){o:af}(aA:o∈Z.T0)(ab:p∈o.gP)(aq:∀u S a7,a0 a2 (d+5) 71 [.L Z.A.t,cn p] w.C=some (J u,S)->cC Z ex z w {w with C:=S,T:=a7}->bw w.C S [Z.A.t+1,Z.A.t+2]->aE a7 u=fK Z.T0 p->(a7[u]?).isSome=true->R):R:=
 (Z.G.yA aA ab).1.elim λi ah=>XY (d:=d) (p:=p) W.au W.yD (ai Option.isSome<|W.dz.pre.get ah) λu S Y ae ba cq=>by
  have c:=Ym Z.G W.dz aA ab cq;have x:ek w.T (if gj p.b2 then hN w.T [p.dc,4]else w.T)/\hC Z.T0 (if gj p.b2 then hN w.T [p.dc,4]else w.T):=by
   cases gj p.b2 with
   |true=>exact⟨Br _ _,W.dz.wv Z.G aA ab⟩
   |false=>exact⟨.refl _,W.dz⟩
  exact aq u _ _ Y (W.h9 ae ba x.1 x.2) ba c.1 c.2
def cc.wv(W:cc Z ex z w){o:af}(aA:o∈Z.T0)(ab:p∈o.gP)(aq:∀u az,a0 a2 (d+5) 71 [.L Z.A.t,cn p] w.C=some (J u,az.C)->cC Z ex z w az->az.r=w.r->aE az.T u=fK Z.T0 p->(az.T[u]?).isSome=true->R):R:=W.OQ (d:=d) aA ab λu B B h O B c s=>aq u _ h O rfl c s
def cc.OR(W:cc Z ex (z+1) w)(bl:w.r.aM≠3){n:List I}{m:Str}(X:bE Z.A S w.Q {w.r with miss:=m,ns:=n} w.r.tr (kK w.eV))(f:bw w.C S [w.Q.q,w.Q.q+7])(hm:e9 m)(h:n=w.r.ns\/∃x,n=w.r.ns++[x]):cC Z ex z w {w with C:=S,r:={w.r with miss:=m,ns:=n}}:=by have ao:n.length<=w.r.ns.length+1:=h.elim (λe=>e▸jZ _) λh=>h.elim λx e=>e▸cM eo;have t:=W.de (eL:=z) (r':={w.r with miss:=m,ns:=n}) f (λa q=>(cS q).elim (λe=>e▸bo) λq=>bR q▸dK (i:=5) rfl) ⟨X,W.k.aM,W.k.aG,W.k.kJ,W.k.mw,W.k.knd,W.k.bz,W.k.tc,W.k.dn,hm,a3 (fl ao z)<|a3 (cM<|by rw[iZ,m8 1]) W.k.jQ⟩;exact⟨t.1,.refl _,t.2,rfl,rfl,⟨[],(ew _).symm,λB=>nofun⟩,⟨[],(ew _).symm⟩,h.elim (λe=>⟨[],e.trans (ew _).symm,λB=>rfl⟩) λh=>h.imp' (λx=>[x]) λB e=>⟨e,λm=>absurd m bl⟩,λB=>rfl⟩
def cc.Cr(W:cc Z ex (z+1) w)(bl:w.r.aM≠3){c:Int}(aq:∀az,a0 a2 (d+2) 31 [.L w.Q.q,.int c] w.C=some (.none,az.C)->cC Z ex z w az/\az.r.tr=w.r.tr->R):R:=OD (d:=d) (c:=c) W.k.bx (W.k.G6 W.lW) λS n du n2 jr G3=>aq _ du ⟨W.OR bl n2 (jr.cj λB=>bQ _) W.k.td G3,rfl⟩
end
end
section
noncomputable def nd(i:Nat):dB:=zK.body.getD i .fA
noncomputable def pj(r:eK)(q s t:Nat)(c:Bool):bT:=ar (ar (ar (cm [.L q,J s,J t]) 3<|ce (s,t)) 4<|.ak [J r.ns.length,J r.tr.length]) 5<|.bool c
def OS{o e:b4}{f:Nat}{w:I}{n m k:Int}(Y:bV O o H C=some (w,C))(ae:hs O.b1 C f w=some (.int n))(ba:bV O e H C=some (.int m,C))(cq:iF op (.int n) (.int m) C=some (.int k,C))(dF:kj O.b1 C f (.int k) w=some S):cw O (.rI o f op e) H C=some (.next,H,S):=bB (x:=bV O o H C) Y<|bB (x:=hs O.b1 C f w) ae<|bB (x:=bV O e H C) ba<|bB (x:=iF op (.int n) (.int m) C) cq<|bB (x:=kj O.b1 C f (.int k) w) dF rfl
section
variable{fD iN:St}{Q:fo}{r dW:eK}{v4:I}{n:Nat}
def G7(X:bE A C Q r as v)(KT:jt r.bz):eh C .dT (.ak [J s,J t]) (.L<|Q.q+3)=some (cE r.bz<|ce (s,t)).isSome:=ej<|we X.zc<|jt.ok (k:=(s,t)) KT
def OT(X:bE A C Q r as v):eh C .dT (.ak [J s,J t]) (.L<|Q.q+2)=some (cE (js as)<|ce (s,t)).isSome:=ej<|we X.wS<|wT (k:=(s,t))
def aaC(X:bE A C Q r as v)(KT:jt r.bz)(h:cE r.bz (ce (s,t))=some x):a0 a2 (d+1) 41 [.L Q.q,J s,J t] C=some (x,C):=go λk=>k _ X.rA _ (dH (G7 X KT)<|ai Option.isSome h) _ X.rA _<|Bg X.zc (jt.ok (k:=(s,t)) KT) h
def aaD(X:bE A C Q r as v)(KT:jt r.bz)(h:cE r.bz (ce (s,t))=none)(an:(s,t)∈as):a0 a2 (d+1) 41 [.L Q.q,J s,J t] C=some (.bool true,C):=go λk=>k _ X.rA _ (dH (G7 X KT)<|ai Option.isSome h) _ X.rz _<|dH (OT X)<|ai Option.isSome<|GZ an
def aaE(X:bE A C Q r r.tr v)(KT:jt r.bz)(h:cE r.bz (ce (s,t))=none)(an:(s,t)∉r.tr)(bC:r.dl<60)(ao:r.tr.length<16000000)(K:∀cB,bE A cB Q {r with tr:=r.tr++[(s,t)],dl:=r.dl+1} (r.tr++[(s,t)]) v->bw C cB [Q.q,Q.q+2,Q.dY]->(∀{c:Bool} {fD:St} {dW:eK} {G8:List (Nat×Nat)} {v4:I},a0 a2 (d+1) (if r.aM=3 then 59 else 53) [.L Q.q,J s,J t] cB=some (.bool c,fD)->bE A fD Q dW G8 v4->dW.dl=r.dl+1->∀{P:Prop},(∀iN,bE A iN Q {dW with dl:=r.dl} G8 v4->bw fD iN [Q.q]->
   (∀{b:I} {aT:bT} {S:St},cG (bk (d+1)) [nd 10,nd 11] (pj r Q.q s t c) iN=some (.ret b,aT,S)->a0 a2 (d+2) 41 [.L Q.q,J s,J t] C=some (b,S))->P)->P)->R):R:=by
 refine oV (k:=ce (s,t)) (v:=J 1) X.wS (X.pos 1 rfl) (wT (k:=(s,t))) (V (c2 _) ao) λax Y fy=> ?_;have dC:bE A ax Q r (r.tr++[(s,t)]) v:=X.Ci<|eF (Oz an) fy;refine uo (v:=ce (s,t)) dC.dY (X.pos 3 rfl) (V (c2 _) ao) λbq ae e2=> ?_;have fm:bE A bq Q {r with tr:=r.tr++[(s,t)]} (r.tr++[(s,t)]) v:=dC.GV<|eF (iI (f:=ce) (l₁:=r.tr) (l₂:=[(s,t)])).symm e2;refine fm.Oy (r.dl+1) λcB ba hk nc=>K cB nc (((fy.bU.cj λB q=>bQ _<|bR q▸bo).trans<|e2.bU.cj λB q=>bQ _<|bQ _ q).trans<|hk.cj λB q=>bR q▸bo) λ{c fD dW G8 v4} ag f6 et {P} fin=>f6.Oy r.dl λiN dF kx jI=>fin iN jI kx λ{b aT S} aP=> ?_;have G9:cw (bk<|d+1) (nd 7) (ar (ar (cm [.L Q.q,J s,J t]) 3<|ce (s,t)) 4<|.ak [J r.ns.length,J r.tr.length]) bq=some (.next,ar (ar (cm [.L Q.q,J s,J t]) 3<|ce (s,t)) 4<|.ak [J r.ns.length,J r.tr.length],cB):=OS (fJ rfl) fm.GP rfl rfl ba;have aaF:cw (bk<|d+1) (nd 9) (pj r Q.q s t c) fD=some (.next,pj r Q.q s t c,iN):=OS (fJ rfl) (f6.GP.trans (et▸rfl:_=some (J<|r.dl+1))) rfl (ai (λz=>some (I.int z,fD))<|Int.add_sub_cancel (r.dl:Int) 1) dF;have Ha:cw (bk<|d+1) (nd 8) (ar (ar (cm [.L Q.q,J s,J t]) 3<|ce (s,t)) 4<|.ak [J r.ns.length,J r.tr.length]) cB=some (.next,pj r Q.q s t c,fD):=by
  by_cases bl:r.aM=3
  ·rw[bh bl]at ag;exact dk λk=>k _ nc.d5 _ (cY (b:=3) bl) _ _ ag
  ·rw[bH bl]at ag;exact dk λk=>k _ nc.d5 _ (bN (b:=3) bl) _ _ ag
 have F:cG (bk<|d+1) (zK.body.drop 4) (ar (cm [.L Q.q,J s,J t]) 3<|ce (s,t)) C=some (.ret b,aT,S):=gq (eB<|dk λk=>k _ X.zd _ _<|OE (d:=d) X)<|gq (eB (dk λk=>k _ X.rz _ Y))<|gq (eB (dk λk=>k _ dC.s7 _ (lH dC.dY) _ _ (lI dC.dY ae)))<|gq (eB G9)<|gq (eB Ha)<|gq (eB aaF) aP;have G:cG (bk<|d+1) zK.body (cm [.L Q.q,J s,J t]) C=some (.ret b,aT,S):=gq (eB<|dk λk=>k)<|gq (eB (dk λk=>k _ X.rA _ (dH (G7 X KT) (ai Option.isSome h))))<|gq (eB (dk λk=>k _ X.rz _ (dH (OT X) (ai Option.isSome (GY an)))))<|gq (eB (dk λk=>k _ X.GP _ (ka (cp (pD.mpr (hd bC)))))) F;exact(sq (np:=3) rfl rfl).trans<|bB G rfl
def aaG:eh C .eq (J a) (J b)=some (decide<|a=b):=gY<|decide_eq_decide.mpr ⟨k0,λh=>h▸rfl⟩
def aaH(hn:r.tr.length≠0):cG (bk<|d+1) [nd 10,nd 11] (pj r Q.q s t true) C=some (.ret<|.bool true,pj r Q.q s t true,C):=eJ λk=>k _ rfl _ rfl _ (b0 (i:=1) rfl) _ (bN (b:=0) hn) _ rfl
def aaI(X:bE A C Q dW dW.tr v)(aG:dW.tr.Nodup)(KT:jt dW.bz)(ao:dW.bz.length+dW.tr.length<16000000)(hn:r.tr.length=0)(aq:∀S n,cG (bk<|d+1) [nd 10,nd 11] (pj r Q.q s t true) C=some (.ret<|.bool true,pj r Q.q s t true,S)->bE A S {Q with dY:=n} {dW with tr:=[],bz:=s8 (decide<|dW.ns.length=r.ns.length) dW.tr dW.bz} [] v->bw C S [Q.q+2,Q.q+3,Q.q]->C.length<=n->R):R:=aan (d:=d) (clean:=decide<|dW.ns.length=r.ns.length) X aG KT ao λS n aD=>aq S n<|eJ λk=>k _ rfl _ rfl _ (b0 (i:=1) rfl) _ (cY (b:=0) hn) _ rfl _ rfl _ X.qh _ X.qi _ _ (oU X.mv) _ rfl _ (b0 (i:=0) rfl) _ aaG _ _ aD _ rfl
def aaJ(X:bE A C Q dW dW.tr v)(aG:dW.tr.Nodup)(KT:jt dW.bz)(ao:dW.bz.length<16000000)(xz:dW.tr.length<16000000)(aaK:r.ns.length<=dW.ns.length)(aaL:r.tr.length<=dW.tr.length)(aq:∀S,cG (bk<|d+1) [nd 10,nd 11] (pj r Q.q s t false) C=some (.ret<|.bool false,pj r Q.q s t false,S)->bE A S Q {dW with tr:=dW.tr.take r.tr.length,ns:=dW.ns.take r.ns.length,bz:=if r.tr.length=0\/dW.aM≠4 then fB dW.bz (ce (s,t)) (.bool false)else dW.bz} (dW.tr.take r.tr.length) v->bw C S [Q.q+2,Q.dY,Q.q+7,Q.q+3]->R):R:=
 OG (d:=d) X aG aaK aaL xz λax aD aF cP=>by
  have f1:=cP.cj (ns:=[Q.q+2,Q.dY,Q.q+7,Q.q+3]) λB h=>jg [Q.q+3] h;by_cases h:r.tr.length=0\/dW.aM≠4
  ·rw[bh h]at aq;exact oV (k:=ce (s,t)) (v:=.bool false) aF.zc (X.pos 2 rfl) (jt.ok (k:=(s,t)) KT) ao λbq aJ u=>aq bq (by
    by_cases Y:r.tr.length=0
    ·exact eJ λk=>k _ rfl _ rfl _ rfl _ _ aD _ rfl _ (b0 (i:=1) rfl) _ (cY (b:=0) Y) _ rfl _ aF.rA _ rfl _ aJ _ rfl
    ·exact eJ λk=>k _ rfl _ rfl _ rfl _ _ aD _ rfl _ (b0 (i:=1) rfl) _ (bN (b:=0) Y) _ rfl _ aF.d5 _ (kb (b:=4) (h.resolve_left Y)) _ rfl _ aF.rA _ rfl _ aJ _ rfl) (aF.Ox u) (f1.trans (u.bU.cj λB q=>bR q▸i0 [Q.q+2,Q.dY,Q.q+7] bo))
  ·rw[bH h]at aq;exact aq ax (eJ λk=>k _ rfl _ rfl _ rfl _ _ aD _ rfl _ (b0 (i:=1) rfl) _ (bN (b:=0) λq=>h<|.inl q) _ rfl _ aF.d5 _ (kc (b:=4)<|Decidable.not_not.mp λq=>h<|.inr q) _ rfl) aF f1
end
end
section
section
variable{n:Nat}{T:List af}{Q:fo}{r r':eK}{k:Nat×Nat}{a b:I}{F:List (I×I)}
def OU(Y:cE bz a=none)(ae:cE F a=none):cE (bz++F) a=none:=by delta cE at Y ae⊢;rw[Option.map_eq_none_iff]at Y ae⊢;exact List.find?_append.trans (by rw[Y,ae];rfl)
def OV(h:b≠a):cE [(b,v)] a=none:=by delta cE;rw[List.find?_cons,cp h];rfl
def aaM(h:cE bz a=none):fB bz a v=bz++[(a,v)]:=by delta fB;rw[h];rfl
def Hb{α:Type}{l:List α}{x:α}(aG:l.Nodup)(h:x∉l):(l++[x]).Nodup:=kU.mpr ⟨aG,oS ⟨nofun,.nil⟩,λa aU b aj e=>h<|bR aj▸e▸aU⟩
def OW(h:cE bz a=none):a∉bz.map Prod.fst:=λq=>(e4 q).elim λp ab=>of_decide_eq_false (mH.mpr<|List.find?_eq_none.mp (Option.map_eq_none_iff.mp h) p ab.1) ab.2
def OX(h:cE bz a=some v):(a,v)∈bz:=(Option.map_eq_some_iff.mp h).elim λp ab=>have e:p.1=a:=dx<|List.find?_some (p:=λp:I×I=>decide<|p.1=a) ab.1;(Prod.ext e ab.2:p=(a,v))▸List.mem_of_find?_eq_some ab.1
def gm.get(W:gm Z ex z C T Q r v)(h:cE r.bz (ce k)=some x)(aq:∀b,x=.bool b->u3 Z.P r.aM (aE T k.1) (aE T k.2) b->R):R:=(W.bz _<|OX h).elim λcy q=>q.elim λb q=>aq b (ai Prod.snd q.1)<|(uZ (ai Prod.fst q.1):k=cy)▸q.2.2
noncomputable def eK.push(r:eK)(k:Nat×Nat):eK:={r with tr:=r.tr++[k],dl:=r.dl+1}
def gm.push(W:gm Z ex z C T Q r v)(X:bE Z.A S Q (r.push k) (r.tr++[k]) v)(aS:iC T k)(h:k∉r.tr)(an:cE r.bz (ce k)=none)(ac:∀k∈ex,k∈ee)(aU:r.aM=3\/k∈ee\/hY Z.P r.aM (aE T k.1) (aE T k.2) true):gm Z ee (z+9) S T Q (r.push k) v:=
 have m {p:Nat×Nat->Prop} (Y:∀x∈r.tr,p x) (ae:p k):∀x∈r.tr++[k],p x:=λx ac=>(gb ac).elim (Y x) λq=>bR q▸ae
 ⟨X,W.aM,Hb W.aG h,m W.kJ aS,m (λk an=>(W.mw k an).imp_right λq=>q.imp_left<|ac k) aU,W.knd,W.bz,m W.tc an,W.dn,W.td,by
  have e:(r.push k).tr.length=r.tr.length+1:=eo;rw[e,rR,Nat.mul_succ,rR,<-iZ];exact fl W.jQ 9⟩
structure iS(Z:hF)(ex:List (Nat×Nat))(z:Nat)(w:gA)(c bK:List af)(b:Bool)(az:gA):Prop where
 out:cC Z ex z w az
 zg:b=false->az.r.tr=w.r.tr/\az.r.ns=w.r.ns
 pos:w.r.aM=3->b->lV Z az.T az.r.tr c bK
 neg:w.r.aM=3->b=false->¬cK Z.P c bK
 iT:w.r.aM≠3->hY Z.P w.r.aM c bK b
 clean:w.r.aM≠2->iR Z.P c bK->az.r.ns=w.r.ns
structure lX(Z:hF)(ex:List (Nat×Nat))(z:Nat)(w:gA)(c bK:List af)(b:Bool)(az:gA):Prop where
 out:cC Z ex z w az
 pos:w.r.aM=3->b->jJ Z.P (lV Z az.T az.r.tr) c bK
 neg:w.r.aM=3->b=false->¬cK Z.P c bK
 iT:w.r.aM≠3->hY Z.P w.r.aM c bK b
 clean:w.r.aM≠2->iR Z.P c bK->az.r.ns=w.r.ns
def u3.ask(W:cc Z ex z w){a6 bS:List af}(h:u3 Z.P w.r.aM a6 bS c):iS Z ex z w a6 bS c w:=⟨.refl W,λB=>⟨rfl,rfl⟩,λm e=>.inl<|(h.1 m).mp e,λm e a=>Bool.noConfusion<|br e<|(h.1 m).mpr a,h.2,λB B=>rfl⟩
def Cs:∀x∈[Q.q,Q.q+2,Q.dY],x∈Q.iz:=λx h=>(u6 (.cons₂ _<|.cons₂ _<|.cons _<|.cons₂ _<|List.nil_sublist _) h:x∈Q.iz)
def aaN:∀x∈[Q.q+2,Q.dY,Q.q+7,Q.q+3],x∈Q.iz:=λx h=>(cS h).elim (λe=>e▸dK (i:=1) rfl) λh=>(cS h).elim (λe=>e▸dK (i:=3) rfl) λh=>(cS h).elim (λe=>e▸dK (i:=5) rfl) λh=>bR h▸dK (i:=2) rfl
def OY(W:cc Z ex z w)(bC:w.r.dl<60)(aS:iC w.T (s,t))(hex:(s,t)∉ex)(ac:∀k∈ex,k∈ee)(aj:∀k∈ee,k∈ex\/k=(s,t))(aU:w.r.aM=3\/(s,t)∈ee\/hY Z.P w.r.aM (aE w.T s) (aE w.T t) true)(iD:∀cB,cc Z ee (z+9) {w with C:=cB,r:=w.r.push (s,t)}->(s,t)∉w.r.tr->cE w.r.bz (ce (s,t))=none->(∀c bI,a0 a2 (d+1) (if w.r.aM=3 then 59 else 53) [.L w.Q.q,J s,J t] cB=some (.bool c,bI.C)->lX Z ee z {w with C:=cB,r:=w.r.push (s,t)} (aE w.T s) (aE w.T t) c bI->pk c->R)->R)(tt:pk true->∀cB bI iN,jR Z w {w with C:=cB,r:=w.r.push (s,t)}->lX Z ee z {w with C:=cB,r:=w.r.push (s,t)} (aE w.T s) (aE w.T t) true bI->bE Z.A iN w.Q {bI.r with dl:=w.r.dl} bI.r.tr (kK bI.eV)->bw bI.C iN [w.Q.q]->(∀{b:I} {aT:bT} {S:St},cG (bk<|d+1) [nd 10,nd 11] (pj w.r w.Q.q s t true) iN=some (.ret b,aT,S)->a0 a2 (d+2) 41 [.L w.Q.q,J s,J t] w.C=some (b,S))->R)(aq:∀b az,a0 a2 (d+2) 41 [.L w.Q.q,J s,J t] w.C=some (.bool b,az.C)->iS Z ex z w (aE w.T s) (aE w.T t) b az->az.r.tr=w.r.tr->(w.r.bz=[]->w.r.tr=[]->pk b)->R):R:=by
 cases u8:cE w.r.bz (ce (s,t))with
 |some x=>exact W.k.get u8 λb e a=>aq b w (e▸aaC W.k.bx W.k.wW u8) (a.ask W) rfl λq=>nomatch (q▸u8:cE [] _=some x)
 |none=>
  by_cases an:(s,t)∈w.r.tr
  ·exact aq true w (aaD W.k.bx W.k.wW u8 an) ⟨.refl W,nofun,λB B=>.inr ⟨_,an,rfl,rfl⟩,λB=>nofun,λm=>((W.k.mw _ an).resolve_left m).resolve_left hex,λB B=>rfl⟩ rfl λB q=>nomatch (q▸an:(s,t)∈[])
  ·refine aaE (d:=d) W.k.bx W.k.wW u8 an bC (c1 (W.k.tf W.lW)<|by decide) λcB nc hk fin=> ?_;have OZ:cc Z ee z w:={W with k:={W.k with mw:=λk an=>(W.k.mw k an).imp_right λq=>q.imp_left<|ac k}};have hJ:=OZ.de (eL:=z+9) (r':=w.r.push (s,t)) hk Cs<|OZ.k.push nc aS an u8 (λB h=>h) aU;refine iD cB hJ.1 an u8 λc bI ag a9 ab=> ?_;have O:=a9.out;have em:bI.r.aM=w.r.aM:=V O.same rfl;have eq:bI.Q=w.Q:=O.q;have iE:gm Z ee z bI.C bI.T w.Q bI.r (kK bI.eV):=eq▸O.ok.k;have a6:aE bI.T s=aE w.T s:=gn W.dz O.pre aS.1;have bS:aE bI.T t=aE w.T t:=gn W.dz O.pre aS.2;refine O.ext.elim λaB e=>O.rD.elim λF wX=>O.u4.elim λN fC=> ?_;have bM:bI.r.tr=w.r.tr++([(s,t)]++aB):=e.1.trans<|iG _ _ _;have wX:bI.r.bz=w.r.bz++F:=wX;have fC:bI.r.ns=w.r.ns++N:=fC.1;refine fin ag iE.bx (V O.same rfl) λiN jI kx fin=> ?_;cases c with
   |true=>exact tt ab cB bI iN hJ.2 a9 jI kx fin
   |false=>
    refine aaJ (d:=d) (r:=w.r) (s:=s) (t:=t) jI O.ok.k.aG O.ok.k.wW (c1 (iE.Cq O.ok.lW)<|by decide) (c1 (iE.tf O.ok.lW)<|by decide) (V fC<|V eo<|cT _ _) (V bM<|V eo<|cT _ _) λsE g1 bd cQ=> ?_;have O0:cE bI.r.bz (ce (s,t))=none:=O.ok.k.tc (s,t)<|bM▸i0 _ bo;have key:∃G,(if w.r.tr.length=0\/bI.r.aM≠4 then fB bI.r.bz (ce (s,t)) (.bool false)else bI.r.bz)=bI.r.bz++G/\(G=[]\/G=[(ce (s,t),.bool false)]):=by
     by_cases h:w.r.tr.length=0\/bI.r.aM≠4
     ·exact⟨_,(bh h).trans<|aaM O0,.inr rfl⟩
     ·exact⟨[],(bH h).trans (ew _).symm,.inl rfl⟩
    refine key.elim λG qj=> ?_;have bd:bE Z.A sE w.Q {bI.r with dl:=w.r.dl,tr:=w.r.tr,ns:=w.r.ns,bz:=bI.r.bz++G} w.r.tr (kK bI.eV):=eF (bM▸List.take_left:bI.r.tr.take w.r.tr.length=w.r.tr)<|eF (fC▸List.take_left:bI.r.ns.take w.r.ns.length=w.r.ns)<|eF qj.1 bd;have aaO:gm Z ex z sE bI.T w.Q {bI.r with dl:=w.r.dl,tr:=w.r.tr,ns:=w.r.ns,bz:=bI.r.bz++G} (kK bI.eV):=⟨bd,iE.aM,W.k.aG,λk an=>(W.k.kJ k an).pre O.pre,λk an=>V em<|V (gn W.dz O.pre (W.k.kJ k an).1)<|V (gn W.dz O.pre (W.k.kJ k an).2)<|W.k.mw k an,
     qj.2.elim (λe=>e▸(ew bI.r.bz).symm▸iE.knd) λe=>e▸(iI (f:=Prod.fst) (l₁:=bI.r.bz) (l₂:=[(ce (s,t),I.bool false)])).symm▸Hb iE.knd (OW O0),
     λp ab=>(gb ab).elim (iE.bz p) λq=>⟨(s,t),false,qj.2.elim (λe=>nomatch (e▸q:p∈[])) λe=>bR<|e▸q,aS.pre O.pre,V em<|V (a6:aE bI.T (s,t).1=_)<|V (bS:aE bI.T (s,t).2=_) ⟨λm=>⟨nofun,λa=>absurd a<|a9.neg m rfl⟩,a9.iT⟩⟩,
     λk i3=>OU (iE.tc k<|bM▸jg _ i3)<|qj.2.elim (λe=>e▸rfl) λe=>e▸OV λe=>an<|(uZ e:(s,t)=k)▸i3,iE.dn,iE.td,
     a3 W.k.jQ (fl (m3 9 (hA (a3 (a3 (cT _ F.length) (cM (br eo (ai List.length wX.symm)))) (a3 (cT _ G.length) (cM eo.symm))) _)) _)⟩
    have nZ:=O.ok.de (eL:=z) (r':={bI.r with dl:=w.r.dl,tr:=w.r.tr,ns:=w.r.ns,bz:=bI.r.bz++G}) (ms:=w.Q.iz) ((kx.cj λa h=>Cs a<|(u6<|.cons₂ _<|List.nil_sublist _) h).trans<|cQ.cj aaN) (λa h=>eq▸h)<|eq▸aaO;exact aq false {bI with C:=sE,r:={bI.r with dl:=w.r.dl,tr:=w.r.tr,ns:=w.r.ns,bz:=bI.r.bz++G}} (fin g1) ⟨⟨nZ.1,O.pre,hJ.2.trans<|O.bU.trans nZ.2,eq,V O.same rfl,⟨[],(ew _).symm,λB=>nofun⟩,⟨F++G,(ai (·++G) wX).trans<|iG _ _ _⟩,⟨[],(ew _).symm,λB=>rfl⟩,O.pi⟩,λB=>⟨rfl,rfl⟩,λB=>nofun,a9.neg,a9.iT,λB B=>rfl⟩ rfl λB B=>ab
def aaP(W:cc Z ex z w)(bu:w.r.tr≠[])(bC:w.r.dl<60)(aS:iC w.T (s,t))(hex:(s,t)∉ex)(ac:∀k∈ex,k∈ee)(aj:∀k∈ee,k∈ex\/k=(s,t))(aU:w.r.aM=3\/(s,t)∈ee\/hY Z.P w.r.aM (aE w.T s) (aE w.T t) true)(iD:∀cB,cc Z ee (z+9) {w with C:=cB,r:=w.r.push (s,t)}->(s,t)∉w.r.tr->cE w.r.bz (ce (s,t))=none->(∀c bI,a0 a2 (d+1) (if w.r.aM=3 then 59 else 53) [.L w.Q.q,J s,J t] cB=some (.bool c,bI.C)->lX Z ee z {w with C:=cB,r:=w.r.push (s,t)} (aE w.T s) (aE w.T t) c bI->R)->R)(aq:∀b az,a0 a2 (d+2) 41 [.L w.Q.q,J s,J t] w.C=some (.bool b,az.C)->iS Z ex z w (aE w.T s) (aE w.T t) b az->R):R:=by refine OY (pk:=λB=>True) W bC aS hex ac aj aU (λcB hX a b k=>iD cB hX a b λc bI h a9=>k c bI h a9 trivial) (λB cB bI iN jn a9 jI kx fin=> ?_) λb az h a B B=>aq b az h a;have O:=a9.out;have em:bI.r.aM=w.r.aM:=V O.same rfl;have eq:bI.Q=w.Q:=O.q;have a6:aE bI.T s=aE w.T s:=gn W.dz O.pre aS.1;have bS:aE bI.T t=aE w.T t:=gn W.dz O.pre aS.2;refine O.ext.elim λaB e=> ?_;have bM:bI.r.tr=w.r.tr++([(s,t)]++aB):=e.1.trans<|iG _ _ _;have O1:∀k∈bI.r.tr,bI.r.aM=3\/k∈ex\/hY Z.P bI.r.aM (aE bI.T k.1) (aE bI.T k.2) true:=λk an=>(O.ok.k.mw k an).elim .inl λq=>q.elim (λq=>(aj k q).elim (λq=>.inr<|.inl q) λh=>h▸(Decidable.em<|bI.r.aM=3).imp_right λn=>.inr<|V em<|V (a6:aE bI.T (s,t).1=_)<|V (bS:aE bI.T (s,t).2=_)<|a9.iT λq=>n<|em.trans q) λq=>.inr<|.inr q;have nZ:=({O.ok with k:={O.ok.k with mw:=O1}}:cc Z ex z bI).de (eL:=z) (r':={bI.r with dl:=w.r.dl}) (ms:=[w.Q.q]) kx (λa h=>eq▸Cs a ((u6<|.cons₂ _<|List.nil_sublist _) h)) {O.ok.k with mw:=O1,bx:=eq▸jI};exact aq true {bI with C:=iN,r:={bI.r with dl:=w.r.dl}} (fin<|aaH λq=>bu<|yL.mp q) ⟨⟨nZ.1,O.pre,jn.trans<|O.bU.trans nZ.2,eq,V O.same rfl,⟨[(s,t)]++aB,bM,λm k an=>(gb an).elim (λq=>bR q▸V (a6:aE bI.T (s,t).1=_) (V (bS:aE bI.T (s,t).2=_)<|a9.pos m rfl))<|e.2 m k⟩,O.rD,O.u4,O.pi⟩,nofun,λm B=>.inr ⟨(s,t),bM▸i0 _ bo,a6,bS⟩,λB=>nofun,a9.iT,a9.clean⟩
end
end
variable{r':eK}
section
section
variable{n:Nat}{T:List af}{Q:fo}{r:eK}{k:Nat×Nat}{F:List (I×I)}
def O2(h:a∈({Q with dY:=n}:fo).all):a=n\/a∈Q.all:=have h:a∈Q.all.take 3++n::Q.all.drop 4:=h;(gb h).elim (λh=>.inr<|List.mem_of_mem_take h) λh=>(cS h).imp_right List.mem_of_mem_drop
def O3(h:a∈({Q with dY:=n}:fo).iz):a=n\/a∈Q.iz:=have h:a∈Q.iz.take 3++n::Q.iz.drop 4:=h;(gb h).elim (λh=>.inr<|List.mem_of_mem_take h) λh=>(cS h).imp_right List.mem_of_mem_drop
def Hc:∀x∈[Q.q+2,Q.q+3,Q.q],x∈Q.iz:=λx h=>(cS h).elim (λe=>e▸dK (i:=1) rfl) λh=>(cS h).elim (λe=>e▸dK (i:=2) rfl) λh=>bR h▸bo
def cc.tI(W:cc Z ex z w)(f:bw w.C S [w.Q.q+2,w.Q.q+3,w.Q.q])(hn:w.C.length<=n)(k:gm Z ee eL S w.T {w.Q with dY:=n} r' (kK w.eV)):cc Z ee eL {w with C:=S,Q:={w.Q with dY:=n},r:=r'}/\jR Z w {w with C:=S,Q:={w.Q with dY:=n},r:=r'}:=
 ⟨⟨W.au.keep f λa B l q=>lu l<|W.k.bx.cf a<|u5 a<|Hc a q,W.dz,k,λp e=>have t:=W.eV p e;⟨t.1.keep f λa aU q=>t.2.2.2.2 a aU<|Hc a q,t.2.1,t.2.2.1,
   λa aU q=>(O2 aU).elim (λe=>lu (e▸hn) (t.1.bx.lt (u5 a q))) λh=>t.2.2.2.1 a h q,λa aU q=>(O3 q).elim (λe=>lu (e▸hn) (t.1.bx.lt aU)) (t.2.2.2.2 a aU)⟩⟩,
  ⟨f.len,λa ao h=>f.same a ao λq=>h (rE a (Hc a q)),λx ac=>(cS ac).elim (λe=>.inl (e▸bo)) λac=>(cS ac).elim (λe=>.inl (e▸bQ _ bo)) λac=>(gb ac).elim (λh=>(O3 h).elim (λe=>.inr (e▸hn)) λh=>.inl (rE x h)) λh=>.inl (bQ _ (bQ _ (i0 _ h)))⟩⟩
def aaQ{a:I}(aG:(bz.map Prod.fst).Nodup):((fB bz a v).map Prod.fst).Nodup:=by
 delta fB;by_cases h:(cE bz a).isSome=true
 ·rw[bh h,jB];exact(ai (λf=>(bz.map f).Nodup) (funext λp=>by
   by_cases e:p.1=a
   ·exact(ai Prod.fst (bh e:(if p.1=a then(p.1,v)else p)=(p.1,v))).trans rfl
   ·exact ai Prod.fst (bH e:(if p.1=a then(p.1,v)else p)=p):(Prod.fst∘λp:I×I=>if p.1=a then(p.1,v)else p)=Prod.fst)).mpr aG
 ·rw[bH h,iI];exact Hb aG<|OW<|Option.not_isSome_iff_eq_none.mp h
def aaR{a:I}:bz.length<=(fB bz a v).length:=by
 delta fB;by_cases h:(cE bz a).isSome=true
 ·rw[bh h,c2];exact gF _
 ·rw[bH h,eo];exact cT _ _
def aaS{P:I×I->Prop}(vB:∀k∈dO,P (ce k,.bool true)):∀{bz:List (I×I)},(bz.map Prod.fst).Nodup->(∀p∈bz,P p)->((s8 c dO bz).map Prod.fst).Nodup/\(∀p∈s8 c dO bz,P p)/\bz.length<=(s8 c dO bz).length:=by
 cases c with
 |false=>exactλaG h=>⟨aG,h,gF _⟩
 |true=>
  induction dO with
  |nil=>exactλaG h=>⟨aG,h,gF _⟩
  |cons k dO ay=>exactλaG h=>have i:=ay (λx ac=>vB x<|bQ _ ac) (aaQ aG)<|λp ab=>(OB ab).elim (h p) λe=>e▸vB k bo;⟨i.1,i.2.1,a3 aaR i.2.2⟩
structure wY(Z:hF)(w:gA)(c bK:List af)(b:Bool)(az:gA):Prop where
 ok:cc Z [] 0 az
 pre:ek w.T az.T
 bU:jR Z w az
 aM:az.r.aM=w.r.aM
 sD:az.Q={w.Q with dY:=az.Q.dY}
 pi:w.r.aM=3->az.eV=w.eV
 wZ:u3 Z.P w.r.aM c bK b
 top:w.r.aM=3\/(w.r.aM≠2/\iR Z.P c bK)->Top az.r
def iS.top{a6 bS:List af}{b:Bool}(a:iS Z [] z w a6 bS b az)(gg:Top w.r)(e:az.r.tr=w.r.tr):wY Z w a6 bS b az:=
 ⟨a.out.ok.gf<|jA _,a.out.pre,a.out.bU,V a.out.same rfl,V a.out.q rfl,a.out.pi,⟨λm=>⟨λh=>(a.pos m h).elim id λq=>q.elim λk q=>(nomatch (e.trans gg.tr▸q.1:k∈[])),λh=>by
  cases b with
  |true=>rfl
  |false=>exact absurd h (a.neg m rfl)⟩,a.iT⟩,λh=>⟨e.trans gg.tr,(ai eK.dl a.out.same).trans gg.dl,(ai eK.dn a.out.same).trans gg.g9,(h.elim a.out.wV λh=>a.clean h.1 h.2).trans gg.ns⟩⟩
def cc.cF(W:cc Z ex z w)(gg:Top w.r):cc Z ex 4000000 w:={W with k:={W.k with jQ:=V (ai List.length gg.ns)<|a3 (cM<|ot _)<|Nat.le_add_left _ _}}
def aaT(W:cc Z [] 4000000 w)(gg:Top w.r)(aS:iC w.T (s,t))(aj:∀k∈ee,k=(s,t))(aU:w.r.aM=3\/(s,t)∈ee\/hY Z.P w.r.aM (aE w.T s) (aE w.T t) true)(iD:∀cB,cc Z ee (4000000+9) {w with C:=cB,r:=w.r.push (s,t)}->(s,t)∉w.r.tr->cE w.r.bz (ce (s,t))=none->(∀c bI,a0 a2 (d+1) (if w.r.aM=3 then 59 else 53) [.L w.Q.q,J s,J t] cB=some (.bool c,bI.C)->lX Z ee 4000000 {w with C:=cB,r:=w.r.push (s,t)} (aE w.T s) (aE w.T t) c bI->pk c->R)->R)(aq:∀b az,a0 a2 (d+2) 41 [.L w.Q.q,J s,J t] w.C=some (.bool b,az.C)->wY Z w (aE w.T s) (aE w.T t) b az->(w.r.bz=[]->pk b)->R):R:=by
 refine OY W (V gg.dl<|by decide) aS fO (λB=>fO) (λk h=>.inr<|aj k h) aU iD (λab cB bI iN jn a9 jI kx fin=> ?_) λb az h a e ab=>aq b az h (a.top gg e) λq=>ab q gg.tr;have O:=a9.out;have em:bI.r.aM=w.r.aM:=V O.same rfl;have eq:bI.Q=w.Q:=O.q;have a6:aE bI.T s=aE w.T s:=gn W.dz O.pre aS.1;have bS:aE bI.T t=aE w.T t:=gn W.dz O.pre aS.2;have iE:gm Z ee 4000000 bI.C bI.T w.Q bI.r (kK bI.eV):=eq▸O.ok.k;have dV:=iE.tf O.ok.lW;refine O.ext.elim λaB e=> ?_;have bM:bI.r.tr=(s,t)::aB:=e.1.trans<|ai (λl=>(l++[(s,t)])++aB) gg.tr;have al:w.r.aM=3->∀k∈bI.r.tr,cK Z.P (aE bI.T k.1) (aE bI.T k.2):=λm k an=>cK.yy (K:=OP bI.T bI.r.tr) (λa b h=>h.elim λcy h=>.inr<|eF h.2.1<|eF h.2.2<|(cS (bM▸h.1:cy∈(s,t)::aB)).elim (λq=>q▸V (a6:aE bI.T (s,t).1=_) (V (bS:aE bI.T (s,t).2=_)<|a9.pos m rfl))<|e.2 m cy) ⟨k,an,rfl,rfl⟩;have ye:∀k∈bI.r.tr,u3 Z.P bI.r.aM (aE bI.T k.1) (aE bI.T k.2) true:=λk an=>⟨λm=>⟨λB=>al (br em m) k an,λB=>rfl⟩,λm=>((iE.mw k an).resolve_left m).elim (λq=>aj k q▸V em (V (a6:aE bI.T (s,t).1=_)<|V (bS:aE bI.T (s,t).2=_)<|a9.iT λq=>m<|em.trans q)) id⟩;have nZ:=O.ok.de (eL:=4000000) (r':={bI.r with dl:=w.r.dl}) (ms:=[w.Q.q]) kx (λa h=>eq▸Cs a ((u6<|.cons₂ _<|List.nil_sublist _) h)) {O.ok.k with bx:=eq▸jI};refine aaI (d:=d) (r:=w.r) (s:=s) (t:=t) jI iE.aG iE.wW (c1 (lg (iE.Cq O.ok.lW) dV)<|by decide) (ai List.length gg.tr) λsE n g1 bd cQ eu=> ?_;have Hd:=aaS (c:=decide<|bI.r.ns.length=w.r.ns.length) (P:=λp=>∃k b,p=(ce k,.bool b)/\iC bI.T k/\u3 Z.P bI.r.aM (aE bI.T k.1) (aE bI.T k.2) b) (λk an=>⟨k,true,rfl,iE.kJ k an,ye k an⟩) iE.knd iE.bz;have AY:gm Z [] 0 sE bI.T {w.Q with dY:=n} {bI.r with dl:=w.r.dl,tr:=[],bz:=s8 (decide<|bI.r.ns.length=w.r.ns.length) bI.r.tr bI.r.bz} (kK bI.eV):=⟨bd,iE.aM,.nil,λB=>fO,λB=>fO,Hd.1,Hd.2.1,λB=>fO,iE.dn,iE.td,
  a3 (Nat.le_of_add_le_add_right iE.jQ) (V (ot _) (V (Nat.mul_add 9 _ _) (a3 (lg (a3 (m3 9 dV) (by decide:9*160000<=4000000)) (m3 9 Hd.2.2)) (cM (m8 _ _)))))⟩
 have Cf:=nZ.1.tI (n:=n) (eq▸cQ) eu<|eq▸AY;exact aq true {bI with C:=sE,Q:={bI.Q with dY:=n},r:={bI.r with dl:=w.r.dl,tr:=[],bz:=s8 (decide<|bI.r.ns.length=w.r.ns.length) bI.r.tr bI.r.bz}} (fin g1) ⟨Cf.1,O.pre,jn.trans<|O.bU.trans<|nZ.2.trans Cf.2,em,V eq rfl,O.pi,⟨λm=>⟨λB=>V a6.symm<|V bS.symm<|al m (s,t)<|bM▸bo,λB=>rfl⟩,a9.iT⟩,λh=>⟨rfl,gg.dl,(ai eK.dn O.same).trans gg.g9,(h.elim O.wV λh=>a9.clean h.1 h.2).trans gg.ns⟩⟩ λB=>ab
end
end
section
def n5(c:List af):Prop:=∀x∈c,(x.val=true/\x≠cu "error"/\x≠cu "object")\/∃d,x=.ref d
noncomputable def w0:List (Nat×Nat):=[(16,16),(16,17),(16,18),(17,16),(17,17),(17,18),(18,16),(18,17),(18,18)]
noncomputable def qk(tr:List (Nat×Nat)):Nat:=(w0.filter λk=>decide<|k∉tr).length
structure rF(n:Nat)(r:eK):Prop where
 bu:r.tr≠[]
 mx:qk r.tr<=n
 dl:r.dl+3*n+4<=60
 g9:r.dn.length+n+2<=24
def tg(i:Bool)(d n:Nat)(Z:hF):Prop:=∀w z u v,decide (w.r.aM=3)=i->cc Z [] (z+1) w->rF n w.r->iC w.T (u,v)->n5 (aE w.T u)->n5 (aE w.T v)->∃b az,a0 a2 d 40 [.L w.Q.q,J u,J v] w.C=some (.bool b,az.C)/\iS Z [] z w (aE w.T u) (aE w.T v) b az
section
variable{n:Nat}{tr:List (Nat×Nat)}
def He:qk (tr++aB)<=qk tr:=a3 (cM w1.symm)<|a3 (List.countP_mono_left (l:=w0) (p:=λk=>decide<|k∉tr++aB) (q:=λk=>decide<|k∉tr) λk B h=>ck λq=>dx h<|jg _ q)<|cM w1
def cC.lim(O:cC Z ex z w az)(X:rF n w.r):rF n az.r:=O.ext.elim λaB e=>⟨λq=>X.bu (u7.mp<|br e.1 q).1,e.1▸a3 He X.mx,V (ai eK.dl O.same) X.dl,V (ai eK.dn O.same) X.g9⟩
def cC.jQ(W:cc Z ex eL w)(O:cC Z ex z w az)(m:w.r.aM=3):cC Z ex eL w az:={O with ok:={O.ok with k:={O.ok.k with jQ:=V (O.wV m)<|a3 W.k.jQ<|fl (m3 9<|lg (O.ext.elim λaB e=>a3 (cT _ aB.length)<|cM<|br eo<|ai List.length e.1.symm)<|O.rD.elim λF e=>a3 (cT _ F.length)<|cM<|br eo<|ai List.length e.symm) _}}}
end
end
section
def zh{a b:Str}{t:Bool}(aU:e9 a)(aj:e9 b)(h:decide (a≠b)=t):eh C .bu (.str a) (.str b)=some t:=(ai (Option.map λx=> !x)<|FI (C:=C) aU aj).trans<|ai some<|br decide_not h
def n5.i8{T:List af}(G:bO T){l:List Nat}(h:∀p∈l,p≠13/\p≠10/\∃r,T[p]? =some r/\(r.val=true\/∃d,r=.ref d)):n5 (lc T l):=λx ac=>(e4 ac).elim λp ab=>have q:=h p ab.1;q.2.2.elim λr aH=>by
 rw[<-ab.2,aH.1];show(((ct r).val=true/\ct r≠cu "error"/\ct r≠cu "object")\/∃d,ct r=.ref d);exact aH.2.elim (λaS=>.inl ⟨by
  delta af.val at aS⊢;exact V ww aS,λe=>q.1 (nL G.aG ((yT e rfl)▸aH.1) (G.at (i:=13) rfl)),λe=>q.2.1 (nL G.aG ((yT e rfl)▸aH.1) (G.at (i:=10) rfl))⟩) λbC=>bC.elim λd e=>.inr ⟨d,V e rfl⟩
def Ct(G:bO T0){o:af}(aA:o∈T0)(ab:p∈o.gP):n5 (fK T0 p):=by
 have bj:=G.yA aA ab;have h:∀x∈dS T0 p.dc,x≠13/\x≠10/\∃r,T0[x]? =some r/\(r.val=true\/∃d,r=.ref d):=λx ac=>bj.1.elim λr aH=>by
  have mY:=bj.2.2.2.2 x ac;by_cases an:r.kind=6
  ·cases r with
   |dM ps=>
    have By:m2 T0 ps:=G.row _ _ aH;have e:dS T0 p.dc=ps:=by delta dS;exact(bH<|G.o3 aH).trans (by rw[aH])
    rw[e]at ac;exact⟨(By.o1 x ac).2.2.2.2.2.1,(By.o1 x ac).2.2.2.1,mY⟩
   |_=>exact nomatch an
  ·rw[G.uD aH an]at ac;by_cases eU:p.dc=2
   ·rw[bh eU]at ac;cases ac
   ·rw[bH eU]at ac;exact bR ac▸⟨bj.2.2.2.1,bj.2.1,bR ac▸mY⟩
 have c:n5 (aE T0 p.dc):=.i8 G h;delta fK;by_cases aA:gj p.b2=true
 ·rw[bh aA];by_cases h0:0<=fT (dq T0 [p.dc,4])
  ·rw[bh h0];exact c
  ·rw[bH h0];exact .i8 G λx ac=>bj.1.elim λr aH=>((G.sJ aH).mp ac).elim (h x) λe=>e▸⟨by decide,by decide,_,G.rh,.inl rfl⟩
 ·rw[bH aA];exact c
section
variable{n:Nat}
def aaU(io:tg true (d+4) n Z)(W:cc Z [] (z+1) w)(X:rF n w.r)(bl:w.r.aM=3){o o':af}(aA:o∈Z.T0)(kY:o'∈Z.T0)(ab:p∈o.gP)(aC:q∈o'.gP)(np:e9 p.name)(uL:e9 q.name)(aq:∀b az,a0 a2 (d+6) 95 [.L w.Q.q,cn p,cn q] w.C=some (.bool b,az.C)->cC Z [] (z+1) w az->(b=true->ix (gy Z.T0 p) (gy Z.T0 q)/\lV Z az.T az.r.tr (fK Z.T0 p) (fK Z.T0 q))->(b=false->¬(ix (gy Z.T0 p) (gy Z.T0 q)/\cK Z.P (fK Z.T0 p) (fK Z.T0 q)))->R):R:=by
 have ef:∀(C:St) (p:ed),fq C (cn p) (.int 0)=some (.str p.name):=λB B=>b0 (i:=0) rfl;have gE:∀(C:St) (p:ed),fq C (cn p) (.int 2)=some (J p.b2):=λB B=>b0 (i:=2) rfl;have kp:∀(C:St) (p:ed),fq C (cn p) (.int 3)=some (J p.dG):=λB B=>b0 (i:=3) rfl;have cW (h:¬ix (gy Z.T0 p) (gy Z.T0 q)) (e:a0 a2 (d+6) 95 [.L w.Q.q,cn p,cn q] w.C=some (.bool false,w.C)):R:=aq false w e (cC.refl W) nofun λB q=>h q.1;by_cases Y:p.name=q.name
 ·by_cases ae:PySem.Builtin.bitAnd (p.b2:Int) 25=PySem.Builtin.bitAnd (q.b2:Int) 25
  ·by_cases ba:p.dG=q.dG
   ·by_cases cq:ij p.b2=ij q.b2
    ·refine W.wv (d:=d) aA ab λfy bG a6 cv bi aD be=> ?_;refine cv.ok.wv (d:=d) kY aC λe2 bn bS d7 bg aF bF=> ?_;have w2:aE bn.T fy=fK Z.T0 p:=(gn cv.ok.dz d7.pre be).trans aD;have m:=(ai eK.aM<|bg.trans bi).trans bl;refine(io bn z fy e2 (ck m) d7.ok (d7.lim<|cv.lim X) ⟨d7.pre.some be,bF⟩ (V w2<|Ct Z.G aA ab)<|V aF<|Ct Z.G kY aC).elim λb h=>h.elim λfx h=> ?_;have d2:a0 a2 (d+4) 40 [.L w.Q.q,J fy,J e2] bn.C=some (.bool b,fx.C):=eF (ai fo.q<|d7.q.trans cv.q) h.1;exact aq b fx (go λk=>k _ W.k.bx.c5 _ W.au.cz _ _ rfl _ _ rfl _ (ef _ _) _ (ef _ _) _ (zh np uL<|cp λq=>q Y) _ (gE _ _) _ _ (di _ _ _) _ (gE _ _) _ _ (di _ _ _) _ (kA<|cp λq=>q ae) _ (kp _ _) _ (kp _ _) _ (kc ba) _ _ (sF (d:=d+4)) _ _ (sF (d:=d+4)) _ (ai some<|beq_iff_eq.mpr cq) _ W.k.bx.ph _ _ a6 _ _ bS _ _<|go λk=>k _ _ d2) ((cv.trans d7).trans<|h.2.out.jQ d7.ok m) (λe=>⟨⟨Y,ae,ba,cq⟩,eF w2<|eF aF<|h.2.pos m e⟩) λe q=>h.2.neg m e<|V w2<|V aF q.2
    ·exact cW (λm=>cq m.rf)<|go λk=>k _ W.k.bx.c5 _ W.au.cz _ _ rfl _ _ rfl _ (ef _ _) _ (ef _ _) _ (zh np uL<|cp λq=>q Y) _ (gE _ _) _ _ (di _ _ _) _ (gE _ _) _ _ (di _ _ _) _ (kA<|cp λq=>q ae) _ (kp _ _) _ (kp _ _) _ (kc ba) _ _ (sF (d:=d+4)) _ _ (sF (d:=d+4)) _<|ai some<|beq_eq_false_iff_ne.mpr cq
   ·exact cW (λm=>ba m.dG)<|go λk=>k _ W.k.bx.c5 _ W.au.cz _ _ rfl _ _ rfl _ (ef _ _) _ (ef _ _) _ (zh np uL<|cp λq=>q Y) _ (gE _ _) _ _ (di _ _ _) _ (gE _ _) _ _ (di _ _ _) _ (kA<|cp λq=>q ae) _ (kp _ _) _ (kp _ _) _<|kb ba
  ·exact cW (λm=>ae m.uB)<|go λk=>k _ W.k.bx.c5 _ W.au.cz _ _ rfl _ _ rfl _ (ef _ _) _ (ef _ _) _ (zh np uL<|cp λq=>q Y) _ (gE _ _) _ _ (di _ _ _) _ (gE _ _) _ _ (di _ _ _) _<|kA<|ck ae
 ·exact cW (λm=>Y m.name)<|go λk=>k _ W.k.bx.c5 _ W.au.cz _ _ rfl _ _ rfl _ (ef _ _) _ (ef _ _) _<|zh np uL<|ck Y
end
end
section
noncomputable def O4:List dB:=jN<|De.body.getD 4 .fA
section
variable{n:Nat}{c8:List ed}{f g:Nat}
def aaV(io:tg true (d+4) n Z)(aaW:BB Z.T0 ps)(aaX:BB Z.T0 c8)(xs:List ed):∀{ys:List ed} {k z:Nat} {w:gA} {H:bT},cc Z [] (z+1) w->rF n w.r->w.r.aM=3->ps.drop k=xs->c8.drop k=ys->xs.length=ys.length->H 0=some (.L w.Q.q)->H 4=some (af.obj ps f).b6->H 5=some (af.obj c8 g).b6->
  (∀c aT az,fX (λB=>true) (λx H s=>cG (bk<|d+6) O4 (ar H 6 x) s) ((List.range' k xs.length).map J) H w.C=some (c,aT,az.C)->cC Z [] (z+1) w az->(∀i,i≠6->aT i=H i)->((c=.next/\cD (λp q=>ix (gy Z.T0 p) (gy Z.T0 q)/\lV Z az.T az.r.tr (fK Z.T0 p) (fK Z.T0 q)) xs ys)\/(c=.ret (.bool false)/\¬cD (λp q=>ix (gy Z.T0 p) (gy Z.T0 q)/\cK Z.P (fK Z.T0 p) (fK Z.T0 q)) xs ys))->R)->R:=by
 induction xs with
 |nil=>
  intro ys k z w H W X m aD aF ao h0 cq dF aq;cases ys with
  |nil=>exact aq .next H w rfl (cC.refl W) (λB B=>rfl) (.inl ⟨rfl,trivial⟩)
  |cons=>exact Nat.noConfusion ao
 |cons p xs ay=>
  intro ys k z w H W X m aD aF ao h0 cq dF aq;cases ys with
  |nil=>exact Nat.noConfusion ao
  |cons q ys=>
   have a:=BD aD;have b:=BD aF;have ab:=aaW.mem p<|dK a.1;have aC:=aaX.mem q<|dK b.1;have FC:fq w.C (.ak<|ps.map cn) (.int k)=some (cn p):=b0<|nN (f:=cn) a.1;have O5:fq w.C (.ak<|c8.map cn) (.int k)=some (cn q):=b0<|nN (f:=cn) b.1;refine ab.2.elim λo aA=>aC.2.elim λo' kY=>aaU (d:=d) io W X m aA.1 kY.1 aA.2 kY.2 ab.1.name aC.1.name λt bG a6 cv pos neg=> ?_;cases t with
   |false=>exact aq _ _ bG (mQ rfl<|eJ λk=>k _ h0 _ cq _ (b0 (i:=1) rfl) _ rfl _ FC _ dF _ (b0 (i:=1) rfl) _ rfl _ O5 _ _ a6) cv (λi ah=>pZ _ _ ah)<|.inr ⟨rfl,λh=>neg rfl h.1⟩
   |true=>exact ay (H:=ar H 6<|J k) cv.ok (cv.lim X) (V cv.same m) a.2 b.2 (nl ao) (V cv.q h0) cq dF λc aT az f1 f2 hk f4=>aq c aT az (eT rfl (eJ λk=>k _ h0 _ cq _ (b0 (i:=1) rfl) _ rfl _ FC _ dF _ (b0 (i:=1) rfl) _ rfl _ O5 _ _ a6) f1) (cv.trans f2) (λi ah=>(hk i ah).trans<|pZ _ _ ah)<|f4.imp (λh=>⟨h.1,⟨(pos rfl).1,f2.up cv.ok _ _ (pos rfl).2⟩,h.2⟩) λh=>⟨h.1,λq=>h.2 q.2⟩
end
end
section
def cD.Hf{α β kP yb:Type}{c4:kP->yb->Prop}{f:α->kP}{g:β->yb}{xs:List α}:∀{ys:List β},cD (λx y=>c4 (f x)<|g y) xs ys↔cD c4 (xs.map f) (ys.map g):=by
 induction xs with
 |nil=>exactλ{ys}=>by cases ys<;>exact Iff.rfl
 |cons x xs ay=>exactλ{ys}=>by cases ys with
  |nil=>exact Iff.rfl
  |cons y ys=>exact and_congr_right λB=>ay
def cD.len{α β:Type}{c4:α->β->Prop}{xs:List α}:∀{ys:List β},cD c4 xs ys->xs.length=ys.length:=by
 induction xs with
 |nil=>exactλ{ys} v=>by cases ys with
  |nil=>rfl
  |cons=>exact v.elim
 |cons x xs ay=>exactλ{ys} v=>by cases ys with
  |nil=>exact v.elim
  |cons=>exact ai Nat.succ<|ay v.2
def kinds(a:af):a.kind∈[1,2,3,4,6,8,9]:=by cases a<;>exact dx rfl
def zi{a:af}(h:a.shaped):a.kind=8\/a.kind=9:=by cases a<;>first|exact .inl rfl|exact .inr rfl|exact Bool.noConfusion h
def zj{a:af}(h:a.shaped):a.kind≠6:=λe=>(zi h).elim (λq=>mC (br q e) rfl) λq=>mC (br q e) rfl
def fz{v:Bool}(l:List Nat)(h:decide (r.kind∈l)=v):l3 C (J r.kind) (.ak (l.map λn:Nat=>I.int n))=some v:=h▸mR C r.kind l
def Hg{a b:af}:a0 a2 (d+1) 54 [J a.kind,J b.kind] C=some (.int 5,C):=by
 have key:∀k:Nat,k∈[1,2,3,4,6,8,9]->decide ((k:Int)=7)=false/\decide ((k:Int)=13)=false/\decide (k∈[10,14,15,16,17,18,19])=false/\decide (k∈[11,12])=false:=by decide
 have x:=key _<|kinds a;exact go λr=>r _ (gY x.1) _ (gY (key _<|kinds b).1) _ (ej<|fz [10,14,15,16,17,18,19] x.2.2.1) _ (ej<|fz [10,14,15,16,17,18,19] (key _<|kinds b).2.2.1) _ (gY x.2.1) _<|ej<|fz [11,12] x.2.2.2
noncomputable def aaY(i:Nat):dB:=De.body.getD i .fA
section
variable{n:Nat}{a b:af}{k:Bool}{y:I×St}
def aaZ(io:tg true (d+4) n Z)(W:cc Z [] (z+1) w)(X:rF n w.r)(bl:w.r.aM=3)(aU:w.T[s]? =some a)(aj:w.T[t]? =some b)(g3:a.shaped)(fg:b.shaped)(na:s≠11)(nb:t≠11)(aq:∀c az,a0 a2 (d+7) 94 [.L w.Q.q,J s,J t] w.C=some (.bool c,az.C)->lX Z [] z w [a] [b] c az->R):R:=
 have ll:=yG Z.G Z.D W.dz aU g3 na;have h1:=yG Z.G Z.D W.dz aj fg nb
 ll.1.d4.elim λu h=>h.elim λf bD=>h1.1.d4.elim λv h=>h.elim λg aS=>by
  have a4:∀{c az},cC Z [] (z+1) w az->(c=true->cD (λp q=>ix (gy Z.T0 p) (gy Z.T0 q)/\lV Z az.T az.r.tr (fK Z.T0 p) (fK Z.T0 q)) (fP Z.T0 Z.a1 a) (fP Z.T0 Z.a1 b))->(c=false->¬cD (λp q=>ix (gy Z.T0 p) (gy Z.T0 q)/\cK Z.P (fK Z.T0 p) (fK Z.T0 q)) (fP Z.T0 Z.a1 a) (fP Z.T0 Z.a1 b))->lX Z [] z w [a] [b] c az:=λO p q=>⟨O.gf<|jZ _,λB e=>.inl ⟨a,b,rfl,rfl,g3,fg,cD.Hf.mp<|(p e).imp λB B h=>⟨h.1,.inr h.2⟩⟩,λB e h=>q e<|(cD.Hf (c4:=λp q=>ix p q/\cK Z.P p.lb q.lb)).mpr<|(h.aR.elim (λe=>e▸.refl) λo=>o.gP:mZ (cK Z.P) (Z.P a) (Z.P b)).imp λB B h=>⟨h.1,.uC h.2⟩,λm=>absurd bl m,λB B=>O.wV bl⟩;have Y:a0 a2 (d+6) 68 [.L Z.A.co,J s] w.C=some (J u,w.C):=rc (d:=d+4) W.au bD.1;have ae:a0 a2 (d+6) 68 [.L Z.A.co,J t] w.C=some (J v,w.C):=rc (d:=d+4) W.au aS.1;by_cases ao:(fP Z.T0 Z.a1 a).length=(fP Z.T0 Z.a1 b).length
  ·refine aaV (d:=d) (f:=f) (g:=g) io ll.2 h1.2 (fP Z.T0 Z.a1 a) (k:=0) (ys:=fP Z.T0 Z.a1 b) (H:=ar (ar (ar (cm [.L w.Q.q,J s,J t]) 3<|.L Z.A.co) 4 (af.obj (fP Z.T0 Z.a1 a) f).b6) 5 (af.obj (fP Z.T0 Z.a1 b) g).b6) W X bl rfl rfl ao rfl rfl rfl λc aT az e O u9 h=> ?_;have j0:cw (bk<|d+6) (aaY 4) (ar (ar (ar (cm [.L w.Q.q,J s,J t]) 3<|.L Z.A.co) 4 (af.obj (fP Z.T0 Z.a1 a) f).b6) 5 (af.obj (fP Z.T0 Z.a1 b) g).b6) w.C=some (c,aT,az.C):=wq (n:=(fP Z.T0 Z.a1 a).length) (jj λk=>k _ (b0 (i:=1) rfl) _ _<|ai (λn:Nat=>some (I.int n,w.C))<|c2 cn) (c1 ll.2.f9<|by decide)<|(ai (λl=>fX (λB=>true) (λx H s=>cG (bk<|d+6) O4 (ar H 6 x) s) l _ w.C)<|ai (List.map J) List.range_eq_range').trans e;refine h.elim (λq=> ?_) λq=> ?_
   ·obtain⟨rfl,q⟩:=q;exact aq true az (q7 [false,false,false,false,true] λk=>k _ rfl _ W.k.bx.c5 _ rfl _ W.au.cz _ W.au.cJ _ rfl _ W.au.n1 _ rfl _ _ Y _ (W.au.row bD.2) _ rfl _ W.au.cz _ W.au.cJ _ rfl _ W.au.n1 _ rfl _ _ ae _ (W.au.row aS.2) _ rfl _ (b0 (i:=1) rfl) _ _ (ai (λn:Nat=>some (I.int n,w.C))<|c2 cn) _ rfl _ (b0 (i:=1) rfl) _ _ (ai (λn:Nat=>some (I.int n,w.C))<|c2 cn) _ (kc ao) _ _ _ j0 _ (u9 4<|by decide) _ _ rfl _ rfl _ (u9 5<|by decide) _ _ rfl _ rfl _ (u9 4<|by decide) _ _ rfl _ rfl _ (u9 5<|by decide) _ _ rfl _ rfl)<|a4 O (λB=>q) nofun
   ·obtain⟨rfl,q⟩:=q;exact aq false az (q7 [false,false,false,false,true] λk=>k _ rfl _ W.k.bx.c5 _ rfl _ W.au.cz _ W.au.cJ _ rfl _ W.au.n1 _ rfl _ _ Y _ (W.au.row bD.2) _ rfl _ W.au.cz _ W.au.cJ _ rfl _ W.au.n1 _ rfl _ _ ae _ (W.au.row aS.2) _ rfl _ (b0 (i:=1) rfl) _ _ (ai (λn:Nat=>some (I.int n,w.C))<|c2 cn) _ rfl _ (b0 (i:=1) rfl) _ _ (ai (λn:Nat=>some (I.int n,w.C))<|c2 cn) _ (kc ao) _ _ _ j0)<|a4 O nofun λB=>q
  ·exact aq false w (go λk=>k _ W.k.bx.c5 _ W.au.cz _ W.au.cJ _ W.au.n1 _ _ Y _ (W.au.row bD.2) _ W.au.cz _ W.au.cJ _ W.au.n1 _ _ ae _ (W.au.row aS.2) _ (b0 (i:=1) rfl) _ _ (ai (λn:Nat=>some (I.int n,w.C))<|c2 cn) _ (b0 (i:=1) rfl) _ _ (ai (λn:Nat=>some (I.int n,w.C))<|c2 cn) _<|kb ao)<|a4 (.refl W) nofun λB h=>ao h.len
def bO.iA{T:List af}(G:bO T)(h:T[s]? =some a):(0<mh a->s=15+mh a)/\mh a<=3:=by
 have k:=G.row s a h;cases a with
 |ref e=>exact⟨λB=>k.1,k.2.2⟩
 |_=>exact⟨λq=>absurd q<|Nat.lt_irrefl 0,jA _⟩
def cc.g9(W:cc Z ex z w)(u:hL w.C (w.Q.q+5) (.list dn) S)(h:Ck dn):cc Z ex z {w with C:=S,r:={w.r with dn:=dn}}/\jR Z w {w with C:=S,r:={w.r with dn:=dn}}:=W.de u.bU (λa q=>bR q▸dK (i:=4) rfl) {W.k with bx:=W.k.bx.aaf u,dn:=h}
def Hh(W:cc Z ex eL w)(aH:w.r.dn.length<24)(aU:w.T[s]? =some a)(aj:w.T[t]? =some b)(sR:∀ax x,cc Z ex eL {w with C:=ax,r:={w.r with dn:=w.r.dn++[x]}}->(∀c bn,(w.r.aM=3->a0 a2 (d+7) 94 [.L w.Q.q,J s,J t] ax=some (.bool c,bn.C))->(w.r.aM≠3->a0 a2 (d+7) 85 [.L w.Q.q,J s,J t,.bool k] ax=some (.bool c,bn.C))->lX Z ex z {w with C:=ax,r:={w.r with dn:=w.r.dn++[x]}} aI gG c bn->R)->R)(aq:∀c az,a0 a2 (d+8) 82 [.L w.Q.q,J s,J t,.bool k] w.C=some (.bool c,az.C)->lX Z ex z w aI gG c az->R):R:=by
 refine uo (v:=.ak [J<|mh a,J s,J<|mh b,J t]) W.k.bx.g9 (W.k.bx.pos 4 rfl) (ea aH<|by decide) λax Y u=> ?_;have g5:=W.g9 u λx ac=>(gb ac).elim (W.k.dn x) λq=>⟨_,_,_,bR q,(W.cX.iA aU).1⟩;refine sR ax _ g5.1 λc bn a6 bS a9=> ?_;have O:=a9.out;have e:bn.Q=w.Q:=O.q;have kf:gm Z ex z bn.C bn.T w.Q bn.r (kK bn.eV):=e▸O.ok.k;have bg:bn.C[w.Q.q+5]? =some (.list<|w.r.dn++[.ak [J<|mh a,J s,J<|mh b,J t]]):=kf.bx.g9.trans<|ai (λl=>some<|b3.list l)<|ai eK.dn O.same;refine G0 bg (W.k.bx.pos 4 rfl) λcB ba v=> ?_;have hJ:=O.ok.g9 (dn:=w.r.dn) (e▸v) W.k.dn;refine aq c {bn with C:=cB,r:={bn.r with dn:=w.r.dn}} ?_ ⟨⟨hJ.1,O.pre,g5.2.trans<|O.bU.trans hJ.2,e,V O.same rfl,O.ext,O.rD,O.u4,O.pi⟩,a9.pos,a9.neg,a9.iT,a9.clean⟩;by_cases bl:w.r.aM=3
 ·exact go λk=>k _ _ (OK (d:=d+5) W.k.bx W.au W.k.dn aH aU) _ W.k.bx.c5 _ W.au.cz _ W.au.cJ _ W.k.bx.s6 _ (lH W.k.bx.g9) _ (W.au.row aU) _ _ wr _ (W.au.row aj) _ _ wr _ _ (lI W.k.bx.g9 Y) _ g5.1.k.bx.d5 _ (cY (b:=3) bl) _ _ (a6 bl) _ kf.bx.s6 _ (lH bg) _ _<|lI bg ba
 ·exact go λk=>k _ _ (OK (d:=d+5) W.k.bx W.au W.k.dn aH aU) _ W.k.bx.c5 _ W.au.cz _ W.au.cJ _ W.k.bx.s6 _ (lH W.k.bx.g9) _ (W.au.row aU) _ _ wr _ (W.au.row aj) _ _ wr _ _ (lI W.k.bx.g9 Y) _ g5.1.k.bx.d5 _ (bN (b:=3) bl) _ _ (bS bl) _ kf.bx.s6 _ (lH bg) _ _<|lI bg ba
def cc.j4(W:cc Z ex z w)(aU:w.T[s]? =some a)(aj:w.T[t]? =some b)(st:s≠t){P:Prop}(dJ:a.kind≠9->P)(fi:a.kind=9->b.kind≠9->P)(og:∀e f,a=.ref e->b=.ref f->e≠f->P):P:=by
 by_cases dh:a.kind=9
 ·by_cases da:b.kind=9
  ·cases a with
   |ref e=>cases b with
    |ref f=>exact og e f rfl rfl λq=>st (((W.cX.row s _ aU).1).trans ((ai (15+·) q).trans ((W.cX.row t _ aj).1).symm))
    |_=>exact mC da rfl
   |_=>exact mC dh rfl
  ·exact fi dh da
 ·exact dJ dh
def aa0(W:cc Z ex z w)(aU:w.T[s]? =some a)(aj:w.T[t]? =some b)(fg:b.shaped)(st:s≠t)(h:a0 a2 d 82 [.L w.Q.q,J s,J t,.bool true] w.C=some y):a0 a2 (d+1) 80 [.L w.Q.q,J s,J t,.bool true] w.C=some y:=
 have Hi:¬t=10:=λq=>b7<|(ai af.shaped<|bp<|(W.cX.at (i:=10) rfl).symm.trans<|q▸aj).trans fg;have nb:=o0<|fz (C:=w.C) [8,9]<|yt<|zi fg
 W.j4 aU aj st (λdh=>go λk=>k _ W.k.bx.c5 _ W.au.cz _ W.au.cJ _ (W.au.row aU) _ W.au.cJ _ (W.au.row aj) _ (bN (b:=10) Hi) _ cN _ nb _ cN _ (bN (b:=9) dh) _ _ h)
  (λdh da=>go λk=>k _ W.k.bx.c5 _ W.au.cz _ W.au.cJ _ (W.au.row aU) _ W.au.cJ _ (W.au.row aj) _ (bN (b:=10) Hi) _ cN _ nb _ cN _ (cY (b:=9) dh) _ cN _ (bN (b:=9) da) _ _ h)
  λe f zk sS bu=>by
   subst zk sS;exact go λk=>k _ W.k.bx.c5 _ W.au.cz _ W.au.cJ _ (W.au.row aU) _ W.au.cJ _ (W.au.row aj) _ (bN (b:=10) Hi) _ rfl _ nb _ rfl _ rfl _ rfl _ rfl _ (b0 (i:=1) rfl) _ (b0 (i:=1) rfl) _ (bN bu) _ _ h
def aa1(W:cc Z ex z w)(aU:w.T[s]? =some a)(aj:w.T[t]? =some b)(g3:a.shaped)(fg:b.shaped)(st:s≠t)(h:a0 a2 d 82 [.L w.Q.q,J s,J t,.bool false] w.C=some y):a0 a2 (d+1) 93 [.L w.Q.q,J s,J t] w.C=some y:=
 have na:=o0<|fz (C:=w.C) [8,9]<|yt<|zi g3;have nb:=o0<|fz (C:=w.C) [8,9]<|yt<|zi fg
 W.j4 aU aj st (λdh=>go λk=>k _ W.k.bx.c5 _ W.au.cz _ W.au.cJ _ (W.au.row aU) _ W.k.bx.c5 _ W.au.cz _ W.au.cJ _ (W.au.row aj) _ cN _ na _ cN _ nb _ cN _ (bN (b:=9) dh) _ _ h)
  (λdh da=>go λk=>k _ W.k.bx.c5 _ W.au.cz _ W.au.cJ _ (W.au.row aU) _ W.k.bx.c5 _ W.au.cz _ W.au.cJ _ (W.au.row aj) _ cN _ na _ cN _ nb _ cN _ (cY (b:=9) dh) _ cN _ (bN (b:=9) da) _ _ h)
  λe f zk sS bu=>by
   subst zk sS;exact go λk=>k _ W.k.bx.c5 _ W.au.cz _ W.au.cJ _ (W.au.row aU) _ W.k.bx.c5 _ W.au.cz _ W.au.cJ _ (W.au.row aj) _ rfl _ na _ rfl _ nb _ rfl _ rfl _ rfl _ rfl _ (b0 (i:=1) rfl) _ (b0 (i:=1) rfl) _ (bN bu) _ _ h
def O6(W:cc Z ex z w)(bl:w.r.aM≠3)(aU:w.T[s]? =some a)(aj:w.T[t]? =some b)(dh:a.kind≠6)(fg:b.shaped)(st:s≠t)(h:a0 a2 d 82 [.L w.Q.q,J s,J t,.bool true] w.C=some y):a0 a2 (d+4) 53 [.L w.Q.q,J s,J t] w.C=some y:=go λk=>k _ W.k.bx.c5 _ W.au.cz _ W.au.cJ _ (W.au.row aU) _ cN _ (W.au.row aj) _ cN _ (bN (b:=6) dh) _ (bN (b:=6)<|zj fg) _ _ Hg _ _<|OH W.k.bx<|go λk=>k _ W.k.bx.d5 _ (bN (b:=3) bl) _ _<|aa0 W aU aj fg st h
def Hj(h:r.kind≠6):decide (r.kind∈[6,7])=false:=cp λq=>(cS q).elim h λq=>(by decide:∀k∈[1,2,3,4,6,8,9],k≠7) _ (kinds r)<|bR q
def aa2(W:cc Z ex z w)(bl:w.r.aM=3)(aU:w.T[s]? =some a)(aj:w.T[t]? =some b)(g3:a.shaped)(fg:b.shaped)(st:s≠t)(h:a0 a2 d 82 [.L w.Q.q,J s,J t,.bool false] w.C=some y):a0 a2 (d+4) 59 [.L w.Q.q,J s,J t] w.C=some y:=by
 have aH:a0 a2 (d+3) 35 [.L w.Q.q,.int 5,J s,J t] w.C=some y:=OH W.k.bx<|go λk=>k _ W.k.bx.d5 _ (cY (b:=3) bl) _ _<|aa1 W aU aj g3 fg st h;have dh:=ej<|fz (C:=w.C) [6,7]<|Hj<|zj g3;have da:=ej<|fz (C:=w.C) [6,7]<|Hj<|zj fg;by_cases e:a.kind=b.kind
 ·exact go λk=>k _ W.k.bx.c5 _ W.au.cz _ W.au.cJ _ (W.au.row aU) _ (W.au.row aj) _ cN _ cN _ (cY e) _ cN _ (bN (b:=6)<|zj g3) _ cN _ (bN (b:=7) λq=>(by decide:∀k∈[1,2,3,4,6,8,9],k≠7) _ (kinds a) q) _ cN _ dh _ cN _ da _ cN _ cN _ _ Hg _ _ aH
 ·exact go λk=>k _ W.k.bx.c5 _ W.au.cz _ W.au.cJ _ (W.au.row aU) _ (W.au.row aj) _ cN _ cN _ (bN e) _ cN _ dh _ cN _ da _ cN _ cN _ _ Hg _ _ aH
end
end
section
def Cu(h:r.kind≠6):decide (r.kind∈[6,7,10,14,15,16,17,18,19])=false:=(by decide:∀k:Nat,k∈[1,2,3,4,6,8,9]->k≠6->decide (k∈[6,7,10,14,15,16,17,18,19])=false) _ (kinds r) h
def Hk(h:r.kind=6):decide (r.kind∈[6,7,10,14,15,16,17,18,19])=true:=V h rfl
def Cv:decide (r.kind∈[10,14,15,16,17,18,19])=false:=(by decide:∀k:Nat,k∈[1,2,3,4,6,8,9]->decide (k∈[10,14,15,16,17,18,19])=false) _<|kinds r
def Bm:¬r.kind=5:=(by decide:∀k:Nat,k∈[1,2,3,4,6,8,9]->¬k=5) _<|kinds r
def aa3{a:af}{i:Int}(h:eY a=i)(h0:0<=i):(i=6/\tb a=some (cu "string"))\/(i=7/\tb a=some (cu "number")):=by
 cases a with
 |str=>exact .inl ⟨h.symm,rfl⟩
 |num=>exact .inr ⟨h.symm,rfl⟩
 |_=>exact absurd (Int.le_trans h0<|Int.le_of_eq h.symm) (by decide:¬(0:Int)<=-1)
def Hl{a b:af}(h:tb a=some b):(eY a=6/\b=cu "string")\/(eY a=7/\b=cu "number"):=by
 cases a with
 |str=>exact .inl ⟨rfl,(bp h).symm⟩
 |num=>exact .inr ⟨rfl,(bp h).symm⟩
 |_=>exact bf h
def ju{T:List af}{a x:af}(G:bO T)(ac:fU[i]? =some x)(aJ:T[s]? =some a):a=x↔s=i:=⟨λe=>nL G.aG aJ<|e▸G.at ac,λe=>bp<|br aJ<|e▸G.at ac⟩
def O7{T:List af}{a b:af}(G:bO T)(aP:T[t]? =some b):eY a=(t:Int)↔tb a=some b:=
 ⟨λh=>(aa3 h<|p5 _).elim (λq=>q.2.trans<|ai some ((ju G (i:=6) rfl aP).mpr<|k0 q.1).symm) λq=>q.2.trans<|ai some ((ju G (i:=7) rfl aP).mpr<|k0 q.1).symm,
  λh=>(Hl h).elim (λq=>q.1.trans (ai Int.ofNat ((ju G (i:=6) rfl aP).mp q.2)).symm) λq=>q.1.trans (ai Int.ofNat ((ju G (i:=7) rfl aP).mp q.2)).symm⟩
noncomputable def O8(i:Nat):dB:=H6.body.getD i .fA
noncomputable def aa4(i:Nat):dB:=H7.body.getD i .fA
section
variable{e v:Nat}{a b:af}
def aa5(W:cc Z ex z w)(bD:w.T[u]? =some a)(aS:w.T[v]? =some b)(dJ:a0 a2 (d+3) 51 [.L w.Q.q,J u,J v] w.C=some (.int 1,w.C)->rC w.r.aM a b->R)(gh:a0 a2 (d+3) 51 [.L w.Q.q,J u,J v] w.C=some (.int 0,w.C)->¬rC w.r.aM a b->R):R:=by
 have G:=W.cX;have cq:=ju G (i:=4) (x:=cu "undefined") rfl bD;have ba:=ju G (i:=3) (x:=cu "void") rfl aS;have bG:=O7 (a:=a) G aS;have bn:=O7 (a:=b) G bD;by_cases et:u=4
 ·by_cases cP:v=3
  ·exact dJ (go λk=>k _ (cY (b:=4) et) _<|cY (b:=3) cP)<|.inl ⟨cq.mpr et,ba.mpr cP⟩
  ·refine gh (go λk=>k _ (cY (b:=4) et) _<|bN (b:=3) cP) λh=>h.elim (λh=>cP<|ba.mp h.2) λh=>h.elim (λh=>bf<|(ai tb<|cq.mpr et).symm.trans h) λh=> ?_;exact(Hl h.2).elim (λq=>mC (br et<|(ju G (i:=6) rfl bD).mp q.2) rfl) λq=>mC (br et<|(ju G (i:=7) rfl bD).mp q.2) rfl
 ·by_cases aD:eY a=(v:Int)
  ·exact dJ (go λk=>k _ (bN (b:=4) et) _ W.k.bx.c5 _ W.au.cz _ W.au.cJ _ (W.au.row bD) _ W.k.bx.c5 _ W.au.cz _ W.au.cJ _ (W.au.row aS) _ _ uu _ (gY<|ck aD) _ _ uu _<|ka<|ck<|aD▸p5 _)<|.inr<|.inl<|bG.mp aD
  ·by_cases aF:w.r.aM=2/\eY b=(u:Int)
   ·exact dJ (go λk=>k _ (bN (b:=4) et) _ W.k.bx.c5 _ W.au.cz _ W.au.cJ _ (W.au.row bD) _ W.k.bx.c5 _ W.au.cz _ W.au.cJ _ (W.au.row aS) _ _ uu _ (gY<|cp aD) _ W.k.bx.d5 _ (cY (b:=2) aF.1) _ _ uu _<|gY<|ck aF.2)<|.inr<|.inr ⟨aF.1,bn.mp aF.2⟩
   ·have pg:cw (bk<|d+2) (aa4 4) (ar (ar (cm [.L w.Q.q,J u,J v]) 3 a.b6) 4 b.b6) w.C=some (.next,ar (ar (cm [.L w.Q.q,J u,J v]) 3 a.b6) 4 b.b6,w.C):=by
     by_cases cU:w.r.aM=2
     ·exact dk λk=>k _ W.k.bx.d5 _ (cY (b:=2) cU) _ _ uu _<|gY<|cp λq=>aF ⟨cU,q⟩
     ·exact dk λk=>k _ W.k.bx.d5 _<|bN (b:=2) cU
    have hn:a0 a2 (d+2) 52 [.L w.Q.q,J u,a.b6,b.b6] w.C=some (.int 0,w.C):=by
     by_cases ql:w.r.aM=4
     ·exact go λk=>k _ W.k.bx.d5 _<|cY (b:=4) ql
     ·exact go λk=>k _ W.k.bx.d5 _ (bN (b:=4) ql) _ _<|go λk=>k _ cN _<|bN (b:=5) Bm
    exact gh (gi [false,false,false,false,true] λk=>k _ (bN (b:=4) et) _ W.k.bx.c5 _ W.au.cz _ W.au.cJ _ (W.au.row bD) _ W.k.bx.c5 _ W.au.cz _ W.au.cJ _ (W.au.row aS) _ _ uu _ (gY<|cp aD) _ _ _ pg _ cN _ (bN (b:=5) Bm) _ cN _ (bN (b:=5) Bm) _ _ hn) λh=>h.elim (λh=>et<|cq.mp h.1) λh=>h.elim (λh=>aD<|bG.mpr h) λh=>aF ⟨h.1,bn.mpr h.2⟩
def O9(h:v=0\/v=13\/u=2\/u=13):a0 a2 (d+1) 48 [x,J u,J v] C=some (.int 1,C):=by
 by_cases aD:v=0
 ·exact go λk=>k _<|cY (b:=0) aD
 ·by_cases aF:v=13
  ·exact go λk=>k _ (bN (b:=0) aD) _<|cY (b:=13) aF
  ·by_cases cP:u=2
   ·exact go λk=>k _ (bN (b:=0) aD) _ (bN (b:=13) aF) _<|cY (b:=2) cP
   ·exact go λk=>k _ (bN (b:=0) aD) _ (bN (b:=13) aF) _ (bN (b:=2) cP) _<|cY (b:=13)<|((h.resolve_left aD).resolve_left aF).resolve_left cP
def aa6(W:cc Z ex (z+e) w)(he:u=0->1<=e)(bl:w.r.aM≠3)(bD:w.T[u]? =some a)(aS:w.T[v]? =some b)(eU:11∉dS w.T v)(dJ:a0 a2 (d+3) 48 [.L w.Q.q,J u,J v] w.C=some (.int 1,w.C)->(v=0\/v=13\/u=2\/u=13)\/(v=1/\¬(u=0/\w.r.aM=4))->R)(bz:∀az,a0 a2 (d+3) 48 [.L w.Q.q,J u,J v] w.C=some (.int 1,az.C)->cC Z ex z w az->az.r.tr=w.r.tr->u=0->w.r.aM≠4->v≠0->v≠2->R)(gh:a0 a2 (d+3) 48 [.L w.Q.q,J u,J v] w.C=some (.int 0,w.C)->(u=0/\w.r.aM=4/\v≠0)\/(u=1/\v≠0/\v≠1)\/(v=2/\u≠2/\a.kind≠6)->R)(w3:a0 a2 (d+3) 48 [.L w.Q.q,J u,J v] w.C=some (.int<|-1,w.C)->u≠0->u≠1->u≠2->v≠0->v≠1->(v=2->a.kind=6)->R):R:=by
 by_cases c:v=0\/v=13\/u=2\/u=13
 ·exact dJ (O9 c)<|.inl c
 ·have iM:¬v=0:=λq=>c<|.inl q;have e2:¬u=2:=λq=>c<|.inr<|.inr<|.inl q;have gZ:cw (bk<|d+2) (O8 0) (cm [.L w.Q.q,J u,J v]) w.C=some (.next,cm [.L w.Q.q,J u,J v],w.C):=dk λk=>k _ (bN (b:=0) iM) _ (bN (b:=13) λq=>c<|.inr<|.inl q) _ (bN (b:=2) e2) _<|bN (b:=13) λq=>c<|.inr<|.inr<|.inr q;have g0:¬(u=0/\w.r.aM=4)->cw (bk<|d+2) (O8 1) (cm [.L w.Q.q,J u,J v]) w.C=some (.next,cm [.L w.Q.q,J u,J v],w.C):=λn=>by
   by_cases e8:u=0
   ·exact dk λk=>k _ (cY (b:=0) e8) _ W.k.bx.d5 _<|bN (b:=4) λq=>n ⟨e8,q⟩
   ·exact dk λk=>k _<|bN (b:=0) e8
  by_cases a6:u=0/\w.r.aM=4
  ·exact gh (gi [true] λk=>k _ _ _ gZ _ (cY (b:=0) a6.1) _ W.k.bx.d5 _<|cY (b:=4) a6.2)<|.inl ⟨a6.1,a6.2,iM⟩
  ·by_cases ez:v=1
   ·exact dJ (gi [true,true] λk=>k _ _ _ gZ _ _ _ (g0 a6) _<|cY (b:=1) ez)<|.inr ⟨ez,a6⟩
   ·by_cases e8:u=0
    ·by_cases ec:v=2
     ·exact gh (gi [true,true] λk=>k _ _ _ gZ _ _ _ (g0 a6) _ (bN (b:=1) ez) _ (cY (b:=0) e8) _<|cY (b:=2) ec) (.inr<|.inr ⟨ec,e2,(ju W.cX (i:=0) rfl bD).mpr e8▸by decide⟩)
     ·exact(W.gf (eL:=z+1)<|hA (he e8) z).Cr (d:=d) bl (c:=1) λaz h O=>bz az (gi [true,true] λk=>k _ _ _ gZ _ _ _ (g0 a6) _ (bN (b:=1) ez) _ (cY (b:=0) e8) _ (bN (b:=2) ec) _ W.k.bx.ze _ _ h) O.1 O.2 e8 (λq=>a6 ⟨e8,q⟩) iM ec
    ·by_cases fy:u=1
     ·have bD:a0 a2 (d+2) 49 [.L w.Q.q,J v] w.C=some (.int 0,w.C):=by
       by_cases ql:w.r.aM=4
       ·exact go λk=>k _ W.k.bx.c5 _ W.au.cz _ W.au.cJ _ (W.au.row aS) _ cN _ (ej<|fz [10,14,15,16,17,18,19] Cv) _ W.k.bx.c5 _ W.au.cz _ _ (yk W.au.fZ aS) _ W.k.bx.d5 _<|cY (b:=4) ql
       ·exact go λk=>k _ W.k.bx.c5 _ W.au.cz _ W.au.cJ _ (W.au.row aS) _ cN _ (ej<|fz [10,14,15,16,17,18,19] Cv) _ W.k.bx.c5 _ W.au.cz _ _ (yk W.au.fZ aS) _ W.k.bx.d5 _ (bN (b:=4) ql) _<|ej<|(mR w.C 11<|dS w.T v).trans<|ai some<|cp eU
      exact gh (gi [true,true] λk=>k _ _ _ gZ _ _ _ (g0 a6) _ (bN (b:=1) ez) _ (bN (b:=0) e8) _ (cY (b:=1) fy) _ _ bD)<|.inr<|.inl ⟨fy,iM,ez⟩
     ·by_cases ec:v=2
      ·by_cases dh:a.kind=6
       ·exact w3 (gi [true,true] λk=>k _ _ _ gZ _ _ _ (g0 a6) _ (bN (b:=1) ez) _ (bN (b:=0) e8) _ (bN (b:=1) fy) _ (cY (b:=2) ec) _ W.k.bx.c5 _ W.au.cz _ W.au.cJ _ (W.au.row bD) _ cN _<|o0<|fz [6,7,10,14,15,16,17,18,19]<|Hk dh) e8 fy e2 iM ez λB=>dh
       ·exact gh (gi [true,true] λk=>k _ _ _ gZ _ _ _ (g0 a6) _ (bN (b:=1) ez) _ (bN (b:=0) e8) _ (bN (b:=1) fy) _ (cY (b:=2) ec) _ W.k.bx.c5 _ W.au.cz _ W.au.cJ _ (W.au.row bD) _ cN _<|o0<|fz [6,7,10,14,15,16,17,18,19]<|Cu dh)<|.inr<|.inr ⟨ec,e2,dh⟩
      ·exact w3 (gi [true,true] λk=>k _ _ _ gZ _ _ _ (g0 a6) _ (bN (b:=1) ez) _ (bN (b:=0) e8) _ (bN (b:=1) fy) _<|bN (b:=2) ec) e8 fy e2 iM ez λq=>absurd q ec
end
end
section
def ha(c:List af):Prop:=∀x∈c,(x.val=true/\x≠cu "error"/\x≠cu "object")\/(x.shaped=true/\x≠.obj [] 0)
def gJ(n:Nat)(c:List af):Prop:=ha c/\(n<10->n5 c)
def n5.mL{c:List af}(h:n5 c):ha c:=λx ac=>(h x ac).imp_right λq=>q.elim λB e=>e▸⟨rfl,nofun⟩
def n5.wI{n:Nat}{c:List af}(h:n5 c):gJ n c:=⟨h.mL,λB=>h⟩
section
variable{T:List af}{v p:Nat}{a b x y:af}
def kL(G:bO T)(h:T[u]? =some a)(an:a.kind≠6)(ae:u≠2)(aH:ct a=a):aE T u=[a]:=(uG G h an ae).trans<|ai (λx=>[x]) aH
def zl(G:bO T)(h:T[p]? =some x)(ab:p∈dS T v):ct x∈aE T v:=i1 ⟨p,ab,ai lO h⟩
def Hm(G:bO T)(aS:T[v]? =some b)(ac:fU[i]? =some x)(aa7:x.yQ=x)(h:x∈aE T v):i∈dS T v:=(e4 h).elim λp ab=>(G.parts aS p ab.1).elim λq aC=>(ju G ac aC.1).mp (yT ((ai lO aC.1).symm.trans ab.2) aa7)▸ab.1
def Hn(G:bO T)(aS:T[v]? =some b)(h:p∈dS T v)(ab:p=0\/p=1):v=p:=G.uE aS (λB e=>absurd (e▸h) b5) (λB B e=>(bR<|e▸h).symm) λps B B e u=>have k:=u.o1 p<|e▸h;absurd ab λq=>q.elim k.1 k.2.1
def w4(G:bO T)(aS:T[v]? =some b)(ec:v≠2):∃y,y∈aE T v:=G.uE aS (λe=>absurd e ec) (λB B e=>⟨_,zl G aS<|e▸bo⟩) λps B B e u=>(List.exists_mem_of_length_pos<|c7 (by decide) u.j4).elim λp ab=>(u.o1 p ab).2.2.2.2.2.2.elim λq aC=>⟨_,zl G aC.1<|e▸ab⟩
def ha.cW(G:bO T)(h:ha (aE T v)):v≠13/\v≠10/\11∉dS T v:=⟨λe=>(h (cu "error")<|e▸zl G (G.at (i:=13) rfl) (G.uD (G.at (i:=13) rfl) (by decide)▸bo)).elim (λq=>q.2.1 rfl) λq=>(nomatch q.1),λe=>(h (cu "object")<|e▸zl G (G.at (i:=10) rfl) (G.uD (G.at (i:=10) rfl) (by decide)▸bo)).elim (λq=>q.2.2 rfl) λq=>(nomatch q.1),λe=>(h _<|zl G (G.at (i:=11) rfl) e).elim (λq=>(nomatch q.1)) λq=>q.2 rfl⟩
def zm(a:af)(dh:a.kind≠6)(h:a.val=false):a.shaped:=by
 cases a with
 |obj=>rfl
 |ref=>rfl
 |dM=>exact absurd rfl dh
 |_=>exact Bool.noConfusion h
def Cw(h:a.val):a.shaped=false:=by
 cases a with
 |obj=>exact Bool.noConfusion h
 |ref=>exact Bool.noConfusion h
 |_=>rfl
def Pa(h:tb a=some b):a.shaped=false/\b.shaped=false:=⟨by
 cases a with
 |str=>rfl
 |num=>rfl
 |_=>exact bf h,(Hl h).elim (λq=>q.2▸rfl) λq=>q.2▸rfl⟩
def rC.hl(h:rC m a b):a.shaped=false/\b.shaped=false:=h.elim (λq=>q.1▸q.2▸⟨rfl,rfl⟩) λh=>h.elim Pa λq=>(Pa q.2).symm
def n3.Pb(h:n3 m a b)(aU:a≠cu "any")(kF:b≠cu "any")(fF:b≠cu "unknown"):rC m a b:=h.elim (λq=>absurd q kF) λq=>q.2.elim (λq=>absurd q fF) λq=>q.elim (λq=>absurd q aU) And.right
def aa8(m:Nat)(x y:af):Prop:=¬n3 m x y/\x≠y/\¬(x.shaped=true/\y.shaped)
end
section
variable{e v:Nat}{a b:af}
def Pc(W:cc Z ex (z+e) w)(he:u=0->1<=e)(bl:w.r.aM≠3)(bD:w.T[u]? =some a)(aS:w.T[v]? =some b)(cb:ct a=a)(dE:ct b=b)(jc:ha (aE w.T u))(iU:ha (aE w.T v))(bu:u≠v)(gB:aE w.T u=aI)(c3:aE w.T v=gG)(dJ:∀az,a0 a2 (d+4) 47 [.L w.Q.q,J u,J v] w.C=some (.int 1,az.C)->cC Z ex z w az->az.r.tr=w.r.tr->az.r.ns=w.r.ns\/¬iR Z.P aI gG->(∀x∈aI,∃y∈gG,n3 w.r.aM x y)->R)(gh:a0 a2 (d+4) 47 [.L w.Q.q,J u,J v] w.C=some (.int 0,w.C)->(∀x∈aI,∀y∈gG,aa8 w.r.aM x y)->aI≠[]->(a.kind≠6/\b.kind≠6)\/w.r.aM=4\/u=1\/v=2->R)(w3:a0 a2 (d+4) 47 [.L w.Q.q,J u,J v] w.C=some (.int<|-1,w.C)->u≠0->u≠1->u≠2->v≠0->v≠1->(v=2->a.kind=6)->a.kind=6\/b.kind=6\/(b.shaped=true/\¬n3 w.r.aM a b/\u≠3/\u≠4/\u≠5)->R):R:=by
 subst gB c3;have G:=W.cX;have Cx:=jc.cW G;have w5:=iU.cW G;have Cy:∀{t:Nat} {r:af},w.T[t]? =some r->cu "any"∈aE w.T t->t=0:=λh q=>Hn G h (Hm G h (i:=0) rfl rfl q)<|.inl rfl;have aa9:∀{t:Nat} {r:af},w.T[t]? =some r->cu "unknown"∈aE w.T t->t=1:=λh q=>Hn G h (Hm G h (i:=1) rfl rfl q)<|.inr rfl;have Cz:∀{t:Nat} {x:af},t=0->x∈aE w.T t->x=cu "any":=λe q=>bR (kL G (G.at (i:=0) rfl) (by decide) (by decide) rfl▸e▸q);have aba:∀{t:Nat} {x:af},t=1->x∈aE w.T t->x=cu "unknown":=λe q=>bR (kL G (G.at (i:=1) rfl) (by decide) (by decide) rfl▸e▸q);have Pd:cC Z ex z w w:=(cC.refl W).gf<|cT _ _;refine aa6 (d:=d) W he bl bD aS w5.2.2 (λh q=> ?_) (λaz h O tr e8 ql iM ec=> ?_) (λh q=> ?_) λh e8 fy e2 iM ez ec=> ?_
 ·refine dJ w (go λk=>k _ _ h _<|ka rfl) Pd rfl (.inl rfl) λx ac=>q.elim (λq=>q.elim (λq=>⟨_,q▸kL G (G.at (i:=0) rfl) (by decide) (by decide) rfl▸bo,.inl rfl⟩) λq=>absurd q λq=>q.elim w5.1 λq=>q.elim (λq=>nomatch (q▸ac:x∈aE w.T 2)) Cx.1) λq=> ?_;exact⟨_,q.1▸kL G (G.at (i:=1) rfl) (by decide) (by decide) rfl▸bo,.inr ⟨λp=>q.2 ⟨Cy bD<|p.1▸ac,p.2⟩,.inl rfl⟩⟩
 ·refine dJ az (go λk=>k _ _ h _<|ka rfl) O tr (.inr λf=> ?_) λx ac=>(w4 G aS ec).imp λy a8=>⟨a8,.inr ⟨λp=>ql p.2,.inr<|.inl<|Cz e8 ac⟩⟩;exact(w4 G bD<|e8▸by decide).elim λx ac=>(f x ac).elim λy a8=>iM<|Cy aS<|(a8.2.aR.elim (λe=>(Cz e8 ac).symm.trans e) λo=>nomatch (Cz e8 ac▸o.be:(cu "any").shaped=true))▸a8.1
 ·refine gh (go λk=>k _ _ h _<|ka rfl) (λx ac y a8=>q.elim (λq=> ?_) λq=>q.elim (λq=> ?_) λq=>nomatch (q.1▸a8:y∈aE w.T 2)) ((w4 G bD<|q.elim (λq=>q.1▸by decide) λq=>q.elim (λq=>q.1▸by decide) λq=>q.2.1).elim λB=>List.ne_nil_of_mem) (q.elim (λq=>.inr<|.inl q.2.1) λq=>.inr<|.inr<|q.imp And.left And.left)
  ·have fH:y≠cu "any":=λe=>q.2.2<|Cy aS<|e▸a8;have e:=Cz q.1 ac;exact⟨λh=>h.elim fH λh=>h.1 ⟨e,q.2.1⟩,λp=>fH<|br p e,λp=>nomatch (e▸p.1:(cu "any").shaped=true)⟩
  ·have fH:y≠cu "any":=λe=>q.2.1<|Cy aS<|e▸a8;have du:y≠cu "unknown":=λe=>q.2.2<|aa9 aS<|e▸a8;have e:=aba q.1 ac;exact⟨λh=>h.elim fH λh=>h.2.elim du λh=>h.elim (λh=>absurd (br e h)<|by decide) λh=>h.1 e,λp=>du<|br p e,λp=>nomatch (e▸p.1:(cu "unknown").shaped=true)⟩
 ·by_cases dh:a.kind=6
  ·exact w3 (go λk=>k _ _ h _ (ka rfl) _ W.k.bx.c5 _ W.au.cz _ W.au.cJ _ (W.au.row bD) _ cN _ (W.au.row aS) _ cN _<|ej<|fz [6,7,10,14,15,16,17,18,19]<|Hk dh) e8 fy e2 iM ez ec<|.inl dh
  by_cases da:b.kind=6
  ·exact w3 (go λk=>k _ _ h _ (ka rfl) _ W.k.bx.c5 _ W.au.cz _ W.au.cJ _ (W.au.row bD) _ cN _ (W.au.row aS) _ cN _ (ej<|fz [6,7,10,14,15,16,17,18,19]<|Cu dh) _<|ej<|fz [6,7,10,14,15,16,17,18,19]<|Hk da) e8 fy e2 iM ez ec<|.inr<|.inl da
  have F:∀{i:Int} {aT:bT},cG (bk<|d+3) (zL.body.drop 7) (ar (ar (ar (ar (cm [.L w.Q.q,J u,J v]) 3<|.int<|-1) 4<|.L<|Z.A.t+1) 5<|J a.kind) 6<|J b.kind) w.C=some (.ret<|.int i,aT,w.C)->a0 a2 (d+4) 47 [.L w.Q.q,J u,J v] w.C=some (.int i,w.C):=λ{i aT} aP=>by
   have a1:cG (bk<|d+3) zL.body (cm [.L w.Q.q,J u,J v]) w.C=some (.ret<|.int i,aT,w.C):=gq (eB<|dk λk=>k _ _ h)<|gq (eB (dk λk=>k _ (ka rfl)))<|gq (eB (dk λk=>k _ W.k.bx.c5 _ W.au.cz _ W.au.cJ))<|gq (eB (dk λk=>k _ (W.au.row bD) _ cN))<|gq (eB (dk λk=>k _ (W.au.row aS) _ cN))<|gq (eB (dk λk=>k _ (ej (fz [6,7,10,14,15,16,17,18,19] (Cu dh))) _ (ej (fz [6,7,10,14,15,16,17,18,19] (Cu da)))))<|gq (eB (dk λk=>k _ (bN (b:=10) w5.2.1))) aP;exact(sq (np:=3) rfl rfl).trans<|bB a1 rfl
  have aD:=kL G bD dh e2 cb;have aF:=kL G aS da (λq=>dh<|ec q) dE;have nO:a≠cu "any":=λe=>e8<|(ju G rfl bD).mp e;have kF:b≠cu "any":=λe=>iM<|(ju G rfl aS).mp e;have fF:b≠cu "unknown":=λe=>ez<|(ju G rfl aS).mp e;have cW:¬rC w.r.aM a b->¬(a.shaped=true/\b.shaped)->∀{aT:bT},cG (bk<|d+3) (zL.body.drop 7) (ar (ar (ar (ar (cm [.L w.Q.q,J u,J v]) 3<|.int<|-1) 4<|.L<|Z.A.t+1) 5<|J a.kind) 6<|J b.kind) w.C=some (.ret<|.int 0,aT,w.C)->R:=λw6 ns aT c=>gh (F c) (λx ac y a8=>by
   obtain rfl:=bR (aD▸ac);obtain rfl:=bR (aF▸a8);exact⟨λh=>w6 (h.Pb nO kF fF),λe=>bu (nL G.aG bD (e▸aS)),ns⟩) (aD▸List.cons_ne_nil _ _) (.inl ⟨dh,da⟩)
  cases lm:b.val with
  |true=>cases hK:a.val with
   |true=>exact aa5 (d:=d) W bD aS (λc q=>dJ w (F<|ho λk=>k _ (ej<|fz [1,2,3,4,5] lm) _ (ej<|fz [1,2,3,4,5] hK) _ _ c) Pd rfl (.inl rfl) λx ac=>⟨b,aF▸bo,bR (aD▸ac)▸.inr ⟨λq=>nO q.1,.inr<|.inr ⟨λe=>fy<|(ju G rfl bD).mp e,q⟩⟩⟩) λc q=>cW q (λq=>b7<|(Cw hK).symm.trans q.1)<|ho λk=>k _ (ej<|fz [1,2,3,4,5] lm) _ (ej<|fz [1,2,3,4,5] hK) _ _ c
   |false=>exact cW (λq=>b7<|br q.hl.1<|zm a dh hK) (λq=>b7<|(Cw lm).symm.trans q.2)<|ho λk=>k _ (ej<|fz [1,2,3,4,5] lm) _<|ej<|fz [1,2,3,4,5] hK
  |false=>
   have fg:=zm b da lm;have w6:¬rC w.r.aM a b:=λq=>b7<|br q.hl.2 fg;have ri:∀{i:Nat} {x:af},fU[i]? =some x->x.shaped=false->u=i->¬(a.shaped=true/\b.shaped):=λac aJ e q=>b7<|br aJ<|(ai af.shaped<|(ju G ac bD).mpr e).symm.trans q.1;by_cases rb:u=4
   ·exact cW w6 (ri (i:=4) rfl rfl rb)<|ho λk=>k _ (ej<|fz [1,2,3,4,5] lm) _<|cY (b:=4) rb
   by_cases zn:u=5
   ·exact cW w6 (ri (i:=5) rfl rfl zn)<|ho λk=>k _ (ej<|fz [1,2,3,4,5] lm) _ (bN (b:=4) rb) _<|cY (b:=5) zn
   by_cases CA:u=3
   ·exact cW w6 (ri (i:=3) rfl rfl CA)<|ho λk=>k _ (ej<|fz [1,2,3,4,5] lm) _ (bN (b:=4) rb) _ (bN (b:=5) zn) _<|cY (b:=3) CA
   exact w3 (F<|ho λk=>k _ (ej<|fz [1,2,3,4,5] lm) _ (bN (b:=4) rb) _ (bN (b:=5) zn) _<|bN (b:=3) CA) e8 fy e2 iM ez ec<|.inr<|.inr ⟨fg,λh=>w6<|h.Pb nO kF fF,CA,rb,zn⟩
end
end
section
section
variable{T:List af}{v:Nat}{a b:af}{P:af->List g8}
def Pe(h:a.val):a.kind≠6:=λe=>b7<|(ai (λk=>decide<|k∈[1,2,3,4,5]) e).symm.trans h
def Pf(G:bO T)(bD:T[u]? =some a)(aS:T[v]? =some b)(cb:ct a=a)(dE:ct b=b)(bu:u≠v)(hK:a.val)(h:cK P (aE T u) (aE T v)):False:=by
 by_cases e2:u=2
 ·exact(w4 G aS λq=>bu<|e2.trans q.symm).elim λy a8=>(h.d9.nM y a8).elim λx ac=>nomatch (e2▸ac.1:x∈aE T 2)
 ·have e:=kL G bD (Pe hK) e2 cb;have len:=h.d9.len.mp<|ai List.length e;exact(h.d9.mi a<|e▸bo).elim λy a8=>have abb:a=y:=a8.2.aR.elim id λo=>b7 ((Cw hK).symm.trans o.be)
   G.uE aS (λq B=>nomatch (q▸a8.1:y∈aE T 2)) (λda ec B=>bu<|nL G.aG bD<|(abb.trans<|bR<|kL G aS da ec dE▸a8.1)▸aS) λps B B ep mx=>absurd (a3 mx.j4<|cM<|(ai List.length ep).symm.trans<|(c2 _).symm.trans len) (by decide)
end
structure abc(m u v:Nat)(a b:af):Prop where
 e8:u≠0
 fy:u≠1
 e2:u≠2
 iM:v≠0
 ez:v≠1
 ec:v=2->a.kind=6
 my:a.kind=6\/b.kind=6\/(b.shaped=true/\¬jP m a b/\u≠3/\u≠4/\u≠5)
structure lY(m:Nat)(cs eI:List af)(b:Bool):Prop where
 g5:m≠2->(∃x∈cs,u2 m x eI)->b=false
 gu:m≠2->(∀x∈cs,n4 m x eI)->b=true
 hJ:m=2->(∃x∈cs,n4 m x eI)->b=true
 q8:m=2->cs≠[]->(∀x∈cs,u2 m x eI)->b=false
 nZ:cs=[]->b=true
def lY.iy{c:List af}(Y:m≠2->∀x∈c,n4 m x bK)(ae:c≠[]->∃x∈c,n4 m x bK):lY m c bK true:=
 have cW:∀{x:af},n4 m x bK->u2 m x bK->False:=λh k=>h.elim λy q=>(k y q.1).1 q.2
 ⟨λn h=>h.elim λx q=>(cW (Y n x q.1) q.2).elim,λB B=>rfl,λB B=>rfl,λB n h=>(ae n).elim λx q=>(cW q.2<|h x q.1).elim,λB=>rfl⟩
def lY.cW{c:List af}(n:c≠[])(h:∀x∈c,¬n4 m x bK):lY m c bK false:=⟨λB B=>rfl,λB k=>(va _ n).elim λx q=>absurd (k x q)<|h x q,λB k=>k.elim λx q=>absurd q.2<|h x q.1,λB B B=>rfl,λe=>absurd e n⟩
def hY.Ho{P:af->List g8}{x:af}{b:Bool}(h:hY P m [x] bK b):lY m [x] bK b:=⟨λB q=>q.elim λy q=>h.cW x rfl<|bR q.1▸q.2,λB q=>h.iy x rfl<|q x bo,λB q=>q.elim λy q=>h.iy x rfl<|bR q.1▸q.2,λB B q=>h.cW x rfl<|q x bo,nofun⟩
section
variable{e:Nat}{a b:af}
def Pg:a0 a2 (d+1) 40 [x,J s,J s] C=some (.bool true,C):=go λk=>k _<|cY rfl
def Ph(W:cc Z ex z w)(aU:w.T[s]? =some a)(aj:w.T[t]? =some b)(bu:s≠t)(aq:∀u v ax cA,cC Z ex z w {w with C:=ax,T:=cA}->cA[u]? =some (ct a)->cA[v]? =some (ct b)->aE cA u=aE w.T s->aE cA v=aE w.T t->(ct a=a->u=s)->(ct b=b->v=t)->(u=v->a0 a2 (d+4) 40 [.L w.Q.q,J s,J t] w.C=some (.bool true,ax))->
  (u≠v->∀{x:I} {aT:bT} {S:St},cG (bk (d+3)) (Dd.body.drop 4) (ar (ar (cm [.L w.Q.q,J s,J t]) 1 (J u)) 2 (J v)) ax=some (.ret x,aT,S)->a0 a2 (d+4) 40 [.L w.Q.q,J s,J t] w.C=some (x,S))->R):R:=
 MJ (d:=d) W.au W.yD aU λu ax Y dC g6 bi a6=>by
  have cv:=W.h9 dC g6 (Bs w.T a)<|W.dz.F2 aU;have Hp:(oZ w.T a)[t]? =some b:=(Bs w.T a).get aj;refine MJ (d:=d) cv.ok.au cv.ok.yD Hp λv bq ae fm cD bg bS=> ?_;have d7:=cv.ok.h9 fm cD (Bs _ b)<|cv.ok.dz.F2 Hp;refine aq u v _ _ (cv.trans d7) ((Bs _ b).get bi) bg ((gn cv.ok.dz d7.pre<|ai Option.isSome bi).trans<|M2 Z.G W.dz aU bi a6) ((M2 Z.G cv.ok.dz Hp bg bS).trans<|gn W.dz cv.pre<|ai Option.isSome aj) (λq=>(a6 q).1) (λq=>(bS q).1) (λe=>go λk=>k _ (bN bu) _ W.k.bx.c5 _ _ Y _ cv.ok.k.bx.c5 _ _ ae _<|cY e) λn x aT S c=> ?_;have a1:cG (bk<|d+3) Dd.body (cm [.L w.Q.q,J s,J t]) w.C=some (.ret x,aT,S):=gq (eB<|dk λk=>k _<|bN bu)<|gq (eB (dk λk=>k _ W.k.bx.c5 _ _ Y))<|gq (eB (dk λk=>k _ cv.ok.k.bx.c5 _ _ ae))<|gq (eB (dk λk=>k _ (bN n))) c;exact(sq (np:=3) rfl rfl).trans<|bB a1 rfl
def Hq(W:cc Z ex (z+e) w)(he:s=0->1<=e)(aU:w.T[s]? =some a)(aj:w.T[t]? =some b)(cs:ha (aE w.T s))(eI:ha (aE w.T t))(n6:∀c bG,a0 a2 (d+5) 40 [.L w.Q.q,J s,J t] w.C=some (.bool c,bG.C)->iS Z ex z w (aE w.T s) (aE w.T t) c bG->bG.r.tr=w.r.tr->(w.r.aM≠3->lY w.r.aM (aE w.T s) (aE w.T t) c)->R)(aq:∀u v ax cA,cC Z ex z w {w with C:=ax,T:=cA}->cA[u]? =some (ct a)->cA[v]? =some (ct b)->aE cA u=aE w.T s->aE cA v=aE w.T t->u≠v->(w.r.aM=3->(ct a).val=false/\(ct b).val=false)->(w.r.aM≠3->abc w.r.aM u v (ct a) (ct b))->(∀{y:I×St},a0 a2 (d+4) 41 [.L w.Q.q,J u,J v] ax=some y->a0 a2 (d+5) 40 [.L w.Q.q,J s,J t] w.C=some y)->R):R:=by
 have iy:∀{bG:gA},a0 a2 (d+5) 40 [.L w.Q.q,J s,J t] w.C=some (.bool true,bG.C)->cC Z ex z w bG->bG.r.tr=w.r.tr->(w.r.aM≠2->iR Z.P (aE w.T s) (aE w.T t)->bG.r.ns=w.r.ns)->(w.r.aM=3->aE w.T s=aE w.T t)->(w.r.aM≠2->∀x∈aE w.T s,n4 w.r.aM x<|aE w.T t)->(aE w.T s≠[]->∃x∈aE w.T s,n4 w.r.aM x<|aE w.T t)->R:=λh O tr cl cP Y ae=>n6 true _ h ⟨O,nofun,λm B=>.inl<|cP m▸.refl,λB=>nofun,λB=>⟨λB B B=>rfl,λx e v=>(ae<|e▸List.cons_ne_nil _ _).elim λqB q=>q.2.elim λy p=>absurd (bR (e▸q.1)▸p.2) (v y p.1).1,λB B=>rfl⟩,cl⟩ tr λB=>.iy Y ae;have same:∀{bG:gA},a0 a2 (d+5) 40 [.L w.Q.q,J s,J t] w.C=some (.bool true,bG.C)->cC Z ex z w bG->bG.r=w.r->aE w.T s=aE w.T t->R:=λh O u9 c=>have v:∀x∈aE w.T s,n4 w.r.aM x (aE w.T t):=λx e=>⟨x,c▸e,.inl rfl⟩
  iy h O (ai eK.tr u9) (λB B=>ai eK.ns u9) (λB=>c) (λB=>v) λn=>(va _ n).imp λx h=>⟨h,v x h⟩
 by_cases st:s=t
 ·subst st;exact same Pg ((cC.refl W).gf<|cT _ _) rfl rfl
 ·refine Ph (d:=d+1) W aU aj st λu v ax cA O bD aS gB c3 B B aC ag=> ?_;have bW:=O.gf<|cT z e;by_cases jv:u=v
  ·exact same (bG:={w with C:=ax,T:=cA}) (aC jv) bW rfl<|br gB<|(ai (aE cA) jv).trans c3
  have c:=@ag jv;have W1:cc Z ex (z+e) {w with C:=ax,T:=cA}:=O.ok;have G:=W1.cX;have jc:ha (aE cA u):=gB.symm▸cs;have iU:ha (aE cA v):=c3.symm▸eI;have X:=W1.k.bx;have a1:=W1.au;by_cases bl:w.r.aM=3
  ·have cW:a0 a2 (d+5) 40 [.L w.Q.q,J s,J t] w.C=some (.bool false,ax)->(ct a).val=true\/(ct b).val=true->R:=λh k=>n6 false {w with C:=ax,T:=cA} h ⟨bW,λB=>⟨rfl,rfl⟩,λB=>nofun,λB B q=>by
    rw[<-gB,<-c3]at q;exact k.elim (λk=>Pf G bD aS jo jo jv k q) λk=>Pf G aS bD jo jo (Ne.symm jv) k q.symm,λm=>absurd bl m,λB B=>rfl⟩ rfl λm=>absurd bl m
   cases hK:(ct a).val with
   |true=>exact cW (c<|ho λk=>k _ X.d5 _ (cY (b:=3) bl) _ X.c5 _ a1.cz _ a1.cJ _ (bN (b:=13) (jc.cW G).1) _ (bN (b:=13) (iU.cW G).1) _ (a1.row bD) _ cN _<|ej<|fz [1,2,3,4,5] hK)<|.inl hK
   |false=>cases lm:(ct b).val with
    |true=>exact cW (c<|ho λk=>k _ X.d5 _ (cY (b:=3) bl) _ X.c5 _ a1.cz _ a1.cJ _ (bN (b:=13) (jc.cW G).1) _ (bN (b:=13) (iU.cW G).1) _ (a1.row bD) _ cN _ (ej<|fz [1,2,3,4,5] hK) _ (a1.row aS) _ cN _<|ej<|fz [1,2,3,4,5] lm)<|.inr lm
    |false=>exact aq u v ax cA bW bD aS gB c3 jv (λB=>⟨hK,lm⟩) (λm=>absurd bl m) λan=>c<|ho λk=>k _ X.d5 _ (cY (b:=3) bl) _ X.c5 _ a1.cz _ a1.cJ _ (bN (b:=13) (jc.cW G).1) _ (bN (b:=13) (iU.cW G).1) _ (a1.row bD) _ cN _ (ej<|fz [1,2,3,4,5] hK) _ (a1.row aS) _ cN _ (ej<|fz [1,2,3,4,5] lm) _ _ an
  have gU:u=0->1<=e:=λq=>he (Hn W.cX aU (Hm W.cX aU (i:=0) rfl rfl<|gB▸q▸kL G (G.at (i:=0) rfl) (by decide) (by decide) rfl▸bo)<|.inl rfl);have CB:∀{i:Int},decide (i=1)=false->v≠0->a0 a2 (d+4) 47 [.L w.Q.q,J u,J v] ax=some (.int i,ax)->((∀{r:I×St} {aT:bT},cG (bk<|d+4) [.ret<|.and (.aK .lt (.E 4)<|U 0)<|.a5 41 [(.E 0),(.E 1),(.E 2)]] (ar (ar (ar (cm [.L w.Q.q,J s,J t]) 1<|J u) 2<|J v) 4<|.int i) ax=some (.ret r.1,aT,r.2)->a0 a2 (d+5) 40 [.L w.Q.q,J s,J t] w.C=some r)->
    (w.r.aM=2->v≠2->(∀y∈aE w.T t,∀x∈aE w.T s,¬n3 2 y x)\/(u≠1/\((ct b).kind=6\/(ct a).kind=6\/¬n3 2 (ct b) (ct a))))->R)->R:=λ{i} ah iM h q=>by
   by_cases cU:w.r.aM=2
   ·by_cases ec:v=2
    ·exact q (λe=>c (gq (eB<|dk λk=>k _ X.d5 _<|bN (b:=3) bl)<|gq (eB (dk λk=>k _ _ h))<|gq (eB (dk λk=>k _ (gY ah) _ X.d5 _ (cY (b:=2) cU) _ (kc (b:=2) ec))) e)) λB n=>absurd ec n
    ·have st:∀{j:Int},decide (j=1)=false->a0 a2 (d+4) 47 [.L w.Q.q,J v,J u] ax=some (.int j,ax)->∀{r:I×St} {aT:bT},cG (bk<|d+4) [.ret<|.and (.aK .lt (.E 4)<|U 0)<|.a5 41 [(.E 0),(.E 1),(.E 2)]] (ar (ar (ar (cm [.L w.Q.q,J s,J t]) 1<|J u) 2<|J v) 4<|.int i) ax=some (.ret r.1,aT,r.2)->a0 a2 (d+5) 40 [.L w.Q.q,J s,J t] w.C=some r:=λ{j} aQ ae {r aT} e=>c (gq (eB<|dk λk=>k _ X.d5 _<|bN (b:=3) bl)<|gq (eB (dk λk=>k _ _ h))<|gq (eB (dk λk=>k _ (gY ah) _ X.d5 _ (cY (b:=2) cU) _ (kb (b:=2) ec) _ _ ae _ (gY aQ))) e);exact Pc (d:=d) W1 (λq=>absurd q iM) bl aS bD jo jo iU jc (Ne.symm jv) c3 gB (λbn ae d7 tr B aR=>iy (bG:=bn) (c<|ho λk=>k _ X.d5 _ (bN (b:=3) bl) _ _ h _ (gY ah) _ X.d5 _ (cY (b:=2) cU) _ (kb (b:=2) ec) _ _ ae _<|gY rfl) (O.trans d7) tr (λn=>absurd cU n) (λm=>absurd m bl) (λn=>absurd cU n) λB=>(w4 G aS ec).elim λy a8=>(aR y<|c3▸a8).imp λx ac=>⟨ac.1,y,c3▸a8,.inr<|.inr ⟨cU,cU▸ac.2⟩⟩)
      (λae n B B=>q (st rfl ae) λB B=>.inl λy a8 x ac=>cU▸(n y a8 x ac).1) λae B B B B fy B my=>q (st rfl ae) λB B=>.inr ⟨fy,my.imp_right λk=>k.imp_right λk=>cU▸k.2.1⟩
   ·exact q (λe=>c (gq (eB<|dk λk=>k _ X.d5 _<|bN (b:=3) bl)<|gq (eB (dk λk=>k _ _ h))<|gq (eB (dk λk=>k _ (gY ah) _ X.d5 _ (bN (b:=2) cU))) e)) λm=>absurd m cU
  have abd:ct a≠ct b:=λq=>jv<|nL G.aG bD<|q▸aS;refine Pc (d:=d) W1 gU bl bD aS jo jo jc iU jv gB c3 (λbn h d7 tr cl aR=>iy (bG:=bn) (c<|ho λk=>k _ X.d5 _ (bN (b:=3) bl) _ _ h _<|gY rfl) (O.trans d7) tr (λB f=>cl.elim id λn=>absurd f n) (λm=>absurd m bl) (λB x ac=>(aR x ac).imp λy q=>⟨q.1,.inr<|.inl q.2⟩) λn=>(va _ n).imp λx ac=>⟨ac,(aR x ac).imp λy q=>⟨q.1,.inr<|.inl q.2⟩⟩) (λh cW bu alt=> ?_) λh e8 fy e2 iM ez ec my=> ?_
  ·have iM:v≠0:=λq=>(va _ bu).elim λx ac=>(cW x ac (cu "any")<|c3▸q▸kL G (G.at (i:=0) rfl) (by decide) (by decide) rfl▸bo).1<|.inl rfl;refine CB rfl iM h λst jD=> ?_;have w5:∀x∈aE w.T s,¬n4 w.r.aM x (aE w.T t):=λx ac aL=>aL.elim λy q=>absurd q.2 λjS=>by
    have n:=cW x ac y q.1;refine jS.elim n.2.1 λjS=>jS.elim n.1 λjS=> ?_;have ec:v≠2:=λp=>fO (p▸c3▸q.1:y∈aE cA 2);have e2:u≠2:=λp=>fO (p▸gB▸ac:x∈aE cA 2);refine(jD jS.1 ec).elim (λp=>p y q.1 x ac jS.2) λp=> ?_;refine alt.elim (λk=>p.2.elim k.2 λp=>p.elim k.1 λp=>p ?_) λk=>k.elim (λk=>mC (br k jS.1) rfl) λk=>k.elim p.1 ec;rw[<-gB,kL G bD k.1 e2 jo]at ac;have a8:=q.1;rw[<-c3,kL G aS k.2 ec jo]at a8;exact bR ac▸bR a8▸jS.2
   refine n6 false {w with C:=ax,T:=cA} (st (r:=(.bool false,ax))<|ho λk=>k _<|lG rfl) ⟨bW,λB=>⟨rfl,rfl⟩,λB=>nofun,λm=>absurd m bl,λB=>⟨λx e aL=>absurd aL<|w5 x<|e▸bo,λB B B=>rfl,λB f=> ?_⟩,λB B=>rfl⟩ rfl λB=>.cW bu w5
   ·exact((va _ bu).elim λx ac=>(f x ac).elim λy q=>absurd q.2.aR λo=>o.elim (cW x ac y q.1).2.1 λo=>(cW x ac y q.1).2.2 ⟨o.be,o.bF⟩)
  ·refine CB rfl iM h λst jD=>aq u v ax cA bW bD aS gB c3 jv (λm=>absurd m bl) (λB=>⟨e8,fy,e2,iM,ez,ec,?_⟩) λ{y} an=>st<|ho λk=>k _ (lG rfl) _ _ an;by_cases dh:(ct a).kind=6
   ·exact .inl dh
   by_cases da:(ct b).kind=6
   ·exact .inr<|.inl da
   have k:=(my.resolve_left dh).resolve_left da;exact .inr<|.inr ⟨k.1,λjS=>jS.elim abd λjS=>jS.elim k.2.1 λjS=>(jD jS.1 λq=>dh<|ec q).elim (λp=>p _ (c3▸kL G aS da (λq=>dh<|ec q) jo▸bo) _ (gB▸kL G bD dh e2 jo▸bo) jS.2) λp=>p.2.elim da λp=>p.elim dh λp=>p jS.2,k.2.2⟩
end
end
section
noncomputable def CC(q:Nat):Nat->Option I:=ar (λB=>none) 45<|.L<|q+1
noncomputable def lZ(q:Nat)(h m:I):Nat->Option I:=ar (ar (ar (ar (ar (ar (ar (ar (ar (ar (ar (ar (ar (λB=>none) 22 h) 30 m) 46<|.L<|q+1) 6<|.L<|q+2) 25<|.L<|q+3) 54<|.L<|q+4) 44<|.L<|q+5) 15<|.int 0) 37<|.L<|q+6) 52<|.bool true) 55 .none) 29<|.str<|aa "") 7<|.int 0
noncomputable def l0(q:Nat)(F:Nat->Option I):St:=.cR 3 F::[.dict [],.dict [],.dict [],.list [],.list [],.cR 0<|CC<|q+6,.list []]
noncomputable def th(m:Nat)(n0:Bool):eK:=⟨m,[],[],[],0,[],n0,aa ""⟩
noncomputable def n7:List Nat:=[0,2,3,4,5,6,7]
section
variable{a b:af}{l:St}{x:b3}{F:Nat->Option I}{Q:fo}{n0:Bool}
def Pi(W:cc Z ex z w)(aU:w.T[s]? =some a)(aj:w.T[t]? =some b)(h:s=13\/t=13)(aq:∀ax cA,a0 a2 (d+5) 40 [.L w.Q.q,J s,J t] w.C=some (.bool true,ax)->cC Z ex z w {w with C:=ax,T:=cA}->R):R:=by
 by_cases st:s=t
 ·exact aq w.C w.T (st▸Pg)<|.refl W
 ·refine Ph (d:=d+1) W aU aj st λu v ax cA O bD aS B B abe qN aC ag=> ?_;by_cases jv:u=v
  ·exact aq ax cA (aC jv) O
  have X:=O.ok.k.bx;have a1:=O.ok.au;have an:u=13\/v=13:=h.imp (λh=>(abe<|(ju W.cX (i:=13) rfl aU).mpr h▸rfl).trans h) λh=>(qN<|(ju W.cX (i:=13) rfl aj).mpr h▸rfl).trans h;by_cases bl:w.r.aM=3
  ·by_cases Hr:u=13
   ·exact aq ax cA (ag jv<|ho λk=>k _ X.d5 _ (cY (b:=3) bl) _ X.c5 _ a1.cz _ a1.cJ _<|cY (b:=13) Hr) O
   ·exact aq ax cA (ag jv<|ho λk=>k _ X.d5 _ (cY (b:=3) bl) _ X.c5 _ a1.cz _ a1.cJ _ (bN (b:=13) Hr) _<|cY (b:=13)<|an.resolve_left Hr) O
  ·exact aq ax cA (ag jv<|ho λk=>k _ X.d5 _ (bN (b:=3) bl) _ _ (go λr=>r _ _ (O9 (d:=d+2)<|.inr<|an.elim (λq=>.inr<|.inr q) .inl) _<|ka rfl) _<|gY rfl) O
def abf(ab:0<C.length):sp (d+2) 0 [] C=some (.L C.length,C++[.cR 0<|CC C.length,.list []]):=yX rfl<|yY (np:=1) rfl rfl<|fe (l:=[]) rfl ab rfl (lk rfl) rfl
def Pj{h m:I}(ab:0<C.length):sp (d+4) 3 [h,m] C=some (.L C.length,C++l0 C.length (lZ C.length h m)):=by have fL:∀{H:bT} {l:St} {x:b3},bV (bk<|d+2) (.l2 0 []) H (C++x::l)=some (.L<|C.length+1+l.length,C++x::(l++[.cR 0<|CC<|C.length+1+l.length,.list []])):=λ{H l x}=>(abf (d:=d) (C:=C++x::l)<|V Gz<|Nat.lt_add_right _<|pF _).trans (by rw[Gz,iG];rfl);exact yX rfl<|yY (np:=3) rfl rfl<|fe (l:=[]) rfl ab rfl (fJ rfl)<|fe rfl ab rfl (fJ rfl)<|fe rfl ab rfl (lk rfl)<|fe rfl ab rfl (lk rfl)<|fe rfl ab rfl (lk rfl)<|fe rfl ab rfl (lk rfl)<|fe rfl ab rfl (lk rfl)<|fe rfl ab rfl lJ<|fe rfl ab rfl fL<|fe rfl ab rfl lJ<|fe rfl ab rfl lJ<|fe rfl ab rfl lJ<|fe rfl ab rfl lJ rfl
def CD{q a:Nat}(h:a∈n7.map (q+·)):q<=a:=(e4 h).elim λi h=>h.2▸cT _ _
def Pk{q gI rule:Nat}{G:Nat->Option I}(hR:uY A ⟨q,q+4,gI,rule⟩ (th m n0) .none F)(aC:A.co<q)(Y:A.co<gI)(ae:A.co<rule)(aG:(n7.map (q+·)++[gI,rule]).Nodup)(aj:∀i∈n7,C[q+i]? =(l0 q F)[i]?)(aH:C[gI]? =some (.dict [(.int 5,.L rule)]))(ao:C[rule]? =some (.cR 5 G))(qj:G 21=none):bE A C ⟨q,q+4,gI,rule⟩ (th m n0) [] .none:=
 have b {i:Nat} (h:List.elem i n7):C[q+i]? =(l0 q F)[i]? :=aj i<|List.elem_iff.mp h
 ⟨λa aU=>(qv (s:=n7.map (q+·)) (t:=[gI,rule]).mp aU).elim (λh=>c7 aC<|CD h)<|ux Y ae a,aG,F,CC<|q+6,G,hR,⟨rfl,rfl,rfl⟩,qj,b (i:=0) rfl,b (i:=2) rfl,b (i:=3) rfl,b (i:=4) rfl,b (i:=5) rfl,b (i:=6) rfl,b (i:=7) rfl,aH,ao,trivial⟩
def abg{q:Nat}:(n7.map (q+·)).Nodup:=sT (by decide) λB B B B h=>Nat.add_left_cancel h
def cc.abh(W:cc Z ex z w)(bl:w.r.aM≠3)(aq:∀ax p,a0 a2 (d+6) 37 [.L w.Q.q] w.C=some (.L p.1.q,ax)->cC Z ex z w {w with C:=ax,eV:=some p}->R):R:=by
 have X:=W.k.bx;cases h:w.eV with
 |some p=>have a:=X.GU;rw[h]at a;exact aq w.C p (go λk=>k _ X.d5 _ (bN (b:=3) bl) _ a _ rfl _ a) (by rw[<-h];exact .refl W)
 |none=>
  have a:=X.GU;rw[h]at a;have ab:=lM<|X.lt bo;have dC:=X.push<|l0 w.C.length<|lZ w.C.length (.L Z.A.co)<|.int 3;have be:kj dw (w.C++l0 w.C.length (lZ w.C.length (.L Z.A.co)<|.int 3)) 46 (.L w.Q.gI) (.L w.C.length)=some (w.C++l0 w.C.length (ar (lZ w.C.length (.L Z.A.co)<|.int 3) 46<|.L w.Q.gI)):=(wa d8 (dd ab) rfl).trans<|ai some Gy;have bF:kj dw (w.C++l0 w.C.length (ar (lZ w.C.length (.L Z.A.co)<|.int 3) 46<|.L w.Q.gI)) 52 (.bool false) (.L w.C.length)=some (w.C++l0 w.C.length (ar (ar (lZ w.C.length (.L Z.A.co)<|.int 3) 46<|.L w.Q.gI) 52<|.bool false)):=(wa d8 (dd ab) rfl).trans<|ai some Gy;refine(X.push<|l0 w.C.length<|ar (ar (lZ w.C.length (.L Z.A.co)<|.int 3) 46<|.L w.Q.gI) 52<|.bool false).aah (.L w.C.length) λax aJ f fm=> ?_;have f0:=bw.push w.C (l0 w.C.length<|ar (ar (lZ w.C.length (.L Z.A.co)<|.int 3) 46<|.L w.Q.gI) 52<|.bool false) [w.Q.q];have lt:∀a∈w.Q.all,a<w.C.length:=λa=>X.lt;have ge:∀a∈fo.iz ⟨w.C.length,w.C.length+4,w.Q.gI,w.Q.rule⟩,w.C.length<=a:=λa h=>CD (q:=w.C.length) (u6 (l₂:=n7.map (w.C.length+·)) (.cons_cons _<|.cons_cons _<|.cons_cons _<|.cons_cons _<|.cons_cons _<|.cons _<|.cons_cons _ .slnil) h);have abi:bE Z.A ax ⟨w.C.length,w.C.length+4,w.Q.gI,w.Q.rule⟩ (th 3 false) [] .none:=fm.d9 λB B G B B qj c=>Pk (F:=ar (ar (lZ w.C.length (.L Z.A.co)<|.int 3) 46<|.L w.Q.gI) 52<|.bool false) (G:=G) ⟨rfl,rfl,rfl,rfl,rfl,rfl,rfl,rfl,rfl,rfl,rfl,rfl,rfl,rfl,rfl,rfl,rfl,rfl⟩ (ea (X.gt 0 rfl)<|lt _ bo) (X.gt 7 rfl) (X.gt 8 rfl) (kU.mpr ⟨abg,X.aG.sublist<|List.drop_sublist 7 w.Q.all,λa aU b aj e=>lu (CD aU)<|e▸lt b (List.mem_of_mem_drop (i:=7) aj)⟩)
   (λi ah=>(f.same _ (V eo<|Nat.add_lt_add_left ((by decide:∀i∈n7,i<8) i ah) _)<|fv<|dd<|c7 (lt _ bo)<|cT _ _).trans<|V (wk<|cT _ _)<|ai (λi=>_)<|Nat.add_sub_cancel_left (n:=w.C.length) (m:=i)) c.2.2.2.2.2.2.2.1 c.2.2.2.2.2.2.2.2.1 qj
  have nm:∀a∈[w.Q.gI,w.Q.rule],a∉w.Q.iz:=λa h q=>(kU.mp (X.aG:(w.Q.all.take 7++[w.Q.gI,w.Q.rule]).Nodup)).2.2 a (u6 (l₂:=w.Q.all.take 7) (.cons_cons _<|.cons_cons _<|.cons_cons _<|.cons_cons _<|.cons_cons _<|.cons _<|.cons_cons _ .slnil) q) a h rfl;have km:cc Z ex z {w with C:=ax,eV:=some (⟨w.C.length,w.C.length+4,w.Q.gI,w.Q.rule⟩,th 3 false)}:=⟨W.au.keep (f0.trans f) λa B l q=>lu l<|bR q▸X.gt 0 rfl,W.dz,{W.k with bx:=fm},λp e=>by
   obtain rfl:=bp e;exact⟨⟨abi,.inr (.inr (.inl rfl)),.nil,λB=>fO,λB=>fO,.nil,λB=>fO,λB=>fO,λB=>fO,rfl,jA _⟩,rfl,⟨rfl,rfl,rfl,rfl⟩,λa h q=>lu (ge a q) (lt a h),λa h q=>(qv (s:=n7.map (w.C.length+·)) (t:=[w.Q.gI,w.Q.rule]).mp h).elim (λh=>lu (CD h) (lt a (u5 a q))) λh=>nm a h q⟩⟩
  exact aq ax (⟨w.C.length,w.C.length+4,w.Q.gI,w.Q.rule⟩,th 3 false) (go λk=>k _ X.d5 _ (bN (b:=3) bl) _ a _ rfl _ _ (go λk=>k _ X.c5 _ _ (Pj (d:=d) ab) _ dC.GR _ be _ bF) _ aJ _ fm.GU) ⟨km,.refl _,⟨(f0.trans f).len,λa ao n=>(f0.trans f).same a ao λq=>n<|rE a<|bR q▸bo,λx ac=>(cS ac).elim (λe=>.inl<|e▸bo) λac=>(cS ac).elim (λe=>.inl<|e▸bQ _ bo) λac=>(gb ac).elim (λh=>.inl<|rE x h) λh=>.inr<|ge x h⟩,rfl,rfl,⟨[],(ew _).symm,λB=>nofun⟩,⟨[],(ew _).symm⟩,⟨[],(ew _).symm,λB=>rfl⟩,λm=>absurd m bl⟩
end
end
section
open PySem.Builtin (bitAnd bitOr)
def qm(D:Nat)(Z:hF):Prop:=∀w u v,w.r.aM=3->cc Z [] 0 w->Top w.r->iC w.T (u,v)->ha (aE w.T u)->ha (aE w.T v)->∃b az,a0 a2 D 40 [.L w.Q.q,J u,J v] w.C=some (.bool b,az.C)/\wY Z w (aE w.T u) (aE w.T v) b az
def Pl{f g:Nat}(h:bitAnd (f:Int) (m:Int)=bitAnd (g:Int) (m:Int))(an:m&&&k=k):bitAnd (f:Int) (k:Int)=bitAnd (g:Int) (k:Int):=by have h:f&&&m=g&&&m:=k0 h;have e:∀x:Nat,x&&&k=(x&&&m)&&&k:=λx=>(ai (x&&&·) an).symm.trans (Nat.and_assoc _ _ _).symm;exact ai Int.ofNat ((e f).trans ((ai (·&&&k) h).trans (e g).symm))
noncomputable def Pm(i:Nat):dB:=Ig.body.getD i .fA
section
variable{n:Nat}{a b:af}{x y:Bool}
def ix.dm(h:ix (gy Z.T0 p) (gy Z.T0 q)):Cn p q:=⟨Pl (m:=25) (k:=24) h.uB rfl,h.dG,h.rf,ai (λi:Int=>decide<|i≠0)<|Pl (m:=25) (k:=1) h.uB rfl⟩
def cc.same(io:qm (d+5) Z)(W:cc Z ex z w)(bl:w.r.aM≠3)(aS:iC w.T (s,t))(cs:ha (aE w.T s))(eI:ha (aE w.T t))(aq:∀b az,a0 a2 (d+7) 32 [.L w.Q.q,J s,J t] w.C=some (.bool b,az.C)->cC Z ex z w az->az.r=w.r->(cK Z.P (aE w.T s) (aE w.T t)->b)->R):R:=by
 by_cases st:s=t
 ·exact aq true w (go λk=>k _<|cY st) (.refl W) rfl λB=>rfl
 ·refine W.abh (d:=d) bl λax p Y cv=> ?_;have W1:=cv.ok;have t:=W1.eV p rfl;refine(io ⟨ax,w.T,p.1,p.2,none⟩ s _ t.2.1 ⟨W1.au,W1.dz,t.1,λB=>bf⟩ t.2.2.1 aS cs eI).elim λb h=>h.elim λbn h=> ?_;have df:=h.2;have e:bn.eV=none:=df.pi t.2.1;have eq:bn.Q.q=p.1.q:=(ai fo.q df.sD).trans rfl;have cW:∀a∈w.Q.all,a∉hZ Z ⟨ax,w.T,p.1,p.2,none⟩:=λa aU q=>(cS q).elim (λe=>W1.k.uS W1.au a aU<|e▸bo) λq=>(cS q).elim (λe=>W1.k.uS W1.au a aU<|e▸bQ _ bo) λq=>(gb q).elim (t.2.2.2.1 a aU) b5;have u0:∀a∈hZ Z ⟨ax,w.T,p.1,p.2,none⟩,a∈hZ Z {w with C:=ax,eV:=some p}:=λa q=>(cS q).elim (λe=>e▸bo) λq=>(cS q).elim (λe=>e▸bQ _ bo) λq=>bQ _<|bQ _<|(gb q).elim (i0 _) fO;have mt:∀a∈bn.Q.iz,a∈hZ Z ⟨ax,w.T,p.1,p.2,none⟩\/ax.length<=a:=λa q=>df.bU.own a<|rE a q;have ii:bE Z.A bn.C w.Q w.r w.r.tr (.L bn.Q.q):=eq▸W1.k.bx.keep (ms:=hZ Z ⟨ax,w.T,p.1,p.2,none⟩) ⟨df.bU.len,df.bU.same⟩ cW;have be:∀a∈w.Q.all,a∉bn.Q.iz:=λa aU q=>(mt a q).elim (cW a aU)<|Nat.not_le.mpr<|W1.k.bx.lt aU;have km:cc Z ex z ⟨bn.C,bn.T,w.Q,w.r,some (bn.Q,bn.r)⟩:=⟨df.ok.au,df.ok.dz,{W1.k.h9 (W1.k.bx.keep (ms:=hZ Z ⟨ax,w.T,p.1,p.2,none⟩) ⟨df.bU.len,df.bU.same⟩ cW) W1.dz df.pre with bx:=ii},λqy e'=>by
   obtain rfl:=bp e';exact⟨(ai kK e▸df.ok.k:gm Z [] 0 bn.C bn.T bn.Q bn.r (kK none)),df.aM.trans t.2.1,df.top (.inl t.2.1),be,λa aU q=>(O2 (n:=bn.Q.dY) (df.sD▸aU:a∈({p.1 with dY:=bn.Q.dY}:fo).all)).elim (λe=>be a (u5 a q) (e▸dK (i:=3) rfl)) λh=>t.2.2.2.2 a h q⟩⟩
  refine aq b ⟨bn.C,bn.T,w.Q,w.r,some (bn.Q,bn.r)⟩ (go λk=>k _ (bN st) _ _ Y _ t.1.bx.ph _ _<|go λk=>k _ _ h.1) (cv.trans ⟨km,df.pre,⟨df.bU.len,λa ao n=>df.bU.same a ao λq=>n<|u0 a q,λx ac=>(cS ac).elim (λe=>.inl<|e▸bo) λac=>(cS ac).elim (λe=>.inl<|e▸bQ _ bo) λac=>(gb ac).elim (λh=>.inl<|rE x h) λh=>(mt x h).imp_left<|u0 x⟩,rfl,rfl,⟨[],(ew _).symm,λB=>nofun⟩,⟨[],(ew _).symm⟩,⟨[],(ew _).symm,λB=>rfl⟩,λm=>absurd m bl⟩) rfl (df.wZ.1 t.2.1).mpr
def Pn(io:qm (d+5) Z)(W:cc Z ex (z+1) w)(bl:w.r.aM≠3)(aS:iC w.T (s,t))(cs:ha (aE w.T s))(eI:ha (aE w.T t))(aq:∀az,a0 a2 (d+8) 44 [.L w.Q.q,J s,J t] w.C=some (.none,az.C)->cC Z ex z w az->(cK Z.P (aE w.T s) (aE w.T t)->az.r.ns=w.r.ns)->R):R:=by
 have aP:=OF (d:=d+6) W.k.bx;cases ao:w.r.n0&&decide (w.r.aM=1)with
 |false=>rw[ao]at aP;exact aq w (go λk=>k _ _ aP) ((cC.refl W).gf<|jZ _) λB=>rfl
 |true=>
  rw[ao]at aP;refine W.same (d:=d) io bl aS cs eI λb bG Y cv aD aj=> ?_;cases b with
  |true=>exact aq bG (go λk=>k _ _ aP _ (kb (b:=13) (cs.cW W.cX).1) _ (kb (b:=13) (eI.cW W.cX).1) _ W.k.bx.Ow _ _ Y) (cv.gf<|jZ _) λB=>ai eK.ns aD
  |false=>exact cv.ok.Cr (d:=d+5) (V aD bl) (c:=3) λbn ae d7=>aq bn (go λk=>k _ _ aP _ (kb (b:=13) (cs.cW W.cX).1) _ (kb (b:=13) (eI.cW W.cX).1) _ W.k.bx.Ow _ _ Y _ (eF (ai fo.q cv.q) cv.ok.k.bx.ze) _ _<|eF (ai fo.q cv.q) ae) (cv.trans d7.1) λq=>Bool.noConfusion<|aj q
def abj(io:qm (d+5) Z)(W:cc Z ex (z+2) w)(bl:w.r.aM≠3)(aS:iC w.T (s,t))(cs:ha (aE w.T s))(eI:ha (aE w.T t))(aq:∀az,a0 a2 (d+9) 45 [.L w.Q.q,J s,J t,.bool x,.bool y] w.C=some (.none,az.C)->cC Z ex z w az->(x=y->cK Z.P (aE w.T s) (aE w.T t)->az.r.ns=w.r.ns)->R):R:=by
 cases y with
 |true=>exact aq w rfl ((cC.refl W).gf<|cT _ _) λB B=>rfl
 |false=>cases x with
  |false=>exact Pn (d:=d) io (W.gf (eL:=z+1)<|jZ _) bl aS cs eI λaz h O e=>aq az (go λk=>k _ _ h) O λB=>e
  |true=>exact W.Cr (d:=d+6) bl (c:=4) λbG Y cv=>Pn (d:=d) io cv.1.ok (V cv.1.same bl) ⟨cv.1.pre.some aS.1,cv.1.pre.some aS.2⟩ ((gn W.dz cv.1.pre aS.1).symm▸cs) ((gn W.dz cv.1.pre aS.2).symm▸eI) λaz h O e=>aq az (go λk=>k _ W.k.bx.ze _ _ Y _ _<|eF (ai fo.q cv.1.q) h) (cv.1.trans O) nofun
def Po(W:cc Z ex (z+1) w)(bl:w.r.aM≠3)(a9:mj w.T Z.a1 s a eR)(hn:e9 q.name)(h:lU eR q.name=none)(aq:∀c az,a0 a2 (d+4) 92 [.L w.Q.q,J s,cn q] w.C=some (.bool c,az.C)->cC Z ex z w az->(gj q.b2=false->c=false)->R):R:=aaA (d:=d) W.k.bx W.au a9.row W.k.td hn (W.k.G6 W.lW) λc S m n Y X f hm qJ h0 B=>aq c {w with C:=S,r:={w.r with miss:=m,ns:=n}} (go λk=>k _ W.k.bx.c5 _ W.au.cz _ W.k.bx.c5 _ nX _ _ (dH (a9.G2 (d:=d) W.au hn)<|ai (λo=>(yp o,w.C)) h) _ rfl _ _ Y) (W.OR bl X f hm qJ) h0
end
end
section
section
variable{n:Nat}{a b:af}{x y:Bool}
def abk(io:tg false (d+8) n Z)(zo:qm (d+5) Z)(W:cc Z [] (z+3) w)(X:rF n w.r)(bl:w.r.aM≠3)(a9:mj w.T Z.a1 s a eR)(ab:Bv Z.T0 p/\∃o∈Z.T0,p∈o.gP)(aC:Bv Z.T0 q/\∃o∈Z.T0,q∈o.gP)(h:lU eR q.name=some p)(aq:∀c az,a0 a2 (d+10) 92 [.L w.Q.q,J s,cn q] w.C=some (.bool c,az.C)->cC Z [] z w az->(w.r.aM≠2->ix (gy Z.T0 p) (gy Z.T0 q)/\cK Z.P (fK Z.T0 p) (fK Z.T0 q)->c/\az.r.ns=w.r.ns)->R):R:=
 ab.2.elim λo aA=>aC.2.elim λo' kY=>by
  have Hs:a0 a2 (d+9) 70 [.L Z.A.co,J s,.str q.name] w.C=some (cn p,w.C):=dH (a9.G2 (d:=d+6) W.au aC.1.name)<|ai (λo=>(yp o,w.C)) h;refine aaz (d:=d+6) (p:=p) (q:=q) W.k.bx W.au a9.row ab.1.dG (W.cX.iA a9.row).2 λe5 ax a6 f1 hm=> ?_;have cv:=W.te f1;cases e5 with
  |false=>exact aq false {w with C:=ax} (go λk=>k _ W.k.bx.c5 _ W.au.cz _ W.k.bx.c5 _ nX _ _ Hs false rfl _ _ a6) (cv.gf<|cT _ _) λB h=>b7<|hm h.1.dm
  |true=>
   refine cv.ok.wv (d:=d+4) aA.1 aA.2 λu bn bS d7 bg aF bF=> ?_;refine d7.ok.wv (d:=d+4) kY.1 kY.2 λv fx d2 n8 eA cP s3=> ?_;have aF:aE fx.T u=fK Z.T0 p:=(gn d7.ok.dz n8.pre bF).trans aF;have bF:=n8.pre.some bF;have Ht:=(cv.trans d7).trans n8;have Pp:=Ct Z.G aA.1 aA.2;have Pq:=Ct Z.G kY.1 kY.2;have eA:fx.r=w.r:=eA.trans bg;have Hu:fx.r.aM≠3:=eA▸bl;refine(io fx (z+2) u v (cp Hu) n8.ok (Ht.lim X) ⟨bF,s3⟩ (aF.symm▸Pp)<|cP.symm▸Pq).elim λc h=>h.elim λbI h=> ?_;have A:=h.2;rw[aF,cP]at A;have Pr:fx.Q.q=w.Q.q:=ai fo.q Ht.q;have ask:a0 a2 (d+9) 30 [.L w.Q.q,J u,J v] fx.C=some (.bool c,bI.C):=go λk=>k _ _<|eF Pr h.1;have bL:mT dw fx.C 5 (.L w.Q.q)=some (some 30):=eF Pr n8.ok.k.bx.ph;have pl:=Ht.trans A.out;have f6:bE Z.A bI.C w.Q bI.r bI.r.tr (kK bI.eV):=pl.q▸A.out.ok.k.bx;have cU:w.r.aM≠2->fx.r.aM≠2:=λm=>eA▸m;cases c with
   |false=>exact aq false bI (go λk=>k _ W.k.bx.c5 _ W.au.cz _ W.k.bx.c5 _ nX _ _ Hs false rfl _ _ a6 _ _ bS _ _ d2 _ bL _ _ ask) (pl.gf<|cT _ _) λm h=>Bool.noConfusion<|(A.iT Hu).kI (cU m)<|.i8 h.2
   |true=>
    have Ps:bI.T[s]? =some a:=pl.pre.get a9.row;have G9:cw (bk<|d+9) (Pm 7) (ar (ar (ar (ar (cm [.L w.Q.q,J s,cn q]) 3<|.L Z.A.t) 4<|cn p) 5<|J u) 6<|J v) bI.C=some (.next,ar (ar (ar (ar (cm [.L w.Q.q,J s,cn q]) 3<|.L Z.A.t) 4<|cn p) 5<|J u) 6<|J v,bI.C):=by
     have aP:=OF (d:=d+8) f6;cases ao:bI.r.n0&&decide (bI.r.aM=1)with
     |false=>exact dk λk=>k _ _<|gX aP ao
     |true=>exact dk λk=>k _ _ (gX aP ao) _ _ (go λk=>k _ f6.c5 _ A.out.ok.au.cz _ A.out.ok.au.cJ _ (A.out.ok.au.row Ps) _ cN _<|bN (b:=12)<|(by decide:∀k:Nat,k∈[1,2,3,4,6,8,9]->¬k=12) _<|kinds a)
    have fin:∀pn:gA,cw (bk<|d+9) (Pm 8) (ar (ar (ar (ar (cm [.L w.Q.q,J s,cn q]) 3<|.L Z.A.t) 4<|cn p) 5<|J u) 6<|J v) bI.C=some (.next,ar (ar (ar (ar (cm [.L w.Q.q,J s,cn q]) 3<|.L Z.A.t) 4<|cn p) 5<|J u) 6<|J v,pn.C)->cC Z [] z bI pn->(ij p.b2=ij q.b2->cK Z.P (fK Z.T0 p) (fK Z.T0 q)->pn.r.ns=bI.r.ns)->R:=λpn Ha zp j0=>aq true pn (gi [false,false,false,false,false,false,false,true,true] λk=>k _ W.k.bx.c5 _ W.au.cz _ W.k.bx.c5 _ nX _ _ Hs false rfl _ _ a6 _ _ bS _ _ d2 _ bL _ _ ask _ _ _ G9 _ _ _ Ha) (pl.trans zp) λm h=>⟨rfl,(j0 h.1.rf h.2).trans<|(A.clean (cU m)<|.i8 h.2).trans<|ai eK.ns eA⟩
    have hf:=Bj (d:=d+8) A.out.ok.au.fZ Ps;have bi:=sF (d:=d+8) (C:=bI.C) (p:=p);have bg:=sF (d:=d+8) (C:=bI.C) (p:=q);have ql:bI.r.aM≠3:=V A.out.same Hu;cases rY:a.d6 with
    |false=>have gB:=(gn n8.ok.dz A.out.pre bF).trans aF;have c3:=(gn n8.ok.dz A.out.pre s3).trans cP;exact abj (d:=d) zo A.out.ok ql ⟨A.out.pre.some bF,A.out.pre.some s3⟩ (gB.symm▸Pp.mL) (c3.symm▸Pq.mL) λpn dF zp j0=>fin pn (dk λk=>k _ _ (gX hf rY) _ _ bi _ _ bg _ _<|eF (ai fo.q pl.q) dF) zp<|gB▸c3▸j0
    |true=>
     cases Y:ij p.b2 with
     |false=>exact fin bI (dk λk=>k _ _ (gX hf rY) _ _<|gX bi Y) ((cC.refl A.out.ok).gf<|cT _ _) λB B=>rfl
     |true=>cases ae:ij q.b2 with
      |true=>exact fin bI (dk λk=>k _ _ (gX hf rY) _ _ (gX bi Y) _ _<|gX bg ae) ((cC.refl A.out.ok).gf<|cT _ _) λB B=>rfl
      |false=>exact(A.out.ok.gf (eL:=z+1)<|jZ _).Cr (d:=d+7) ql (c:=4) λpn dF zp=>fin pn (dk λk=>k _ _ (gX hf rY) _ _ (gX bi Y) _ _ (gX bg ae) _ f6.ze _ _<|eF (ai fo.q pl.q) dF) zp.1 λq=>b7<|br ae<|br q Y
end
end
section
def abl{α β:Type}(h:α->Bool)(g:α->β)(l:List α):l.filterMap (λp=>if h p=true then some (g p)else none)=(l.filter h).map g:=by
 induction l with
 |nil=>rfl
 |cons p l ay=>
  rw[vb,List.filterMap_cons];cases h p with
  |true=>exact ai (g p::·) ay
  |false=>exact ay
def abm{l:List ed}(h:∀p∈l,e9 p.name):I.iW (l.map λp=>I.str p.name)=true:=by
 induction l with
 |nil=>rfl
 |cons p l ay=>exact dI (h p bo)<|ay λq aC=>h q<|bQ _ aC
def abn(h:C[a]? =some (.list l))(ac:I.key x)(ao:I.iW l):l3 C x (.L a)=some (decide<|x∈l):=by
 show(match C[a]?with
  |some (b3.list l)=>if I.key x&&I.iW l then some (decide<|x∈l)else none
  |some (b3.dict l)=>if e3 l x then some (cE l x).isSome else none
  |_=>none)=_
 exact V h<|bh<|dI ac ao
noncomputable def vc(m s:Nat)(a:af):Bool:=decide (m≠2)||(decide (s=4)||decide (s=5)||a.bc)
noncomputable def abo(i:Nat):dB:=Ic.body.getD i .fA
section
variable{n f:Nat}{a b:af}
def abp:a0 a2 (d+1) 87 [v,x,y,(af.obj dN f).b6] C=some (.bool true,C):=go λk=>k _ (b0 (i:=4) rfl) false rfl _ (b0 (i:=5) rfl) false rfl _ (b0 (i:=2) rfl) true rfl _ (b0 (i:=3) rfl) true rfl
def abq(W:cc Z ex z w)(aU:w.T[s]? =some a):a0 a2 (d+3) 84 [.L w.Q.q,J s] w.C=some (.bool<|vc w.r.aM s a,w.C):=by
 delta vc;by_cases ae:w.r.aM=2
 ·rw[cp λq=>q ae,Bool.false_or];exact go λk=>k _ W.k.bx.d5 _ (kc (b:=2) ae) _ W.k.bx.c5 _ W.au.cz _ _<|XZ (d:=d) W.au aU
 ·rw[ck ae,Bool.true_or];exact go λk=>k _ W.k.bx.d5 _<|kb (b:=2) ae
def abr{c:Nat}{cF:List I}(ag:c∉[Z.A.t+1,Z.A.t+2])(ps:List ed):∀{w:gA} {H:bT},cc Z ex z w->(∀p∈ps,∃o∈Z.T0,p∈o.gP)->w.C[c]? =some (.list cF)->H 0=some (.L Z.A.co)->
  (∀(bs:List Bool) S a7,ir (λs=>hc s (some c) cF) (λx s=>(gC (.aR 8) x H).bind λci=>(gp (bk<|d+5) [] ci s).bind λq=>if q.1 then(bV (bk<|d+5) (.aK .eq (.b1 (.E 0) 20 [(.a5 71 [(.aZ (.E 0) 51),(.E 8)])])<|U 4) ci q.2).bind λu=>some (some u.1,u.2)else some (none,q.2)) (ps.map cn) w.C=some (bs.map .bool,S)->cC Z ex z w {w with C:=S,T:=a7}->bs.length=ps.length->R)->R:=by
 induction ps with
 |nil=>exactλW B ao B aq=>aq [] _ _ (bh<|iw ao) (.refl W) rfl
 |cons p ps ay=>intro w H W ab ao h0 aq;refine(ab p bo).elim λo aA=>W.OQ (d:=d) aA.1 aA.2 λu ax cA a6 cv f1 B B=>ay cv.ok (λq aC=>ab q<|bQ _ aC) (f1.get ao ag) h0 λbs S a7 bS d7 hn=> ?_;exact aq (decide ((u:Int)=4)::bs) S a7 (sC (iw ao) (bB (x:=gC (.aR 8) (cn p) H) rfl<|bB (x:=gp (bk<|d+5) [] _ w.C) rfl<|bB (i7 (H:=ar H 8<|cn p) λk=>k _ h0 _ W.au.aaq _ h0 _ W.au.cz _ rfl _ _ a6 _ _ (wo cv.ok.au) _<|A4 _ _ _) rfl) bS) (cv.trans d7)<|ai Nat.succ hn
def abt(W:cc Z ex z w)(a9:mj w.T Z.a1 s a eR)(ab:∀p∈eR,∃o∈Z.T0,p∈o.gP)(aj:∀p∈dN,e9 p.name)(aq:∀x S a7,a0 a2 (d+6) 86 [.L Z.A.co,J s,(af.obj dN f).b6] w.C=some (.bool x,S)->cC Z ex z w {w with C:=S,T:=a7}->(a.val=false->(∀p∈eR,∃q∈dN,q.name=p.name)->x)->R):R:=by
 have X:=W.au;cases aS:a.val with
 |true=>exact aq false w.C w.T (go λk=>k _ X.cz _ X.cJ _ (X.row a9.row) _ cN _<|ej<|fz [1,2,3,4,5] aS) (.refl W) λh=>b7<|br h aS
 |false=>
  refine a9.d4.elim λu h=>h.elim λg h=> ?_;have jb:cw (bk<|d+5) (abo 2) (ar (cm [.L Z.A.co,J s,(af.obj dN f).b6]) 3 (af.obj eR g).b6) w.C=some (.next,ar (cm [.L Z.A.co,J s,(af.obj dN f).b6]) 3 (af.obj eR g).b6,w.C):=by
   have heq:=FK (C:=w.C) (FM aj) (b:=[]) rfl;by_cases he:dN.map cn=[]
   ·exact dk λk=>k _ (b0 (i:=1) rfl) _ (dH heq<|ck he) _ _ rfl false rfl
   ·exact dk λk=>k _ (b0 (i:=1) rfl) _<|dH heq<|cp he
  have eQ:=yr (b6:=cn) (C:=w.C) (O:=bk<|d+5) (H:=ar (cm [.L Z.A.co,J s,(af.obj dN f).b6]) 3 (af.obj eR g).b6) (i:=8) (elt:=.av (.E 8)<|U 0) (cg:=.av (.E 2)<|U 1) (xs:=dN) (g:=λp=>.str p.name) (jj λk=>k _<|b0 (i:=1) rfl) λq B=>i7 λk=>k _ rfl _<|b0 (i:=0) rfl;have hn:(w.C++[b3.list<|dN.map λp=>I.str p.name])[w.C.length]? =some (.list<|dN.map λp=>I.str p.name):=d8;have gV:bV (bk<|d+5) (.comp (.E 8) (.aR 8) (.av (.E 3)<|U 1) [(.aK .jd (.av (.E 8)<|U 0)<|.E 4)]) (ar (ar (cm [.L Z.A.co,J s,(af.obj dN f).b6]) 3 (af.obj eR g).b6) 4<|.L w.C.length) (w.C++[.list<|dN.map λp=>.str p.name])=some (.L (w.C++[b3.list<|dN.map λp=>I.str p.name]).length,w.C++[.list<|dN.map λp=>.str p.name]++[.list<|(eR.filter λp=> !decide (I.str p.name∈dN.map λp=>I.str p.name)).map cn]):=
   ra (iv:=none) (l:=eR.map cn) (jj λk=>k _<|b0 (i:=1) rfl) rfl (eF (abl _ cn eR) (MK (h:=λp=>if(!decide (I.str p.name∈dN.map λp=>I.str p.name))=true then some (cn p)else none) rfl eR λp qV=>by
    have CE:=o0<|abn (x:=.str p.name) hn (a9.names p qV)<|abm aj;cases e: !decide (I.str p.name∈dN.map λp=>I.str p.name)with
    |true=>rw[e]at CE;exact bB (x:=gC (.aR 8) (cn p) _) rfl<|bB (x:=gp (bk<|d+5) _ _ _) (bB (i7 λk=>k _ rfl _ nX _ rfl _ CE)<|bB (Fc _ _) rfl) rfl
    |false=>rw[e]at CE;exact bB (x:=gC (.aR 8) (cn p) _) rfl (bB (x:=gp (bk (d+5)) _ _ _) (bB (i7 λk=>k _ rfl _ nX _ rfl _ CE) (bB (Fc _ _) rfl)) rfl)))
  have f2:=(bw.push w.C [b3.list<|dN.map λp=>I.str p.name] []).trans<|bw.push _ [.list<|(eR.filter λp=> !decide (I.str p.name∈dN.map λp=>I.str p.name)).map cn] [];have d7:=W.te f2;have lt:∀c∈[Z.A.t+1,Z.A.t+2],c<(w.C++[b3.list<|dN.map λp=>I.str p.name]).length:=λc h=>c7 (ux (P:=λc=>c<w.C.length) (fc X.lF) (fc X.av) c h)<|V eo<|cT _ _;refine abr (d:=d) (c:=(w.C++[b3.list<|dN.map λp=>I.str p.name]).length) (λq=>Nat.lt_irrefl _<|lt _ q) (eR.filter λp=> !decide (I.str p.name∈dN.map λp=>I.str p.name)) (H:=ar (ar (ar (cm [.L Z.A.co,J s,(af.obj dN f).b6]) 3 (af.obj eR g).b6) 4<|.L w.C.length) 5<|.L (w.C++[b3.list<|dN.map λp=>I.str p.name]).length) d7.ok (λp qV=>ab p (pL qV).1) d8 rfl λbs fD zb gM Pt ao=> ?_;have abu:=Pt.ok.te<|bw.push fD [.list<|bs.map .bool] [];refine aq (bs.all id) _ zb (gi [false,false,true] λk=>k _ X.cz _ X.cJ _ (X.row a9.row) _ cN _ (ej<|fz [1,2,3,4,5] aS) _ X.cz _ X.cJ _ X.n1 _ _ (rc (d:=d+3) X h.1) _ (X.row h.2) _ _ _ jb _ _ eQ _ _ gV _ _ (ra (fJ rfl) (lN d8) gM) _ _<|FN d8) ((d7.trans Pt).trans abu) λB ye=> ?_;have e:(eR.filter λp=> !decide (I.str p.name∈dN.map λp=>I.str p.name))=[]:=List.filter_eq_nil_iff.mpr λp qV q=>(ye p qV).elim λr aH=>b7 ((ai (!·)<|ck<|i1 ⟨r,aH.1,ai I.str aH.2⟩).symm.trans q);exact yL.mp (ao.trans<|ai List.length e)▸rfl
end
end
section
noncomputable def CF(i:Nat):dB:=Ib.body.getD i .fA
section
variable{n:Nat}{a b:af}{P:af->List g8}
def abv(c8:List ed):∀{w:gA} {H:bT},(∀q∈c8,∀z bG,cC Z ex (z+3) fW bG->∃c bn,a0 a2 d 92 [.L fW.Q.q,J s,cn q] bG.C=some (.bool c,bn.C)/\cC Z ex z bG bn/\K q c/\(pp->bn.r.ns=bG.r.ns))->cC Z ex (z+3*c8.length) fW w->H 0=some (.L fW.Q.q)->H 1=some (J s)->
  (∀c aT az,fX (λB=>true) (λx H s=>cG (bk d) (jN<|CF 4) (ar H 6 x) s) (c8.map cn) H w.C=some (c,aT,az.C)->cC Z ex z w az->(∀i,i≠6->aT i=H i)->(pp->az.r.ns=w.r.ns)->(c=.next/\∀q∈c8,K q true)\/(c=.ret (.bool false)/\∃q∈c8,K q false)->R)->R:=by
 induction c8 with
 |nil=>exactλB O B B aq=>aq .next _ _ rfl (.refl O.ok) (λB B=>rfl) (λB=>rfl) (.inl ⟨rfl,λB=>fO⟩)
 |cons q c8 ay=>
  intro w H CG O h0 Y aq;refine(CG q bo (z+3*c8.length) w O).elim λc h=>h.elim λbG h=> ?_;cases c with
  |false=>exact aq _ _ bG (mQ rfl<|eJ λk=>k _ h0 _ Y _ rfl _ _ h.1) (h.2.1.gf<|cT _ _) (λi ah=>pZ _ _ ah) h.2.2.2<|.inr ⟨rfl,q,bo,h.2.2.1⟩
  |true=>exact ay (H:=ar H 6<|cn q) (λp ab=>CG p<|bQ _ ab) (O.trans h.2.1) h0 Y λc aT az f1 f2 hk f4 kx=>aq c aT az (eT rfl (eJ λk=>k _ h0 _ Y _ rfl _ _ h.1) f1) (h.2.1.trans f2) (λi ah=>(hk i ah).trans<|pZ _ _ ah) (λg=>(f4 g).trans<|h.2.2.2 g)<|kx.imp (λg=>⟨g.1,λp ab=>(cS ab).elim (λe=>e▸h.2.2.1)<|g.2 p⟩) λg=>⟨g.1,g.2.imp λp ab=>⟨bQ _ ab.1,ab.2⟩⟩
def Pu(W:cc Z ex (z+9) w)(ll:mj w.T Z.a1 s a eR)(h1:mj w.T Z.a1 t b dN)(fg:b.shaped)(ab:∀p∈eR,∃o∈Z.T0,p∈o.gP)(f9:dN.length<=3)(CG:∀q∈dN,∀z bG,cC Z ex (z+3) w bG->∃c bn,a0 a2 (d+6) 92 [.L w.Q.q,J s,cn q] bG.C=some (.bool c,bn.C)/\cC Z ex z bG bn/\K q c/\(pp->bn.r.ns=bG.r.ns))(abw:pp->s9 w.T s eR dN=false)(dm:pp->a.val=false/\∀p∈eR,∃q∈dN,q.name=p.name)(aq:∀c az,a0 a2 (d+7) 85 [.L w.Q.q,J s,J t,.bool true] w.C=some (.bool c,az.C)->cC Z ex z w az->(pp->az.r.ns=w.r.ns)->(c=true->(vc w.r.aM s a&&s9 w.T s eR dN)=false/\∀q∈dN,K q true)->(c=false->pp->∃q∈dN,K q false)->R):R:=
 h1.d4.elim λv h=>h.elim λg aS=>by
  have aJ:a0 a2 (d+6) 68 [.L Z.A.co,J t] w.C=some (J v,w.C):=rc (d:=d+4) W.au aS.1;have Hv:a0 a2 (d+6) 84 [.L w.Q.q,J s] w.C=some (.bool<|vc w.r.aM s a,w.C):=abq (d:=d+3) W ll.row;have rest:∀ax,cw (bk<|d+6) (CF 2) (ar (ar (cm [.L w.Q.q,J s,J t,.bool true]) 4<|.L Z.A.co) 5 (af.obj dN g).b6) w.C=some (.next,ar (ar (cm [.L w.Q.q,J s,J t,.bool true]) 4<|.L Z.A.co) 5 (af.obj dN g).b6,ax)->bw w.C ax []->(vc w.r.aM s a&&s9 w.T s eR dN)=false->R:=λax jb f1 hw=>by
   have cv:=W.te f1;have hf:=Bj (d:=d+5) cv.ok.au.fZ h1.row;have rest:∀bq mr,cw (bk<|d+6) (CF 3) (ar (ar (cm [.L w.Q.q,J s,J t,.bool true]) 4<|.L Z.A.co) 5 (af.obj dN g).b6) ax=some (.next,ar (ar (cm [.L w.Q.q,J s,J t,.bool true]) 4<|.L Z.A.co) 5 (af.obj dN g).b6,bq)->cC Z ex (z+9) {w with C:=ax} {w with C:=bq,T:=mr}->R:=λbq mr qd d7=>by
    have O:=cv.trans d7;refine abv (z:=z) (K:=K) (pp:=pp) dN CG (O.gf<|hA (m3 3 f9) z) (H:=ar (ar (cm [.L w.Q.q,J s,J t,.bool true]) 4<|.L Z.A.co) 5 (af.obj dN g).b6) rfl rfl λc aT az f1 f2 hk f4 kx=> ?_;have pg:cw (bk<|d+6) (CF 4) (ar (ar (cm [.L w.Q.q,J s,J t,.bool true]) 4<|.L Z.A.co) 5 (af.obj dN g).b6) bq=some (c,aT,az.C):=lL (jj λk=>k _<|b0 (i:=1) rfl) f1;refine kx.elim (λq=> ?_) λq=> ?_
    ·obtain⟨rfl,q⟩:=q;exact aq true az (q7 [false,false,true,true,true] λk=>k _ rfl _ W.k.bx.c5 _ rfl _ W.au.cz _ W.au.cJ _ rfl _ W.au.n1 _ rfl _ _ aJ _ (W.au.row aS.2) _ _ _ jb _ _ _ qd _ _ _ pg _ (hk 0<|by decide) _ (hk 1<|by decide) _ (hk 2<|by decide) _ (hk 5<|by decide) _ _ abp) (O.trans f2) f4 (λB=>⟨hw,q⟩) nofun
    ·obtain⟨rfl,q⟩:=q;exact aq false az (q7 [false,false,true,true,true] λk=>k _ rfl _ W.k.bx.c5 _ rfl _ W.au.cz _ W.au.cJ _ rfl _ W.au.n1 _ rfl _ _ aJ _ (W.au.row aS.2) _ _ _ jb _ _ _ qd _ _ _ pg) (O.trans f2) f4 nofun λB B=>q
   by_cases cq:w.r.aM=4
   ·cases aj:b.d6 with
    |false=>exact rest ax w.T (dk λk=>k _ cv.ok.k.bx.d5 _ (cY (b:=4) cq) _ cv.ok.au.cz _ _<|gX hf aj)<|.refl cv.ok
    |true=>
     refine abt (d:=d) (f:=g) cv.ok ll ab h1.names λx bq mr ae d7 ac=> ?_;cases x with
     |true=>exact rest bq mr (dk λk=>k _ cv.ok.k.bx.d5 _ (cY (b:=4) cq) _ cv.ok.au.cz _ _ (gX hf aj) _ _ ae) d7
     |false=>exact aq false {w with C:=bq,T:=mr} (gi [false,false,true] λk=>k _ W.k.bx.c5 _ W.au.cz _ W.au.cJ _ W.au.n1 _ _ aJ _ (W.au.row aS.2) _ _ _ jb _ cv.ok.k.bx.d5 _ (cY (b:=4) cq) _ cv.ok.au.cz _ _ (gX hf aj) _ _ ae) ((cv.trans d7).gf<|cT _ _) (λB=>rfl) nofun λB f=>b7<|ac (dm f).1 (dm f).2
   ·exact rest ax w.T (dk λk=>k _ cv.ok.k.bx.d5 _<|bN (b:=4) cq)<|.refl cv.ok
  cases aC:vc w.r.aM s a with
  |false=>exact rest w.C (dk λk=>k _ _<|gX Hv aC) (.refl _ _) (ai (·&&_) aC)
  |true=>
   refine aar (d:=d+2) W.au ll h1 (zi fg) λax Y f1=> ?_;cases hw:s9 w.T s eR dN with
   |false=>exact rest ax (dk λk=>k _ _ (gX Hv aC) _ _<|gX Y hw) f1 (by rw[hw,Bool.and_false])
   |true=>exact aq false {w with C:=ax} (go λk=>k _ W.k.bx.c5 _ W.au.cz _ W.au.cJ _ W.au.n1 _ _ aJ _ (W.au.row aS.2) _ _ (gX Hv aC) _ _<|gX Y hw) ((W.te f1).gf<|cT _ _) (λB=>rfl) nofun λB f=>b7<|(abw f).symm.trans hw
end
end
section
section
variable{n:Nat}{a b:af}{P:af->List g8}{T:List af}
def mj.pre(a9:mj T a1 s a eR)(x:ek T a7):mj a7 a1 s a eR:=⟨x.get a9.row,a9.M4,a9.d4.imp λB h=>h.imp λB h=>⟨BA x h.1,x.get h.2⟩,a9.names,a9.cF⟩
def abx(aG:(eR.map ed.name).Nodup)(ab:p∈eR)(e:p.name=q.name):lU eR q.name=some p:=by
 induction eR with
 |nil=>exact fO ab
 |cons x eR ay=>have aG:=hH aG;exact(cS ab).elim (λh=>h▸vG (ck e)) λh=>(List.find?_cons_of_neg λk=>aG.1<|i1 ⟨p,h,e.trans (dx k).symm⟩).trans<|ay aG.2 h
def Hw(mz:¬jP m a b)(ae:¬G4 m a b->c=false)(ba:m≠2->iR P [a] [b]->c):hY P m [a] [b] c:=⟨λx e v=>v.elim λy q=>absurd ((h2 e λe B=>e:a=x)▸bR q.1▸q.2) mz,λx e v=>ae<|(h2 e λe B=>e:a=x).symm▸(v b bo).2,ba⟩
def aby(aj:dN≠[])(h:∀q∈dN,∃p,lU eR q.name=some p):s9 T s eR dN=false:=by have e:(dN.all λp=>(lU eR p.name).isNone)=false:=(va _ aj).elim λq aC=>(h q aC).elim λp ab=>List.all_eq_false.mpr ⟨q,aC,λk=>bf<|(Option.isNone_iff_eq_none.mp k).symm.trans ab⟩;exact(ai (wU dN&& !rd T s&&·) e).trans<|Bool.and_false _
def abz(io:tg false (d+8) n Z)(zo:qm (d+5) Z)(W:cc Z [] (z+9) w)(X:rF n w.r)(bl:w.r.aM≠3)(aU:w.T[s]? =some a)(aj:w.T[t]? =some b)(g3:a.shaped)(fg:b.shaped)(na:s≠11)(nb:t≠11)(mz:¬jP w.r.aM a b)(aq:∀c az,a0 a2 (d+11) 85 [.L w.Q.q,J s,J t,.bool true] w.C=some (.bool c,az.C)->lX Z [] z w [a] [b] c az->R):R:=by
 have ll:=yG Z.G Z.D W.dz aU g3 na;have h1:=yG Z.G Z.D W.dz aj fg nb;have key:cD (λp q=>ix (gy Z.T0 p) (gy Z.T0 q)/\cK Z.P (fK Z.T0 p) (fK Z.T0 q)) (fP Z.T0 Z.a1 a) (fP Z.T0 Z.a1 b)->∀q∈fP Z.T0 Z.a1 b,∃p∈fP Z.T0 Z.a1 a,lU (fP Z.T0 Z.a1 a) q.name=some p/\ix (gy Z.T0 p) (gy Z.T0 q)/\cK Z.P (fK Z.T0 p) (fK Z.T0 q):=λf q aC=>(f.i8 q aC).imp λp ab=>⟨ab.1,abx ll.2.names ab.1 ab.2.1.name,ab.2⟩;have kI:w.r.aM≠2->iR Z.P [a] [b]->w.r.aM≠2/\cD (λp q=>ix (gy Z.T0 p) (gy Z.T0 q)/\cK Z.P (fK Z.T0 p) (fK Z.T0 q)) (fP Z.T0 Z.a1 a) (fP Z.T0 Z.a1 b):=λm f=>⟨m,f.j4.aR.elim (λe=>absurd (.inl e) mz) λo=>(cD.Hf (c4:=λp q=>ix p q/\cK Z.P p.lb q.lb)).mpr<|(o.gP:mZ (cK Z.P) (Z.P a) (Z.P b)).imp λB B h=>⟨h.1,.uC h.2⟩⟩;refine Pu (d:=d+4) (z:=z) (pp:=w.r.aM≠2/\cD (λp q=>ix (gy Z.T0 p) (gy Z.T0 q)/\cK Z.P (fK Z.T0 p) (fK Z.T0 q)) (fP Z.T0 Z.a1 a) (fP Z.T0 Z.a1 b)) (K:=λq c=>w.r.aM≠2/\cD (λp q=>ix (gy Z.T0 p) (gy Z.T0 q)/\cK Z.P (fK Z.T0 p) (fK Z.T0 q)) (fP Z.T0 Z.a1 a) (fP Z.T0 Z.a1 b)->c) W ll.1 h1.1 fg (λp ab=>(ll.2.mem p ab).2) h1.2.f9
  (λq aC eL bG O=> ?_) (λf=>aby h1.2.bu λq aC=>(key f.2 q aC).imp λp ab=>ab.2.1) (λf=>⟨by
   cases a with
   |obj=>rfl
   |ref=>rfl
   |_=>exact Bool.noConfusion g3,λp ab=>(f.2.swap.i8 p ab).imp λq aC=>⟨aC.1,aC.2.1.name.symm⟩⟩) λc az h O aD aF cP=> ?_
 ·have er:bG.r.aM=w.r.aM:=V O.same rfl;have ti:=ll.1.pre O.pre;cases dp:lU (fP Z.T0 Z.a1 a) q.name with
  |none=>exact Po (d:=d+6) (z:=eL) (O.ok.gf (eL:=eL+1)<|hA (by decide) eL) (V er bl) ti (h1.2.mem q aC).1.name dp λc bn ae d7 B=>⟨c,bn,eF (ai fo.q O.q) ae,d7,λf=>(key f.2 q aC).elim λp ab=>bf<|br dp ab.2.1,λf=>(key f.2 q aC).elim λp ab=>bf<|br dp ab.2.1⟩
  |some p=>exact abk (d:=d) (z:=eL) io zo O.ok (O.lim X) (V er bl) ti (ll.2.mem p<|List.mem_of_find?_eq_some dp) (h1.2.mem q aC) dp λc bn ae d7 f2=>
    have g:w.r.aM≠2/\cD (λp q=>ix (gy Z.T0 p) (gy Z.T0 q)/\cK Z.P (fK Z.T0 p) (fK Z.T0 q)) (fP Z.T0 Z.a1 a) (fP Z.T0 Z.a1 b)->c/\bn.r.ns=bG.r.ns:=λf=>(key f.2 q aC).elim λqy ab=>f2 (er.symm▸f.1)<|bp (br dp ab.2.1)▸ab.2.2
    ⟨c,bn,eF (ai fo.q O.q) ae,d7,λf=>(g f).1,λf=>(g f).2⟩
 ·exact aq c az h ⟨O,λm=>absurd m bl,λm=>absurd m bl,λB=>Hw mz (λn=>absurd (.inl ⟨g3,fg⟩) n) λm f=>by
   cases c with
   |true=>rfl
   |false=>exact(cP rfl (kI m f)).elim λq aC=>aC.2 (kI m f),λm f=>aD (kI m f)⟩
def abA(W:cc Z ex (z+9) w)(bl:w.r.aM≠3)(aU:w.T[s]? =some a)(aj:w.T[t]? =some b)(hK:a.val)(fg:b.shaped)(nb:t≠11)(hn:rd w.T s=false)(mz:¬jP w.r.aM a b)(aq:∀c az,a0 a2 (d+11) 85 [.L w.Q.q,J s,J t,.bool true] w.C=some (.bool c,az.C)->lX Z ex z w [a] [b] c az->R):R:=by
 have ll:=Yq (a1:=Z.a1) W.cX aU hK;have h1:=yG Z.G Z.D W.dz aj fg nb;have Pv:iR Z.P [a] [b]->False:=λf=>f.j4.aR.elim (λe=>mz<|.inl e) λo=>b7<|(Cw hK).symm.trans o.be;refine Pu (d:=d+4) (z:=z) (pp:=False) (K:=λq c=>gj q.b2=false->c=false) W ll h1.1 fg (λp=>fO) h1.2.f9 (λq aC eL bG O=> ?_) False.elim False.elim λc az h O aD aF cP=> ?_
 ·exact Po (d:=d+6) (z:=eL) (O.ok.gf (eL:=eL+1)<|hA (by decide) eL) (V (V O.same rfl:bG.r.aM=w.r.aM) bl) (ll.pre O.pre) (h1.2.mem q aC).1.name rfl λc bn ae d7 f2=>⟨c,bn,eF (ai fo.q O.q) ae,d7,f2,False.elim⟩
 ·refine aq c az h ⟨O,λm=>absurd m bl,λm=>absurd m bl,λB=>Hw mz (λn=> ?_) λB f=>(Pv f).elim,λB f=>(Pv f).elim⟩;cases c with
  |false=>rfl
  |true=>
   have cU:w.r.aM≠2:=λq=>n<|.inr ⟨q,.inr fg⟩;have k:=aF rfl;have hw:wU (fP Z.T0 Z.a1 b)=false:=by have Y:(wU (fP Z.T0 Z.a1 b)&& !rd w.T s&&(fP Z.T0 Z.a1 b).all λp=>(lU [] p.name).isNone)=false:=(ai (·&&s9 w.T s [] (fP Z.T0 Z.a1 b)) (ai (·||_) (ck cU):vc w.r.aM s a)).symm.trans k.1;rw[hn,show((fP Z.T0 Z.a1 b).all λp=>(lU [] p.name).isNone)=true from nt.mpr λB B=>rfl,Bool.and_true]at Y;exact(Bool.and_true _).symm.trans Y
   have ae:((fP Z.T0 Z.a1 b).all λp=>gj p.b2)=false:=(ai (·&&_) (ai (!·)<|mH.mpr λq=>h1.2.bu<|t9.mp q)).symm.trans hw;exact(List.all_eq_false.mp ae).elim λq aC=>k.2 q aC.1<|mH.mpr aC.2
end
end
section
structure kg(n j:Nat)(r:eK):Prop where
 mx:qk r.tr<=n
 dl:r.dl+(3*n+j)<=60
 g9:r.dn.length+n+2<=24
structure mA(i:Bool)(d n:Nat)(Z:hF):Prop where
 io:∀m,n=m+1->∀j,tg i (d+j) m Z
 T:i=false->∀j,qm (d+j) Z
def Pw{tr:List (Nat×Nat)}:qk tr<=9:=List.length_filter_le _ _
def abB{tr:List (Nat×Nat)}{k:Nat×Nat}(hm:k∈w0)(an:k∉tr):qk (tr++[k])+1<=qk tr:=by
 have key:∀l:List (Nat×Nat),k∈l->(l.filter λx=>decide<|x∉tr++[k]).length+1<=(l.filter λx=>decide<|x∉tr).length:=λl=>by
  have le:∀l:List (Nat×Nat),(l.filter λx=>decide<|x∉tr++[k]).length<=(l.filter λx=>decide<|x∉tr).length:=λl=>(w1 (l:=l))▸(w1 (l:=l))▸List.countP_mono_left λx B h=>ck λq=>dx h<|jg _ q;induction l with
  |nil=>exact fO
  |cons x l ay=>
   intro h;by_cases e:x=k
   ·rw[vb,vb,bH<|show¬decide (x∉tr++[k])=true fromλq=>dx q<|i0 _<|e▸bo,bh<|show decide (x∉tr)=true from ck<|e▸an];exact kX<|le l
   ·have h:=ay<|(cS h).resolve_left<|Ne.symm e;by_cases q:x∈tr
    ·rw[vb,vb,bH<|show¬decide (x∉tr++[k])=true fromλp=>dx p<|jg _ q,bH<|show¬decide (x∉tr)=true fromλp=>dx p q];exact h
    ·rw[vb,vb,bh<|show decide (x∉tr++[k])=true from ck λp=>(gb p).elim q λp=>e<|bR p,bh<|show decide (x∉tr)=true from ck q];exact kX h
 exact key w0 hm
section
variable{n v e:Nat}{a b:af}{T:List af}{r:eK}
def kg.push(X:kg n (j+1) r)(k:Nat×Nat):kg n j (r.push k):=⟨a3 He X.mx,a3 (cM<|Nat.succ_add _ _) X.dl,X.g9⟩
def cC.Px(O:cC Z ex z w az)(X:kg n j w.r):kg n j az.r:=O.ext.elim λaB e=>⟨e.1▸a3 He X.mx,V (ai eK.dl O.same) X.dl,V (ai eK.dn O.same) X.g9⟩
def ha.d4(G:bO T)(h:T[t]? =some a)(aH:ct a=a)(an:a.kind≠6)(aS:a.val=false)(ag:ha (aE T t)):a.shaped/\t≠11/\aE T t=[a]:=
 have e:=kL G h an (λq=>b7<|br aS<|(ju G (i:=2) rfl h).mpr q▸rfl) aH
 (ag a<|e▸bo).elim (λq=>b7<|br aS q.1) λq=>⟨q.1,λk=>q.2<|(ju G (i:=11) rfl h).mpr k,e⟩
def gJ.lim{tr:List (Nat×Nat)}(G:bO T)(aJ:T[s]? =some a)(aP:T[t]? =some b)(zk:aE T s=[a])(sS:aE T t=[b])(hK:a.val=false)(lm:b.val=false)(cs:gJ n (aE T s))(eI:gJ n (aE T t))(an:(s,t)∉tr)(hn:qk tr<=n)(aq:∀m,n=m+1->qk (tr++[(s,t)])<=m->R):R:=by
 have ref:∀{t:Nat} {b:af},T[t]? =some b->aE T t=[b]->b.val=false->n5 (aE T t)->t∈[16,17,18]:=λ{t b} h e v c=>(c b<|e▸bo).elim (λq=>b7<|br v q.1) λq=>q.elim λi e=>by
  subst e;have k:=G.row t _ h;exact(k.1▸(by decide:∀i:Nat,i<=3->1<=i->15+i∈[16,17,18]) i k.2.2 k.2.1)
 by_cases h:n<10
 ·have hm:(s,t)∈w0:=(by decide:∀s∈[16,17,18],∀t∈[16,17,18],(s,t)∈w0) s (ref aJ zk hK<|cs.2 h) t<|ref aP sS lm<|eI.2 h;have k:=a3 (abB hm an) hn;cases n with
  |zero=>exact absurd k<|vu _
  |succ m=>exact aq m rfl<|Nat.le_of_succ_le_succ k
 ·cases n with
  |zero=>exact absurd (by decide) h
  |succ m=>exact aq m rfl<|a3 Pw<|Nat.le_of_succ_le_succ<|Nat.le_of_not_lt h
def abC(io:tg (decide<|w.r.aM=3) (d+8) n Z)(zo:w.r.aM≠3->qm (d+5) Z)(W:cc Z [] (z+9) w)(bu:w.r.tr≠[])(mx:qk w.r.tr<=n)(abD:w.r.dl+3*n+4<=60)(dn:w.r.dn.length+1+n+2<=24)(aU:w.T[s]? =some a)(aj:w.T[t]? =some b)(g3:a.shaped)(fg:b.shaped)(na:s≠11)(nb:t≠11)(st:s≠t)(mz:w.r.aM≠3->¬jP w.r.aM a b)(aq:∀c az,a0 a2 (d+16) (if w.r.aM=3 then 59 else 53) [.L w.Q.q,J s,J t] w.C=some (.bool c,az.C)->lX Z [] z w [a] [b] c az->R):R:=by
 have aH:w.r.dn.length<24:=a3 (cT _<|n+2) dn;have dC:∀x,rF n {w.r with dn:=w.r.dn++[x]}:=λx=>⟨bu,mx,abD,V eo dn⟩;by_cases bl:w.r.aM=3
 ·rw[ck bl]at io;rw[bh bl]at aq;exact Hh (d:=d+4) (k:=false) W aH aU aj (λax x W1 K=>aaZ (d:=d+4) io (W1.gf<|hA (by decide) z) (dC x) bl aU aj g3 fg na nb λc bn h a9=>K c bn (λB=>h) (λm=>absurd bl m) a9) λc az h a9=>aq c az (aa2 W bl aU aj g3 fg st h) a9
 ·rw[cp bl]at io;rw[bH bl]at aq;exact Hh (d:=d+4) (k:=true) W aH aU aj (λax x W1 K=>abz (d:=d) io (zo bl) W1 (dC x) bl aU aj g3 fg na nb (mz bl) λc bn h a9=>K c bn (λm=>absurd m bl) (λB=>h) a9) λc az h a9=>aq c az (O6 W bl aU aj (zj g3) fg st h) a9
end
end
section
structure tj(D:Nat)(Z:hF)(ex:List (Nat×Nat))(z:Nat)(w:gA)(aI gG:List af)(s t u v:Nat)(ax:St)(cA:List af)(ee:List (Nat×Nat))(pk:Bool->Prop):Prop where
 out:cC Z ex z w {w with C:=ax,T:=cA}
 Py:iC cA (u,v)
 gB:aE cA u=aI
 c3:aE cA v=gG
 new:(u,v)∉ex
 Hx:∀k∈ex,k∈ee
 nB:∀k∈ee,k∈ex\/k=(u,v)
 iT:w.r.aM=3\/(u,v)∈ee\/hY Z.P w.r.aM aI gG true
 go:∀{y:I×St},a0 a2 (D+1) 41 [.L w.Q.q,J u,J v] ax=some y->a0 a2 (D+2) 40 [.L w.Q.q,J s,J t] w.C=some y
 str:∀cB eL,cc Z ee (eL+9) {w with C:=cB,T:=cA,r:=w.r.push (u,v)}->(u,v)∉w.r.tr->∃c bI,a0 a2 D (if w.r.aM=3 then 59 else 53) [.L w.Q.q,J u,J v] cB=some (.bool c,bI.C)/\lX Z ee eL {w with C:=cB,T:=cA,r:=w.r.push (u,v)} aI gG c bI/\pk c
section
variable{n v e:Nat}{a b:af}{i:Bool}{T cA:List af}{r:eK}
def tj.ask(K:tj (d+1) Z ex z w aI gG s t u v ax cA ee pk)(bu:w.r.tr≠[])(bC:w.r.dl<60):∃b az,a0 a2 (d+3) 40 [.L w.Q.q,J s,J t] w.C=some (.bool b,az.C)/\iS Z ex z w aI gG b az:=by obtain⟨O,aS,rfl,rfl,new,Hx,nB,iT,go,str⟩:=K;exact aaP (d:=d) (w:={w with C:=ax,T:=cA}) O.ok bu bC aS new Hx nB iT (λcB hX an B k=>(str cB z hX an).elim λc h=>h.elim λbI h=>k c bI h.1 h.2.1) λb az h A=>⟨b,az,go h,O.trans A.out,A.zg,A.pos,A.neg,A.iT,A.clean⟩
def tj.top(K:tj (d+1) Z [] z w aI gG s t u v ax cA ee pk)(gg:Top w.r)(aq:∀b az,a0 a2 (d+3) 40 [.L w.Q.q,J s,J t] w.C=some (.bool b,az.C)->wY Z w aI gG b az->(w.r.bz=[]->pk b)->R):R:=by obtain⟨O,aS,rfl,rfl,new,Hx,nB,iT,go,str⟩:=K;exact aaT (d:=d) (w:={w with C:=ax,T:=cA}) (O.ok.cF gg) gg aS (λk h=>(nB k h).resolve_left b5) iT (λcB hX an B k=>(str cB 4000000 hX an).elim λc h=>h.elim λbI h=>k c bI h.1 h.2.1 h.2.2) λb az h A ab=>aq b az (go h) ⟨A.ok,O.pre.trans A.pre,O.bU.trans A.bU,A.aM,A.sD,A.pi,A.wZ,A.top⟩ ab
def Hy{a:af}:(ct a).shaped=a.shaped:=by
 delta ct;cases a.bc&&a.d6 with
 |true=>cases a<;>rfl
 |false=>rfl
def zq{a:af}(h:a.shaped):a.val=false:=by
 cases a with
 |obj=>rfl
 |ref=>rfl
 |_=>exact Bool.noConfusion h
def mA.hl(c4:mA i d n Z)(k:Nat):mA i (d+k) n Z:=⟨λm h j=>(iZ d k j).symm▸c4.io m h (k+j),λh j=>(iZ d k j).symm▸c4.T h (k+j)⟩
def abE(W:cc Z ex (z+9) w)(bl:w.r.aM≠3)(aH:w.r.dn.length<24)(aU:w.T[s]? =some a)(aj:w.T[t]? =some b)(hK:a.val)(fg:b.shaped)(nb:t≠11)(st:s≠t)(hn:rd w.T s=false)(mz:¬jP w.r.aM a b):∃c az,a0 a2 (d+16) 53 [.L w.Q.q,J s,J t] w.C=some (.bool c,az.C)/\lX Z ex z w [a] [b] c az:=Hh (d:=d+4) (k:=true) W aH aU aj (λax x W1 K=>abA (d:=d) W1 bl aU aj hK fg nb hn mz λc bn h a9=>K c bn (λm=>absurd m bl) (λB=>h) a9) λc az h a9=>⟨c,az,O6 W bl aU aj (Pe hK) fg st h,a9⟩
def Pz(c4:mA i d n Z)(ah:decide (w.r.aM=3)=i)(W:cc Z ex (z+e) w)(he:s=0->1<=e)(X:kg n 2 w.r)(aU:w.T[s]? =some a)(aj:w.T[t]? =some b)(dh:a.kind≠6)(da:b.kind≠6)(cs:gJ n (aE w.T s))(eI:gJ n (aE w.T t))(hex:ex=[]\/((∀k∈ex,∃ps,w.T[k.2]? =some (.dM ps))/\¬(a.shaped=true/\b.shaped)))(n6:∀c bG,a0 a2 (d+18) 40 [.L w.Q.q,J s,J t] w.C=some (.bool c,bG.C)->iS Z ex z w (aE w.T s) (aE w.T t) c bG->bG.r.tr=w.r.tr->(w.r.aM≠3->lY w.r.aM (aE w.T s) (aE w.T t) c)->R)(aq:∀u v ax cA ee,tj (d+16) Z ex z w (aE w.T s) (aE w.T t) s t u v ax cA ee (λB=>True)->(∃x,aE w.T s=[x])->R):R:=
 Hq (d:=d+13) W he aU aj cs.1 eI.1 n6 λu v ax cA O bD aS gB c3 jv jr zr go=>by
  have G:=O.ok.cX;have dh:(ct a).kind≠6:=ww.symm▸dh;have da:(ct b).kind≠6:=ww.symm▸da;have jc:gJ n (aE cA u):=gB.symm▸cs;have iU:gJ n (aE cA v):=c3.symm▸eI;have PA:iC cA (u,v):=⟨ai Option.isSome bD,ai Option.isSome aS⟩;have new:(u,v)∉ex:=hex.elim (λe=>e▸b5) λh q=>(h.1 _ q).elim λps ab=>da<|ai af.kind<|bp<|br aS<|O.pre.get ab;have aH:w.r.dn.length<24:=a3 (kX<|a3 (cT _ n)<|jZ _) X.g9;have j4:(ct a).shaped=true->(ct b).shaped=true->(w.r.aM≠3->¬jP w.r.aM (ct a) (ct b))->R:=λg3 fg mz=>by
   obtain rfl:=hex.resolve_right λh=>h.2 ⟨Hy▸g3,Hy▸fg⟩;have Hz:=ha.d4 G bD jo dh (zq g3) jc.1;have h1:=ha.d4 G aS jo da (zq fg) iU.1;have aD:aE w.T s=[ct a]:=br gB Hz.2.2;have aF:aE w.T t=[ct b]:=br c3 h1.2.2;refine aq u v ax cA [] ⟨O,PA,gB,c3,new,λB h=>h,λB=>fO,(Decidable.em<|w.r.aM=3).imp_right λm=>.inr ?_,go,λcB eL hX an=> ?_⟩ ⟨_,aD⟩
   ·rw[aD,aF];exact Hw (mz m) (λn=>absurd (.inl ⟨g3,fg⟩) n) λB B=>rfl
   ·rw[aD,aF];refine gJ.lim G bD aS Hz.2.2 h1.2.2 (zq g3) (zq fg) jc iU an X.mx λm e mx=> ?_;subst e;exact abC (d:=d) (w:={w with C:=cB,T:=cA,r:=w.r.push (u,v)}) (ah.symm▸c4.io m rfl 8) (λm=>c4.T (ah▸cp m) 5) hX (λq=>List.cons_ne_nil _ _ (u7.mp q).2) mx (a3 (cM (ai (·+4)<|rR w.r.dl 1<|3*m)) X.dl) (a3 (cM (ai (·+2)<|rR w.r.dn.length 1 m)) X.g9) bD aS g3 fg Hz.2.1 h1.2.1 jv mz λc bI h a9=>⟨c,bI,h,a9,trivial⟩
  by_cases bl:w.r.aM=3
  ·exact j4 (zm _ dh (jr bl).1) (zm _ da (jr bl).2) λm=>absurd bl m
  ·have K:=zr bl;have my:=(K.my.resolve_left dh).resolve_left da;cases hK:(ct a).val with
   |false=>exact j4 (zm _ dh hK) my.1 λB=>my.2.1
   |true=>have aD:aE w.T s=[ct a]:=br gB<|kL G bD dh K.e2 jo;have h1:=ha.d4 G aS jo da (zq my.1) iU.1;have aF:aE w.T t=[ct b]:=br c3 h1.2.2;refine aq u v ax cA ((u,v)::ex) ⟨O,PA,gB,c3,new,λk h=>bQ _ h,λk h=>(cS h).symm,.inr<|.inl bo,go,λcB eL hX an=> ?_⟩ ⟨_,aD⟩;rw[aD,aF,bH bl];have Cx:=jc.1.cW G;exact(abE (d:=d) hX bl aH bD aS hK my.1 h1.2.1 jv (cp λq=>(cS q).elim K.e8 λq=>(cS q).elim K.fy λq=>(cS q).elim K.e2 λq=>(cS q).elim Cx.1 λq=>(cS q).elim my.2.2.1 λq=>(cS q).elim my.2.2.2.1 λq=>(cS q).elim my.2.2.2.2 λq=>Cx.2.1<|bR q) my.2.1).imp λc h=>h.imp λbI h=>⟨h.1,h.2,trivial⟩
end
end
section
noncomputable def abF(i:Nat):dB:=H9.body.getD i .fA
def abG{F:List (I×I)}(aG:aB.Nodup)(h:∀k∈aB,cE kM (ce k)=none):aB.length<=(aB.filter λk=>decide<|cE (kM++F) (ce k)=none).length+F.length:=by
 rw[List.length_eq_countP_add_countP (λk=>decide<|cE (kM++F) (ce k)=none) (l:=aB),w1,w1];have e:=o4 (m:=F.map Prod.fst) (sT (aG.sublist List.filter_sublist) λB B B B=>uZ) λx ac=>(e4 ac).elim λk an=>by
  have q:=pL an.1;cases hf:cE F (ce k)with
  |none=>exact absurd (ck<|OU (h k q.1) hf)<|dx q.2
  |some v=>exact an.2▸i1 ⟨_,OX hf,rfl⟩
 rw[c2,c2]at e;exact hA e _
section
variable{fD:St}{Q:fo}{r:eK}{c dV d1:Nat}{cF N:List I}{bn:gA}
def abH(an:jt r.bz)(ag:c∉[Q.q+2,Q.dY])(dO:List (Nat×Nat)):∀{C:St} {tr:List (Nat×Nat)} {H:bT},bE A C Q {r with tr:=tr} tr v->dO.Nodup->(∀k∈dO,k∉tr)->C[c]? =some (.list cF)->tr.length+dO.length<16000000->H 0=some (.L Q.q)->
  (∀aT S,fX (λs=>hc s (some c) cF) (λx H s=>(gC (.aR 2) x H).bind λci=>cG (bk d) (jN<|abF 1) ci s) (dO.map ce) H C=some (.next,aT,S)->bE A S Q {r with tr:=tr++dO.filter λk=>decide<|cE r.bz (ce k)=none} (tr++dO.filter λk=>decide<|cE r.bz (ce k)=none) v->bw C S [Q.q+2,Q.dY]->R)->R:=by
 induction dO with
 |nil=>exactλ{C tr H} X B B ao B B aq=>aq _ _ (v9<|iw ao) (by rw[List.filter_nil,ew];exact X)<|.refl _ _
 |cons k dO ay=>
  intro C tr H X aG hn ao aj h0 aq;have aG:=hH aG;have Cj:=hn k bo;have yl:=o0<|we X.wS<|wT (k:=k);rw[GY Cj]at yl;have w7:=o0<|we X.zc<|jt.ok (k:=k) an;cases bA:cE r.bz (ce k)with
  |some x=>have w7:eh C .jd (ce k) (.L<|Q.q+3)=some false:=w7.trans<|ai (λo:Option I=>some<|!o.isSome) bA;refine ay (H:=ar H 2<|ce k) X aG.2 (λx ac=>hn x<|bQ _ ac) ao (c1 (hA (jZ _) _) aj) h0 λaT S g1 bd cQ=>aq aT S (eT (iw ao) (eJ λk=>k _ rfl _ h0 _ X.rz _ yl _ rfl _ h0 _ X.rA _ w7) g1) ?_ cQ;rw[vv (p:=λk=>decide<|cE r.bz (ce k)=none) λq=>bf<|(dx q).symm.trans bA];exact bd
  |none=>have w7:eh C .jd (ce k) (.L<|Q.q+3)=some true:=w7.trans<|ai (λo:Option I=>some<|!o.isSome) bA;have qF:tr.length<16000000:=c1 (cT _ _) aj;refine oV (k:=ce k) (v:=J 1) X.wS (X.pos 1 rfl) wT (V (c2 _) qF) λax Y fy=> ?_;have dC:bE A ax Q {r with tr:=tr} (tr++[k]) v:=X.Ci<|eF (Oz Cj) fy;refine uo (v:=ce k) dC.dY (X.pos 3 rfl) (V (c2 _) qF) λbq ae e2=> ?_;have fm:bE A bq Q {r with tr:=tr++[k]} (tr++[k]) v:=dC.GV<|eF (iI (f:=ce) (l₁:=tr) (l₂:=[k])).symm e2;have f2:=(fy.bU.cj (ns:=[Q.q+2,Q.dY]) λB q=>bR q▸bo).trans<|e2.bU.cj λB q=>bQ _ q;refine ay (H:=ar H 2<|ce k) fm aG.2 (λx ac q=>(gb q).elim (hn x<|bQ _ ac) λq=>aG.1<|bR q▸ac) (f2.get ao ag) (by rw[eo,iZ,m8 [k].length];exact aj) h0 λaT S g1 bd cQ=>aq aT S (eT (iw ao) (eJ λk=>k _ rfl _ h0 _ X.rz _ yl _ rfl _ h0 _ X.rA _ w7 _ h0 _ X.rz _ rfl _ Y _ h0 _ dC.s7 _ (lH dC.dY) _ rfl _ _<|lI dC.dY ae) g1) ?_<|f2.trans cQ;rw[xB (p:=λk=>decide<|cE r.bz (ce k)=none) (ck bA),List.append_cons];exact bd
def abI(X:bE A C Q r r.tr v)(an:jt r.bz)(Y:C[dV]? =some (.list N))(ae:C[d1]? =some (.list<|aB.map ce))(du:dV∉Q.iz)(n2:d1∉Q.iz)(aG:aB.Nodup)(eb:∀k∈aB,k∉r.tr)(ao:r.tr.length+aB.length<16000000)(hn:r.ns.length+N.length<16000000)(aq:∀S,a0 a2 (d+1) 57 [.L Q.q,.ak [.L dV,.L d1]] C=some (.none,S)->bE A S Q {r with tr:=r.tr++aB.filter λk=>decide<|cE r.bz (ce k)=none,ns:=r.ns++N} (r.tr++aB.filter λk=>decide<|cE r.bz (ce k)=none) v->bw C S [Q.q+7,Q.q+2,Q.dY]->R):R:=by have PB:Q.q+7∈Q.iz:=dK (i:=5) rfl;have x:=Mf X.mv (X.pos 6 rfl) Y (λq=>du<|q▸PB) hn;have u:hL C (Q.q+7) (.list<|r.ns++N) (C.set (Q.q+7)<|.list<|r.ns++N):=rfl;have bd:=u.get ae λq=>n2<|q▸PB;refine abH (d:=d) (r:={r with ns:=r.ns++N}) an (λq:d1∈[Q.q+2,Q.dY]=>(cS q).elim (λe=>n2<|e▸dK (i:=1) rfl) λq=>n2<|bR q▸dK (i:=3) rfl) aB (H:=cm [.L Q.q,.ak [.L dV,.L d1]]) (X.GW u) aG eb bd ao rfl λaT S c ii f=>aq S (p1 λk=>k _ rfl _ X.qh _ X.qi _ (lH X.mv) _ rfl _ (b0 (i:=0) rfl) _ _ (lI X.mv x) _ _ _<|wg (jj λk=>k _<|b0 (i:=1) rfl) (lN bd) c) ii<|(u.bU.cj λB q=>bR q▸bo).trans<|f.cj λB q=>bQ _ q
def cC.nB(W:cc Z ex z w)(O:cC Z ex z w bn)(f:bw bn.C fD [w.Q.q+2,w.Q.dY,w.Q.q+7])(f6:bE Z.A fD w.Q {bn.r with tr:=w.r.tr,ns:=w.r.ns} w.r.tr (kK bn.eV)):cC Z ex z w {bn with C:=fD,r:={bn.r with tr:=w.r.tr,ns:=w.r.ns}}:=by have m:bn.r.aM=w.r.aM:=V O.same rfl;have q:bn.Q=w.Q:=O.q;have kf:=O.ok.k;refine O.ext.elim λaB e=>O.rD.elim λF wX=> ?_;have t:=O.ok.de (eL:=z) (r':={bn.r with tr:=w.r.tr,ns:=w.r.ns}) f (λa h=>q▸(cS h).elim (λe=>e▸dK (i:=1) rfl) λh=>(cS h).elim (λe=>e▸dK (i:=3) rfl) λh=>bR h▸dK (i:=5) rfl) ⟨q▸f6,kf.aM,W.k.aG,λk an=>(W.k.kJ k an).pre O.pre,λk an=>V m<|V (gn W.dz O.pre (W.k.kJ k an).1)<|V (gn W.dz O.pre (W.k.kJ k an).2)<|W.k.mw k an,kf.knd,kf.bz,λk an=>kf.tc k<|e.1▸jg _ an,kf.dn,kf.td,a3 W.k.jQ<|fl (m3 9<|hA (wX▸V eo (cT _ _)) _) _⟩;exact⟨t.1,O.pre,O.bU.trans t.2,q,V O.same rfl,⟨[],(ew _).symm,λB B=>fO⟩,O.rD,⟨[],(ew _).symm,λB=>rfl⟩,O.pi⟩
end
end
section
structure w8(Z:hF)(ex:List (Nat×Nat))(z:Nat)(w:gA)(dV d1:Nat)(N:List I)(aB:List (Nat×Nat))(kM F:List (I×I)):Prop where
 a6:w.C[dV]? =some (.list N)
 bS:w.C[d1]? =some (.list<|aB.map ce)
 gT:dV∉hZ Z w
 gD:d1∉hZ Z w
 aG:aB.Nodup
 mem:∀k∈aB,k∉w.r.tr/\iC w.T k/\(k∈ex\/hY Z.P w.r.aM (aE w.T k.1) (aE w.T k.2) true)/\cE kM (ce k)=none
 bz:w.r.bz=kM++F
 jQ:w.r.ns.length+N.length+z<=9*(w.r.tr.length+(aB.length+kM.length))+4000000
def abJ(Z:hF)(ex:List (Nat×Nat))(z:Nat)(w:gA)(lax:I):Prop:=∃dV d1 N aB kM F,lax=.ak [.L dV,.L d1]/\w8 Z ex z w dV d1 N aB kM F
def CH(Z:hF)(m:Nat)(aI gG:List af):Prop:=(m=3->¬cK Z.P aI gG)/\(m≠3->hY Z.P m aI gG false)
def PC(Z:hF)(w:gA)(aI gG:List af):Prop:=(w.r.aM=3->lV Z w.T w.r.tr aI gG)/\(w.r.aM≠3->hY Z.P w.r.aM aI gG true)
def zt(Z:hF)(ex:List (Nat×Nat))(z:Nat)(aI:List af)(eM:Nat->List af)(pre:List Nat)(lax:I)(w:gA):Prop:=(lax=.none/\∀p∈pre,CH Z w.r.aM aI<|eM p)\/(abJ Z ex z w lax/\w.r.aM≠3/\(∀p∈pre,¬(w.r.aM≠2/\iR Z.P aI (eM p)))/\∃p∈pre,hY Z.P w.r.aM aI (eM p) true)
structure abK(Z:hF)(w:gA)(aI:List af)(eM:Nat->List af)(ps:List Nat)(b:Bool)(az:gA):Prop where
 cW:b=false->∀p∈ps,CH Z w.r.aM aI<|eM p
 iy:b->∃p∈ps,PC Z az aI<|eM p
 kI:w.r.aM≠3->w.r.aM≠2->(∃p∈ps,iR Z.P aI<|eM p)->b/\az.r.ns=w.r.ns
noncomputable def HA(i:Nat):dB:=H8.body.getD i .fA
section
variable{dV d1:Nat}{N:List I}{F:List (I×I)}{all:List Nat}
def cc.abL(W:cc Z ex z w):∀a∈hZ Z w,a<w.C.length:=λa h=>(cS h).elim (λe=>e▸fc W.au.lF) λh=>(cS h).elim (λe=>e▸fc W.au.av) λh=>(gb h).elim (λh=>W.k.bx.lt<|u5 a h) λh=>by
 cases e:w.eV with
 |none=>exact fO (ai zf e▸h:a∈zf none)
 |some p=>exact(W.eV p e).1.bx.lt<|u5 a (ai zf e▸h:a∈zf (some p))
def w8.go(W:cc Z ex z w)(h:w8 Z ex z w dV d1 N aB kM F)(O:cC Z ex z w az)(aD:az.r.tr=w.r.tr)(aF:az.r.ns=w.r.ns):∃lz,w8 Z ex z az dV d1 N aB kM lz:=O.rD.elim λlz f=>
 have m:az.r.aM=w.r.aM:=V O.same rfl;have cW:∀{l:Nat} {o:b3},w.C[l]? =some o->l∉hZ Z w->l∉hZ Z az:=λh n q=>(O.bU.own _ q).elim n<|Nat.not_le.mpr<|fc h
 ⟨F++lz,O.bU.get h.a6 h.gT,O.bU.get h.bS h.gD,cW h.a6 h.gT,cW h.bS h.gD,h.aG,λk an=>have q:=h.mem k an;⟨aD.symm▸q.1,q.2.1.pre O.pre,V m<|V (gn W.dz O.pre q.2.1.1)<|V (gn W.dz O.pre q.2.1.2) q.2.2.1,q.2.2.2⟩,f.trans ((ai (·++lz) h.bz).trans<|iG _ _ _),V aD<|V aF h.jQ⟩
def abM(aX:∀p∈all,∀bG,cC Z ex z fW bG->∃b bn,a0 a2 (d+1) 40 [.L bG.Q.q,J s,J p] bG.C=some (.bool b,bn.C)/\iS Z ex z bG aI (eM p) b bn)(ps:List Nat):∀{pre:List Nat} {w:gA} {H:bT} {lax:I},pre++ps=all->cC Z ex z fW w->w.r.tr=fW.r.tr->w.r.ns=fW.r.ns->zt Z ex z aI eM pre lax w->H 0=some (.L w.Q.q)->H 1=some (J s)->H 3=some lax->
  (∀c aT az,fX (λB=>true) (λx H s=>cG (bk<|d+2) (jN<|HA 1) (ar H 4 x) s) (ps.map J) H w.C=some (c,aT,az.C)->cC Z ex z fW az->az.r.ns=fW.r.ns->aT 0=some (.L az.Q.q)->(c=.ret (.bool true)/\∃p∈all,PC Z az aI<|eM p)\/(c=.next/\∃PD,az.r.tr=fW.r.tr/\aT 3=some PD/\zt Z ex z aI eM all PD az)->R)->R:=by
 induction ps with
 |nil=>exactλe O aD aF a h0 B ba aq=>aq .next _ _ rfl O aF h0 (.inr ⟨rfl,_,aD,ba,(ew _).symm.trans e▸a⟩)
 |cons p ps ay=>
  intro pre w H lax e O aD aF a h0 Y ba aq;have W:=O.ok;have PE:p∈all:=e▸i0 _ bo;have e':(pre++[p])++ps=all:=(iG _ _ _).trans e;refine(aX p PE w O).elim λb h=>h.elim λbn h=> ?_;have A:=h.2;have q:bn.Q=w.Q:=A.out.q;have m:bn.r.aM=w.r.aM:=V A.out.same rfl;have vd:H 0=some (.L bn.Q.q):=h0.trans<|ai (λQ=>some<|I.L<|fo.q Q) q.symm;have ask:a0 a2 (d+2) 30 [.L w.Q.q,J s,J p] w.C=some (.bool b,bn.C):=go λk=>k _ _ h.1;have mk:=OE (d:=d+1) W.k.bx;have d7:=O.trans A.out;have next:∀{fx:gA} {ke:bT} {PF:I},cG (bk<|d+2) (jN<|HA 1) (ar H 4<|J p) w.C=some (.next,ke,fx.C)->cC Z ex z w fx->fx.r.tr=w.r.tr->fx.r.ns=w.r.ns->ke 0=some (.L fx.Q.q)->ke 1=some (J s)->ke 3=some PF->zt Z ex z aI eM (pre++[p]) PF fx->R:=λst n8 tl fC fV g1 cQ uk=>ay e' (O.trans n8) (tl.trans aD) (fC.trans aF) uk fV g1 cQ λc aT az f dJ fi og qu=>aq c aT az (eT rfl st f) dJ fi og qu
  have te:∀{fx:gA},cC Z ex z w fx->fx.r.tr=w.r.tr->fx.r.ns=w.r.ns->(CH Z w.r.aM aI (eM p)\/(w.r.aM≠3/\¬(w.r.aM≠2/\iR Z.P aI (eM p))/\lax≠.none))->zt Z ex z aI eM (pre++[p]) lax fx:=λ{fx} n8 tl fC ab=>by
   have bl:fx.r.aM=w.r.aM:=V n8.same rfl;delta zt;rw[bl];have l7:w.r.aM≠3->¬(w.r.aM≠2/\iR Z.P aI (eM p)):=λn f=>ab.elim (λq=>Bool.noConfusion<|(q.2 n).kI f.1 f.2) λq=>q.2.1 f;exact a.elim (λa=>.inl ⟨a.1,λx ac=>(gb ac).elim (a.2 x) λac=>bR ac▸ab.resolve_right λq=>q.2.2 a.1⟩) λa=>.inr ⟨a.1.elim λdV h=>h.elim λd1 h=>h.elim λN h=>h.elim λaB h=>h.elim λkM h=>h.elim λF h=>(h.2.go W n8 tl fC).elim λlz g=>⟨dV,d1,N,aB,kM,lz,h.1,g⟩,a.2.1,λx ac=>(gb ac).elim (a.2.2.1 x) λac=>bR ac▸l7 a.2.1,a.2.2.2.imp λx ac=>⟨jg _ ac.1,ac.2⟩⟩
  cases b with
  |false=>exact next (ke:=ar (ar H 4<|J p) 5<|.ak [J w.r.ns.length,J w.r.tr.length]) (eJ λk=>k _ h0 _ W.k.bx.zd _ _ mk _ h0 _ W.k.bx.ph _ Y _ rfl _ _ ask) A.out (A.zg rfl).1 (A.zg rfl).2 vd Y ba (te A.out (A.zg rfl).1 (A.zg rfl).2<|.inl ⟨λm=>A.neg m rfl,A.iT⟩)
  |true=>
   have fm:bE Z.A bn.C w.Q bn.r bn.r.tr (kK bn.eV):=q▸A.out.ok.k.bx;refine A.out.ext.elim λaB zu=>A.out.u4.elim λN zv=> ?_;have CI:bn.r.ns.length=w.r.ns.length+N.length:=(ai List.length zv.1).trans eo;have PG:bn.r.tr.length=w.r.tr.length+aB.length:=(ai List.length zu.1).trans eo;by_cases fE:N.length=0
   ·have fC:bn.r.ns.length=w.r.ns.length:=CI.trans (ai (w.r.ns.length+·) fE);have nn:bn.r.ns=w.r.ns:=zv.1.trans<|yL.mp fE▸ew _;exact aq _ _ bn (mQ rfl<|eJ λk=>k _ h0 _ W.k.bx.zd _ _ mk _ h0 _ W.k.bx.ph _ Y _ rfl _ _ ask _ h0 _ fm.qh _ fm.qi _ _ (oU fm.mv) _ rfl _ (b0 (i:=0) rfl) _<|cY fC) d7 (nn.trans aF) vd<|.inl ⟨rfl,p,PE,λbl=>A.pos (br m bl) rfl,λbl=>m.symm▸A.iT λq=>bl<|m.trans q⟩
   ·have bl:w.r.aM≠3:=λq=>fE<|ai List.length<|zv.2 q;have fC:¬bn.r.ns.length=w.r.ns.length:=λq=>fE<|Nat.add_left_cancel<|br CI<|q.trans (Nat.add_zero _).symm;have l7:¬(w.r.aM≠2/\iR Z.P aI (eM p)):=λf=>fC<|ai List.length<|A.clean f.1 f.2;have tl:bn.r.tr.take w.r.tr.length=w.r.tr:=zu.1▸List.take_left;have aw:bn.r.ns.take w.r.ns.length=w.r.ns:=zv.1▸List.take_left;have kF:w.r.ns.length<=bn.r.ns.length:=CI▸cT _ _;have fF:w.r.tr.length<=bn.r.tr.length:=PG▸cT _ _;have kf:=A.out.ok.k;have aj:bn.r.tr.length<16000000:=c1 (kf.tf A.out.ok.lW) (by decide);have nB:∀{g:St} {P:Prop},(∀fD,a0 a2 (d+2) 34 [.L w.Q.q,.ak [J w.r.ns.length,J w.r.tr.length]] (bn.C++g)=some (.none,fD)->cC Z ex z w {bn with C:=fD,r:={bn.r with tr:=w.r.tr,ns:=w.r.ns}}->bw (bn.C++g) fD [w.Q.q+2,w.Q.dY,w.Q.q+7]->P)->P:=λ{g P} k=>OG (d:=d) (fm.push g) kf.aG kF fF aj λfD eQ f6 f4=>k fD (go λr=>r _ _ eQ) (A.out.nB W ((bw.push bn.C g _).trans f4) (by rw[tl,aw]at f6;exact f6)) f4;by_cases ac:lax=.none
    ·subst ac;have be:nh (.L<|w.Q.q+7) (some<|J w.r.ns.length) none bn.C=some (.L bn.C.length,bn.C++[.list N]):=(F5 fm.mv (W.k.G6 W.lW) kF).trans (by rw[zv.1,List.drop_left]);have nc:=fm.push [.list N];have bF:nh (.L w.Q.dY) (some<|J w.r.tr.length) none (bn.C++[.list N])=some (.L (bn.C++[b3.list N]).length,bn.C++[.list N]++[.list<|aB.map ce]):=(F5 nc.dY (c1 (W.k.tf W.lW)<|by decide)<|V (c2 _) fF).trans (by rw[<-List.map_drop,zu.1,List.drop_left]);have f6:=nc.push [.list<|aB.map ce];refine nB (g:=[.list N]++[.list<|aB.map ce]) λfD eQ pl f4=> ?_;rw[<-iG]at eQ f4;have ol:=A.out.ok.abL;have ln:(bn.C++[b3.list N]).length=bn.C.length+1:=eo;have d6:∀l,bn.C.length<=l->l∉hZ Z {bn with C:=fD,r:={bn.r with tr:=w.r.tr,ns:=w.r.ns}}:=λl ao h=>lu ao<|ol l h;have PH:∀l,bn.C.length<=l->l∉[w.Q.q+2,w.Q.dY,w.Q.q+7]:=λl ao h=>lu ao<|fm.lt<|(cS h).elim (λe=>e▸dK (i:=1) rfl) λh=>(cS h).elim (λe=>e▸dK (i:=3) rfl) λh=>bR h▸dK (i:=6) rfl;have aG:=kU.mp (zu.1▸kf.aG:(w.r.tr++aB).Nodup);have ve:∀k∈aB,k∈bn.r.tr:=λk an=>zu.1▸i0 _ an;refine next (fx:={bn with C:=fD,r:={bn.r with tr:=w.r.tr,ns:=w.r.ns}}) (ke:=ar (ar (ar H 4<|J p) 5<|.ak [J w.r.ns.length,J w.r.tr.length]) 3<|.ak [.L bn.C.length,.L (bn.C++[b3.list N]).length]) (eJ λk=>k _ h0 _ W.k.bx.zd _ _ mk _ h0 _ W.k.bx.ph _ Y _ rfl _ _ ask _ h0 _ fm.qh _ fm.qi _ _ (oU fm.mv) _ rfl _ (b0 (i:=0) rfl) _ (bN fC) _ ba _ rfl _ h0 _ fm.qh _ fm.qi _ rfl _ (b0 (i:=0) rfl) _ _ be _ h0 _ nc.s7 _ rfl _ (b0 (i:=1) rfl) _ _ bF _ h0 _ f6.Ov _ rfl _ _ eQ) pl rfl rfl vd Y rfl ?_
     refine .inr ⟨⟨_,_,N,aB,bn.r.bz,[],rfl,f4.get ((bw.push (bn.C++[b3.list N]) _ []).get d8 b5)<|PH _<|gF _,f4.get d8<|PH _<|ln▸jZ _,d6 _<|gF _,d6 _<|ln▸jZ _,aG.2.1,λk an=>⟨λq=>aG.2.2 k q k an rfl,kf.kJ k<|ve k an,(kf.mw k<|ve k an).resolve_left λq=>bl<|br m q,kf.tc k<|ve k an⟩,(ew _).symm,?_⟩,λq=>bl<|br m q,?_⟩
     ·have:=kf.jQ;rw[CI,PG,iZ w.r.tr.length]at this;exact this
     ·show(∀x∈pre++[p],¬(bn.r.aM≠2/\iR Z.P aI (eM x)))/\∃x∈pre++[p],hY Z.P bn.r.aM aI (eM x) true;rw[m];have cW:=a.resolve_right λa=>a.1.elim λB h=>h.elim λB h=>h.elim λB h=>h.elim λB h=>h.elim λB h=>h.elim λB h=>nomatch h.1;exact⟨λx ac=>(gb ac).elim (λac f=>Bool.noConfusion<|((cW.2 x ac).2 bl).kI f.1 f.2) λac=>bR ac▸l7,p,i0 _ bo,A.iT bl⟩
    ·have vL:eh bn.C .is lax .none=some false:=ai some<|cp ac;refine nB (g:=[]) λfD eQ pl f4=> ?_;rw[ew]at eQ;exact next (fx:={bn with C:=fD,r:={bn.r with tr:=w.r.tr,ns:=w.r.ns}}) (ke:=ar (ar H 4<|J p) 5<|.ak [J w.r.ns.length,J w.r.tr.length]) (eJ λk=>k _ h0 _ W.k.bx.zd _ _ mk _ h0 _ W.k.bx.ph _ Y _ rfl _ _ ask _ h0 _ fm.qh _ fm.qi _ _ (oU fm.mv) _ rfl _ (b0 (i:=0) rfl) _ (bN fC) _ ba _ vL _ h0 _ fm.Ov _ rfl _ _ eQ) pl rfl rfl vd Y ba (te pl rfl rfl<|.inr ⟨bl,l7,ac⟩)
end
end
section
section
variable{dV d1:Nat}{ac9:Nat->List af}{N:List I}{F:List (I×I)}{all ps:List Nat}{a b:af}
def w8.abN(W:cc Z ex z w)(bl:w.r.aM≠3)(h:w8 Z ex z w dV d1 N aB kM F)(aq:∀az,a0 a2 (d+1) 57 [.L w.Q.q,.ak [.L dV,.L d1]] w.C=some (.none,az.C)->cC Z ex z w az->R):R:=by
 have K:=W.k;have eb:aB.length<=160000:=c2 (as:=aB) ce▸G5 (sT h.aG λB B B B=>uZ) (λx ac=>(e4 ac).imp λk an=>⟨an.2.symm,(h.mem k an.1).2.1⟩) W.lW;have x5:w.r.bz.length=kM.length+F.length:=(ai List.length h.bz).trans eo;have fE:w.r.ns.length+N.length<16000000:=c1 (a3 (cT _ z)<|a3 h.jQ<|fl (m3 9<|lg (K.tf W.lW)<|lg eb<|a3 (a3 (cT _ _)<|cM x5.symm)<|K.Cq W.lW) _) (by decide);refine abI (d:=d) K.bx K.wW h.a6 h.bS (λq=>h.gT<|rE _ q) (λq=>h.gD<|rE _ q) h.aG (λk an=>(h.mem k an).1) (c1 (lg (K.tf W.lW) eb)<|by decide) fE λS c X f=> ?_;have ve:∀k∈w.r.tr++aB.filter (λk=>decide<|cE w.r.bz (ce k)=none),k∈w.r.tr\/(k∈aB/\cE w.r.bz (ce k)=none):=λk an=>(gb an).imp_right λan=>(pL an).imp_right dx;have t:=W.de (eL:=z) (r':={w.r with tr:=w.r.tr++aB.filter λk=>decide<|cE w.r.bz (ce k)=none,ns:=w.r.ns++N}) f (λa h=>(cS h).elim (λe=>e▸dK (i:=5) rfl) λh=>(cS h).elim (λe=>e▸dK (i:=1) rfl) λh=>bR h▸dK (i:=3) rfl)
  ⟨X,K.aM,kU.mpr ⟨K.aG,h.aG.sublist List.filter_sublist,λx ac y a8 e=>(h.mem y (pL a8).1).1<|e▸ac⟩,λk an=>(ve k an).elim (K.kJ k) λq=>(h.mem k q.1).2.1,λk an=>(ve k an).elim (K.mw k) λq=>.inr (h.mem k q.1).2.2.1,K.knd,K.bz,λk an=>(ve k an).elim (K.tc k) And.right,K.dn,K.td,?_⟩
 ·exact aq _ c ⟨t.1,.refl _,t.2,rfl,rfl,⟨_,rfl,λm=>absurd m bl⟩,⟨[],(ew _).symm⟩,⟨N,rfl,λm=>absurd m bl⟩,λB=>rfl⟩
 ·have n:=abG (F:=F) h.aG λk an=>(h.mem k an).2.2.2;rw[<-h.bz]at n;show(w.r.ns++N).length+z<=9*((w.r.tr++aB.filter λk=>decide<|cE w.r.bz (ce k)=none).length+w.r.bz.length)+4000000;rw[eo,eo,x5];refine a3 h.jQ<|fl (m3 9 ?_) _;rw[iZ,m8 kM.length,<-iZ (List.length _) F.length];exact hA (fl n _) _
def PI(W:cc Z ex z fW)(aX:∀p∈all,∀bG,cC Z ex z fW bG->∃b bn,a0 a2 (d+1) 40 [.L bG.Q.q,J s,J p] bG.C=some (.bool b,bn.C)/\iS Z ex z bG aI (eM p) b bn)(aq:∀b az,a0 a2 (d+3) 56 [.L fW.Q.q,J s,.ak<|all.map J] fW.C=some (.bool b,az.C)->cC Z ex z fW az->abK Z fW aI eM all b az->R):R:=by
 refine abM (d:=d) aX all (pre:=[]) (H:=ar (cm [.L fW.Q.q,J s,.ak<|all.map J]) 3 .none) rfl (.refl W) rfl rfl (.inl ⟨rfl,λB=>fO⟩) rfl rfl rfl λc aT az f O fC h0 h=> ?_;have g0:cw (bk<|d+2) (HA 1) (ar (cm [.L fW.Q.q,J s,.ak<|all.map J]) 3 .none) fW.C=some (c,aT,az.C):=lL (fJ rfl) f;have m:az.r.aM=fW.r.aM:=V O.same rfl;refine h.elim (λq=> ?_) λq=> ?_
 ·obtain⟨rfl,q⟩:=q;exact aq true az (gi [false,true] λk=>k _ _ _ g0) O ⟨nofun,λB=>q,λB B B=>⟨rfl,fC⟩⟩
 ·obtain⟨rfl,lax,tl,ba,a⟩:=q;refine a.elim (λg=> ?_) λg=> ?_
  ·obtain⟨rfl,g⟩:=g;exact aq false az (q7 [false,true] λk=>k _ _ _ g0 _ ba _ rfl) O ⟨λB=>m▸g,nofun,λn2 jr q=>q.elim λp ab=>Bool.noConfusion<|((m▸g p ab.1:CH Z fW.r.aM aI (eM p)).2 n2).kI jr ab.2⟩
  ·obtain⟨⟨dV,d1,N,aB,kM,F,rfl,h⟩,bl,g⟩:=g;exact h.abN (d:=d+1) O.ok bl λbn bS d7=>have cU:bn.r.aM=az.r.aM:=V d7.same rfl
    aq true bn (q7 [false,true] λk=>k _ _ _ g0 _ ba false rfl _ h0 _ ba _ _ bS) (O.trans d7) ⟨nofun,λB=>g.2.imp λp ab=>⟨ab.1,λm=>absurd (br cU m) bl,λB=>cU.symm▸ab.2⟩,λB jr q=>q.elim λp ab=>absurd ⟨λq=>jr<|br m q,ab.2⟩<|g.1 p ab.1⟩
end
end
section
def HB(n:Nat)(T:List af)(p:Nat):Prop:=∃a,T[p]? =some a/\a.kind≠6/\gJ n (aE T p)/\p≠0
section
variable{T:List af}{n p:Nat}{ps:List Nat}{x:af}{c:List af}
def gJ.sub(h:gJ n c)(k:∀x∈bK,x∈c):gJ n bK:=⟨λx ac=>h.1 x<|k x ac,λhn x ac=>h.2 hn x<|k x ac⟩
def pq(G:bO T)(h:T[s]? =some (.dM ps))(ab:p∈ps):∃q,T[p]? =some q/\q.kind≠6/\p≠0/\p≠1/\aE T p=[ct q]/\ct q∈aE T s:=have u:=(show m2 T ps from G.row s _ h).o1 p ab
 u.2.2.2.2.2.2.imp λq aC=>⟨aC.1,aC.2,u.1,u.2.1,uG G aC.1 aC.2 u.2.2.1,(Bw G h).symm▸i1 ⟨p,ab,ai lO aC.1⟩⟩
def rG(G:bO T)(h:T[s]? =some (.dM ps))(ac:x∈aE T s):∃p∈ps,aE T p=[x]:=(e4 (Bw G h▸ac:x∈lc T ps)).imp λp ab=>⟨ab.1,(pq G h ab.1).elim λq aC=>aC.2.2.2.2.1.trans<|ai (λx=>[x])<|(ai lO aC.1).symm.trans ab.2⟩
def w9(G:bO T)(h:T[s]? =some (.dM ps))(ag:gJ n (aE T s))(ab:p∈ps):HB n T p:=(pq G h ab).elim λq aC=>⟨q,aC.1,aC.2.1,ag.sub λx ac=>(bR (aC.2.2.2.2.1▸ac):x=ct q)▸aC.2.2.2.2.2,aC.2.2.1⟩
def CJ(G:bO T)(h:T[s]? =some (.dM ps)):(aE T s).length≠1:=λe=>absurd (a3 (show m2 T ps from G.row s _ h).j4<|cM<|(c2 _).symm.trans<|(ai List.length<|Bw G h).symm.trans e) (by decide)
end
section
variable{n p q e:Nat}{ps:List Nat}{a b:af}{i:Bool}
def abO(c4:mA i d n Z)(ah:decide (w.r.aM=3)=i)(W:cc Z ex (z+e) w)(he:s=0->1<=e)(X:kg n 2 w.r)(bu:w.r.tr≠[])(aU:w.T[s]? =some a)(aj:w.T[t]? =some b)(dh:a.kind≠6)(da:b.kind≠6)(cs:gJ n (aE w.T s))(eI:gJ n (aE w.T t))(hex:ex=[]\/((∀k∈ex,∃ps,w.T[k.2]? =some (.dM ps))/\¬(a.shaped=true/\b.shaped))):
  ∃b az,a0 a2 (d+18) 40 [.L w.Q.q,J s,J t] w.C=some (.bool b,az.C)/\iS Z ex z w (aE w.T s) (aE w.T t) b az:=
 Pz c4 ah W he X aU aj dh da cs eI hex (λc bG h A B B=>⟨c,bG,h,A⟩) λu v ax cA ee K B=>K.ask (d:=d+15) bu<|c7 (nw<|pF _) X.dl
def HC(c4:mA i d n Z)(ah:decide (w.r.aM=3)=i)(W:cc Z ex eL w)(X:kg n 2 w.r)(bu:w.r.tr≠[])(ab:HB n w.T p)(aC:HB n w.T q)(hex:ex=[]\/((∀k∈ex,∃ps,w.T[k.2]? =some (.dM ps))/\∀a b,w.T[p]? =some a->w.T[q]? =some b->¬(a.shaped=true/\b.shaped)))(bG:gA)(O:cC Z ex z w bG):
  ∃b bn,a0 a2 (d+18) 40 [.L bG.Q.q,J p,J q] bG.C=some (.bool b,bn.C)/\iS Z ex z bG (aE w.T p) (aE w.T q) b bn:=
 ab.elim λa aU=>aC.elim λb aj=>by
  have aD:=gn W.dz O.pre<|ai Option.isSome aU.1;have aF:=gn W.dz O.pre<|ai Option.isSome aj.1;have k:=abO (e:=0) c4 (V (ai eK.aM O.same) ah) O.ok (λh=>absurd h aU.2.2.2) (O.Px X) (O.ext.elim λaB e q=>bu (u7.mp<|br e.1 q).1) (O.pre.get aU.1) (O.pre.get aj.1) aU.2.1 aj.2.1 (aD▸aU.2.2.1) (aF▸aj.2.2.1)<|hex.imp_right λh=>⟨λk an=>(h.1 k an).imp λB q=>O.pre.get q,h.2 a b aU.1 aj.1⟩;rw[aD,aF]at k;exact k
def abP(bl:fW.r.aM=3)(aX:∀p∈ps,∀q∈c8,∀bG,cC Z ex z fW bG->∃b bn,a0 a2 (d+1) 40 [.L bG.Q.q,J p,J q] bG.C=some (.bool b,bn.C)/\iS Z ex z bG (eM p) (eM q) b bn):∀{w:gA} {H:bT},cC Z ex z fW w->H 0=some (.L w.Q.q)->H 2=some (.ak<|c8.map J)->
  (∀c aT az,fX (λB=>true) (λx H s=>cG (bk<|d+3) (jN<|Ia.body.getD 0 .fA) (ar H 3 x) s) (ps.map J) H w.C=some (c,aT,az.C)->cC Z ex z w az->(c=.next/\∀p∈ps,∃q∈c8,lV Z az.T az.r.tr (eM p)<|eM q)\/(c=.ret (.bool false)/\∃p∈ps,∀q∈c8,¬cK Z.P (eM p) (eM q))->R)->R:=by
 induction ps with
 |nil=>exactλO h0 B aq=>aq .next _ _ rfl (.refl O.ok) (.inl ⟨rfl,λB=>fO⟩)
 |cons p ps ay=>
  intro w H O h0 ae aq;have m:w.r.aM=3:=V (ai eK.aM O.same) bl;refine PI (d:=d) (s:=p) (aI:=eM p) (eM:=eM) (all:=c8) O.ok (λq aC bG cv=>aX p bo q aC bG<|O.trans cv) λb bG a6 cv a9=> ?_;cases b with
  |false=>exact aq _ _ bG (mQ rfl<|eJ λk=>k _ h0 _ rfl _ ae _ _ a6) cv<|.inr ⟨rfl,p,bo,λq aC=>(a9.cW rfl q aC).1 m⟩
  |true=>exact ay (H:=ar H 3<|J p) (λp ab=>aX p<|bQ _ ab) (O.trans cv) (h0.trans<|ai (λQ=>some<|I.L<|fo.q Q) cv.q.symm) ae λc aT az f1 d7 f2=>aq c aT az (eT rfl (eJ λk=>k _ h0 _ rfl _ ae _ _ a6) f1) (cv.trans d7)<|f2.imp (λg=>⟨g.1,λx ac=>(cS ac).elim (λe=>e▸(a9.iy rfl).imp λq aC=>⟨aC.1,d7.up cv.ok _ _<|aC.2.1<|V (ai eK.aM cv.same) m⟩)<|g.2 x⟩) λg=>⟨g.1,g.2.imp λp ab=>⟨bQ _ ab.1,ab.2⟩⟩
def PJ(bl:w.r.aM=3)(W:cc Z ex z w)(aX:∀p∈ps,∀q∈c8,∀bG,cC Z ex z w bG->∃b bn,a0 a2 (d+1) 40 [.L bG.Q.q,J p,J q] bG.C=some (.bool b,bn.C)/\iS Z ex z bG (eM p) (eM q) b bn)(aq:∀b az,a0 a2 (d+4) 60 [.L w.Q.q,.ak<|ps.map J,.ak<|c8.map J] w.C=some (.bool b,az.C)->cC Z ex z w az->(b=true->∀p∈ps,∃q∈c8,lV Z az.T az.r.tr (eM p)<|eM q)->(b=false->∃p∈ps,∀q∈c8,¬cK Z.P (eM p) (eM q))->R):R:=by
 refine abP (d:=d) bl aX (H:=cm [.L w.Q.q,.ak<|ps.map J,.ak<|c8.map J]) (.refl W) rfl rfl λc aT az f O h=> ?_;have gZ:=lL (O:=bk<|d+3) (i:=3) (cg:=.E 1) (fJ rfl) f;refine h.elim (λq=> ?_) λq=> ?_
 ·obtain⟨rfl,q⟩:=q;exact aq true az (gi [true] λk=>k _ _ _ gZ) O (λB=>q) nofun
 ·obtain⟨rfl,q⟩:=q;exact aq false az (gi [true] λk=>k _ _ _ gZ) O nofun λB=>q
def abQ(c4:mA true d n Z)(bl:w.r.aM=3)(W:cc Z [] z w)(X:kg n 2 w.r)(bu:w.r.tr≠[])(aJ:w.T[s]? =some (.dM ps))(aP:w.T[t]? =some (.dM c8))(cs:gJ n (aE w.T s))(eI:gJ n (aE w.T t)):∃c az,a0 a2 (d+22) 59 [.L w.Q.q,J s,J t] w.C=some (.bool c,az.C)/\lX Z [] z w (aE w.T s) (aE w.T t) c az:=by
 have G:=W.cX;have ah:=ck bl;refine PJ (d:=d+17) bl W (λp ab q aC=>HC c4 ah W X bu (w9 G aJ cs ab) (w9 G aP eI aC)<|.inl rfl) λb bG a6 cv pos neg=> ?_;have er:bG.r.aM=3:=V (ai eK.aM cv.same) bl;have W1:=cv.ok;cases b with
 |false=>exact⟨false,bG,go λk=>k _ W.k.bx.c5 _ W.au.cz _ W.au.cJ _ (W.au.row aJ) _ (W.au.row aP) _ rfl _ rfl _ rfl _ rfl _ rfl _ (b0 (i:=1) rfl) _ (b0 (i:=1) rfl) _ _ a6,cv,λB=>nofun,λB B h=>(neg rfl).elim λp ab=>(pq G aJ ab.1).elim λx ac=>(h.d9.mi _ ac.2.2.2.2.2).elim λy a8=>(rG G aP a8.1).elim λq aC=>ab.2 q aC.1<|V ac.2.2.2.2.1<|V aC.2 a8.2,λm=>absurd bl m,λB B=>cv.wV bl⟩
 |true=>
  have up:∀{t:Nat},(w.T[t]?).isSome=true->aE bG.T t=aE w.T t:=gn W.dz cv.pre;refine PJ (d:=d+17) (w:=bG) (ps:=c8) (c8:=ps) (eM:=aE w.T) er W1 (λq aC p ab bn d7=>HC c4 ah W X bu (w9 G aP eI aC) (w9 G aJ cs ab) (.inl rfl) bn<|cv.trans d7) λb bn bS d7 abR abS=> ?_;have bS:a0 a2 (d+21) 60 [.L w.Q.q,.ak<|c8.map J,.ak<|ps.map J] bG.C=some (.bool b,bn.C):=eF (ai fo.q cv.q) bS;refine⟨b,bn,go λk=>k _ W.k.bx.c5 _ W.au.cz _ W.au.cJ _ (W.au.row aJ) _ (W.au.row aP) _ rfl _ rfl _ rfl _ rfl _ rfl _ (b0 (i:=1) rfl) _ (b0 (i:=1) rfl) _ _ a6 _ (b0 (i:=1) rfl) _ (b0 (i:=1) rfl) _ _ bS,cv.trans d7,λB e=>.inr ⟨CJ G aJ,CJ G aP,λx ac=> ?_,λy a8=> ?_⟩,λB e h=> ?_,λm=>absurd bl m,λB B=>(cv.trans d7).wV bl⟩
  ·exact(rG G aJ ac).elim λp ab=>(pos rfl p ab.1).elim λq aC=>(pq G aP aC.1).elim λy a8=>⟨_,a8.2.2.2.2.2,.inr<|eF ab.2<|eF a8.2.2.2.2.1<|d7.up W1 _ _ aC.2⟩
  ·exact(rG G aP a8).elim λq aC=>(abR e q aC.1).elim λp ab=>(pq G aJ ab.1).elim λx ac=>⟨_,ac.2.2.2.2.2,.inr<|eF aC.2<|eF ac.2.2.2.2.1 ab.2⟩
  ·exact(abS e).elim λq aC=>(pq G aP aC.1).elim λy a8=>(h.d9.nM _ a8.2.2.2.2.2).elim λx ac=>(rG G aJ ac.1).elim λp ab=>aC.2 p ab.1<|V a8.2.2.2.2.1<|V ab.2 ac.2
end
end
section
section
variable{n p q e:Nat}{ps:List Nat}{a b x:af}{i:Bool}
def abT(W:cc Z ex z w)(an:k≠5):a0 a2 (d+1) 35 [.L w.Q.q,J k,v,y] w.C=some (.bool false,w.C):=by have bA:=Ms W.k.bx.gI (rfl:e3 [(.int 5,.L w.Q.rule)] (J k)=true);rw[OV (b:=.int 5) (a:=J k) λe=>an (k0 (I.int.inj e:Int.ofNat 5=Int.ofNat k)).symm]at bA;exact go λr=>r _ W.k.bx.GR _ (Fk W.k.bx.gI) _ _ (Fl W.k.bx.gI bA) _ rfl
def PK(W:cc Z ex z w)(aU:w.T[s]? =some a)(aj:w.T[t]? =some b)(h:a.kind=6/\b.kind≠6\/a.kind≠6/\b.kind=6):a0 a2 (d+1) 59 [.L w.Q.q,J s,J t] w.C=some (.bool false,w.C):=
 have PL:∀{r:af},r.kind=6->decide (r.kind∈[6,7])=true:=λh=>V h rfl
 h.elim (λh=>go λk=>k _ W.k.bx.c5 _ W.au.cz _ W.au.cJ _ (W.au.row aU) _ (W.au.row aj) _ cN _ cN _ (bN λq=>h.2<|br q h.1) _ cN _<|ej<|fz [6,7]<|PL h.1)
  λh=>go λk=>k _ W.k.bx.c5 _ W.au.cz _ W.au.cJ _ (W.au.row aU) _ (W.au.row aj) _ cN _ cN _ (bN λq=>h.1<|q.trans h.2) _ cN _ (ej<|fz [6,7]<|Hj h.1) _ cN _<|ej<|fz [6,7]<|PL h.2
def abU(W:cc Z ex z w)(bl:w.r.aM≠3)(aU:w.T[s]? =some a)(aj:w.T[t]? =some (.dM c8))(dh:a.kind≠6)(aD:aE w.T s=[x])(aX:∀q∈c8,∀bG,cC Z ex z w bG->∃b bn,a0 a2 (d+1) 40 [.L bG.Q.q,J s,J q] bG.C=some (.bool b,bn.C)/\iS Z ex z bG (aE w.T s) (aE w.T q) b bn):
  ∃c az,a0 a2 (d+5) 53 [.L w.Q.q,J s,J t] w.C=some (.bool c,az.C)/\lX Z ex z w (aE w.T s) (aE w.T t) c az:=by
 have G:=W.cX;have ab:a0 a2 (d+3) 15 [.L Z.A.t,J t] w.C=some (.ak<|c8.map J,w.C):=dH (yk W.au.fZ aj)<|ai (λl:List Nat=>(I.ak<|l.map J,w.C)) ((bH<|G.o3 aj).trans (V aj rfl):dS w.T t=c8);have st:∀{r:I×St},a0 a2 (d+4) 58 [.L w.Q.q,J s,J t] w.C=some r->a0 a2 (d+5) 53 [.L w.Q.q,J s,J t] w.C=some r:=λh=>go λk=>k _ W.k.bx.c5 _ W.au.cz _ W.au.cJ _ (W.au.row aU) _ cN _ (W.au.row aj) _ rfl _ (bN (b:=6) dh) _ rfl _ _ h;by_cases aJ:s∈c8
 ·exact⟨true,w,st<|go λk=>k _ W.k.bx.c5 _ W.au.cz _ _ ab _<|ej<|(mR w.C s c8).trans<|ai some<|ck aJ,.refl W,λm=>absurd m bl,λB=>nofun,λB=>⟨λB B B=>rfl,λy e v=>(pq G aj aJ).elim λr aH=>absurd (.inl<|h2 (br e aH.2.2.2.2.1) λe B=>e) (v _ aH.2.2.2.2.2).1,λB B=>rfl⟩,λB B=>rfl⟩
 ·refine PI (d:=d) W aX λc bG a6 O a9=> ?_;refine⟨c,bG,st ?_,O,λm=>absurd m bl,λm=>absurd m bl,λm=>⟨λy e v=>v.elim λzw a8=>(rG G aj a8.1).elim λq aC=> ?_,λy e v=> ?_,λcU f=> ?_⟩,λcU f=> ?_⟩
  ·have jb:=ej<|(mR w.C s c8).trans<|ai some<|cp aJ;cases c with
   |true=>exact go λk=>k _ W.k.bx.c5 _ W.au.cz _ _ ab _ jb _ _ a6
   |false=>
    have W1:=O.ok;have CK:¬a.kind=7:=(by decide:∀k:Nat,k∈[1,2,3,4,6,8,9]->¬k=7) _<|kinds a;have wR:¬a.kind=12:=(by decide:∀k:Nat,k∈[1,2,3,4,6,8,9]->¬k=12) _<|kinds a;have jE:a0 a2 (d+3) 35 [.L w.Q.q,.int 6,J s,J t] bG.C=some (.bool false,bG.C):=eF (ai fo.q O.q) (abT (d:=d+2) (k:=6) W1<|by decide);cases PM:decide (a.kind∈[8,9])with
    |true=>exact go λk=>k _ W.k.bx.c5 _ W.au.cz _ _ ab _ jb _ _ a6 _ W1.au.cJ _ (W1.au.row<|O.pre.get aU) _ cN _ (ej<|fz [10,14,15,16,17,18,19] Cv) _ (bN (b:=7) CK) _ (bN (b:=7) CK) _ (ej<|fz [8,9] PM) _ _ jE
    |false=>exact go λk=>k _ W.k.bx.c5 _ W.au.cz _ _ ab _ jb _ _ a6 _ W1.au.cJ _ (W1.au.row<|O.pre.get aU) _ cN _ (ej<|fz [10,14,15,16,17,18,19] Cv) _ (bN (b:=7) CK) _ (bN (b:=7) CK) _ (ej<|fz [8,9] PM) _<|bN (b:=12) wR
  ·cases c with
   |true=>rfl
   |false=>exact((a9.cW rfl q aC.1).2 m).iy y e ⟨zw,aC.2▸bo,a8.2⟩
  ·cases c with
   |false=>rfl
   |true=>exact(a9.iy rfl).elim λq aC=>(pq G aj aC.1).elim λr aH=>have wP:bG.r.aM=w.r.aM:=V O.same rfl
     ((wP▸aC.2.2 (wP▸m):hY Z.P w.r.aM (aE w.T s) (aE w.T q) true).cW y e λzw a8=>v zw<|bR (aH.2.2.2.2.1▸a8)▸aH.2.2.2.2.2).symm▸rfl
  ·exact(a9.kI m cU<|(f x<|aD▸bo).elim λy a8=>(rG G aj a8.1).elim λq aC=>⟨q,aC.1,λqB ac=>⟨y,aC.2▸bo,bR (aD▸ac)▸a8.2⟩⟩).1
  ·exact(a9.kI bl cU<|(f x<|aD▸bo).elim λy a8=>(rG G aj a8.1).elim λq aC=>⟨q,aC.1,λqB ac=>⟨y,aC.2▸bo,bR (aD▸ac)▸a8.2⟩⟩).2
end
end
section
section
variable{n p q e:Nat}{ps:List Nat}{a b x:af}{i:Bool}
def abV(c4:mA i d n Z)(ah:decide (w.r.aM=3)=i)(W:cc Z [] (z+e) w)(he:s=0->1<=e)(X:kg n 3 w.r)(aU:w.T[s]? =some a)(aj:w.T[t]? =some (.dM c8))(dh:a.kind≠6)(cs:gJ n (aE w.T s))(eI:gJ n (aE w.T t))(n6:∀c bG,a0 a2 (d+24) 40 [.L w.Q.q,J s,J t] w.C=some (.bool c,bG.C)->iS Z [] z w (aE w.T s) (aE w.T t) c bG->bG.r.tr=w.r.tr->(w.r.aM≠3->lY w.r.aM (aE w.T s) (aE w.T t) c)->R)(aq:∀u v ax cA ee,tj (d+22) Z [] z w (aE w.T s) (aE w.T t) s t u v ax cA ee (λB=>True)->(∃x,aE w.T s=[x])->R):R:=
 Hq (d:=d+19) W he aU aj cs.1 eI.1 n6 λu v ax cA O bD aS gB c3 jv jr zr go=>by
  have G:=O.ok.cX;have aS:cA[v]? =some (.dM c8):=aS;have dh:(ct a).kind≠6:=ww.symm▸dh;have jc:gJ n (aE cA u):=gB.symm▸cs;have iU:gJ n (aE cA v):=c3.symm▸eI;have Py:iC cA (u,v):=⟨ai Option.isSome bD,ai Option.isSome aS⟩;have e2:u≠2:=(Decidable.em<|w.r.aM=3).elim (λm q=>b7<|(jr m).1.symm.trans<|(ju G (i:=2) rfl bD).mpr q▸rfl) λm=>(zr m).e2;have aD:aE cA u=[ct a]:=kL G bD dh e2 jo;have w2:aE w.T s=[ct a]:=br gB aD;have keep:∀{ee:List (Nat×Nat)},(∀k∈ee,k=(u,v))->(w.r.aM=3\/(u,v)∈ee\/hY Z.P w.r.aM (aE w.T s) (aE w.T t) true)->(w.r.aM≠3->ee=[]\/u2 w.r.aM (ct a) (aE cA v))->R:=λ{ee} aj iT ac=>
   aq u v ax cA ee ⟨O,Py,gB,c3,b5,λB=>fO,λk h=>.inr<|aj k h,iT,go,λcB eL hX an=>by
    rw[<-gB,<-c3];by_cases bl:w.r.aM=3
    ·rw[bh bl];refine⟨false,{w with C:=cB,T:=cA,r:=w.r.push (u,v)},PK (d:=d+21) hX bD aS<|.inr ⟨dh,rfl⟩,⟨(cC.refl hX).gf<|cT _ _,λB=>nofun,λB B h=>CJ G aS<|h.d9.len.mp<|ai List.length aD,λm=>absurd bl m,λB B=>rfl⟩,trivial⟩
    ·rw[bH bl];have K:=zr bl;exact(abU (d:=d+17) (hX.gf (cT _ _)) bl bD aS dh aD λq aC=>HC c4 ah hX (X.push _) (λq=>List.cons_ne_nil _ _ (u7.mp (q:w.r.tr++[(u,v)]=[])).2) ⟨ct a,bD,dh,jc,K.e8⟩ (w9 G aS iU aC) ((ac bl).imp_right λxa=>⟨λk an=>⟨c8,V (ai Prod.snd (aj k an)) aS⟩,λEY b' abW oq hl=>(pq G aS aC).elim λr aH=>(xa _ aH.2.2.2.2.2).2 (.inl ⟨bp (br abW bD)▸hl.1,Hy.trans (bp (br oq aH.1)▸hl.2)⟩)⟩)).elim λc h=>h.elim λbI h=>⟨c,bI,h.1,h.2,trivial⟩⟩ ⟨_,w2⟩
  by_cases xa:u2 w.r.aM (ct a) (aE cA v)
  ·exact keep (ee:=[(u,v)]) (λk h=>bR h) (.inr<|.inl bo) λB=>.inr xa
  ·exact keep (ee:=[]) (λB=>fO) (.inr<|.inr ⟨λB B B=>rfl,λy e h=>absurd (c3.symm▸(h2 (br e w2) λe B=>e:y=ct a)▸h) xa,λB B=>rfl⟩) λB=>.inl rfl
def PN(c4:mA i d n Z)(ah:decide (w.r.aM=3)=i)(W:cc Z [] (z+e) w)(he:s=0->1<=e)(X:kg n 3 w.r)(aU:w.T[s]? =some a)(aj:w.T[t]? =some b)(dh:a.kind≠6)(cs:gJ n (aE w.T s))(eI:gJ n (aE w.T t))(n6:∀c bG,a0 a2 (d+24) 40 [.L w.Q.q,J s,J t] w.C=some (.bool c,bG.C)->iS Z [] z w (aE w.T s) (aE w.T t) c bG->bG.r.tr=w.r.tr->(w.r.aM≠3->lY w.r.aM (aE w.T s) (aE w.T t) c)->R)(aq:∀u v ax cA ee,tj (d+22) Z [] z w (aE w.T s) (aE w.T t) s t u v ax cA ee (λB=>True)->(∃x,aE w.T s=[x])->R):R:=by
 by_cases da:b.kind=6
 ·exact o3 da λc8 e=>abV c4 ah W he X aU (e▸aj) dh cs eI n6 aq
 ·exact Pz (c4.hl 6) ah W he ⟨X.mx,Nat.le_of_succ_le X.dl,X.g9⟩ aU aj dh da cs eI (.inl rfl) n6 aq
def PO(c4:mA i d n Z)(ah:decide (w.r.aM=3)=i)(W:cc Z [] (z+e) w)(he:s=0->1<=e)(X:kg n 3 w.r)(bu:w.r.tr≠[])(aU:w.T[s]? =some a)(aj:w.T[t]? =some b)(dh:a.kind≠6)(cs:gJ n (aE w.T s))(eI:gJ n (aE w.T t)):
  ∃b az,a0 a2 (d+24) 40 [.L w.Q.q,J s,J t] w.C=some (.bool b,az.C)/\iS Z [] z w (aE w.T s) (aE w.T t) b az:=
 PN c4 ah W he X aU aj dh cs eI (λc bG h A B B=>⟨c,bG,h,A⟩) λu v ax cA ee K B=>K.ask (d:=d+21) bu<|c7 (nw<|pF _) X.dl
structure HD(Z:hF)(m:Nat)(eM:Nat->List af)(gG:List af)(ps:List Nat)(b:Bool)(same:Prop):Prop where
 all:m≠2->b->∀p∈ps,hY Z.P m (eM p) gG true
 aR:m≠2->b=false->∃p∈ps,hY Z.P m (eM p) gG false
 some:m=2->b->∃p∈ps,hY Z.P m (eM p) gG true
 none:m=2->b=false->∀p∈ps,hY Z.P m (eM p) gG false
 kI:m≠2->(∀p∈ps,iR Z.P (eM p) gG)->b/\same
def abX(bl:fW.r.aM≠3)(aX:∀p∈ps,∀bG,cC Z ex z fW bG->∃b bn,a0 a2 d 40 [.L bG.Q.q,J p,J t] bG.C=some (.bool b,bn.C)/\iS Z ex z bG (eM p) gG b bn):∀{w:gA} {H:bT},cC Z ex z fW w->H 0=some (.L w.Q.q)->H 2=some (J t)->
  (∀c aT az x,fX (λB=>true) (λx H s=>cG (bk<|d+1) (jN<|xt.body.getD 0 .fA) (ar H 3 x) s) (ps.map J) H w.C=some (c,aT,az.C)->cC Z ex z w az->aT 0=some (.L az.Q.q)->HD Z fW.r.aM eM gG ps x (az.r.ns=w.r.ns)->(c=.next/\x=decide (fW.r.aM≠2))\/c=.ret (.bool x)->R)->R:=by
 induction ps with
 |nil=>exactλO h0 B aq=>aq .next _ _ (decide<|fW.r.aM≠2) rfl (.refl O.ok) h0 ⟨λB B B=>fO,λm e=>absurd m<|of_decide_eq_false e,λm e=>absurd m<|dx e,λB B B=>fO,λm B=>⟨ck m,rfl⟩⟩ (.inl ⟨rfl,rfl⟩)
 |cons p ps ay=>
  intro w H O h0 ae aq;have m:w.r.aM=fW.r.aM:=V O.same rfl;refine(aX p bo w O).elim λb h=>h.elim λbG h=> ?_;have A:=h.2;have ad:hY Z.P fW.r.aM (eM p) gG b:=m▸A.iT (m.symm▸bl);have er:bG.r.aM=fW.r.aM:=(V A.out.same rfl:bG.r.aM=w.r.aM).trans m;have vd:H 0=some (.L bG.Q.q):=h0.trans<|ai (λQ=>some<|I.L<|fo.q Q) A.out.q.symm;have ask:a0 a2 (d+1) 30 [.L w.Q.q,J p,J t] w.C=some (.bool b,bG.C):=go λk=>k _ _ h.1;have stop:(b=true↔fW.r.aM=2)->cG (bk<|d+1) (jN<|xt.body.getD 0 .fA) (ar H 3<|J p) w.C=some (.ret<|.bool b,ar H 3<|J p,bG.C)->R:=λaj st=>aq _ _ bG b (mQ rfl st) A.out vd ⟨λn e=>absurd (aj.mp e) n,λB e=>⟨p,bo,e▸ad⟩,λB e=>⟨p,bo,e▸ad⟩,λq e=>Bool.noConfusion<|br e<|aj.mpr q,λn f=>absurd (aj.mp<|ad.kI n<|f p bo) n⟩<|.inr rfl;have next:(b=true↔fW.r.aM≠2)->cG (bk<|d+1) (jN<|xt.body.getD 0 .fA) (ar H 3<|J p) w.C=some (.next,ar H 3<|J p,bG.C)->R:=λaj st=>ay (H:=ar H 3<|J p) (λq aC=>aX q<|bQ _ aC) (O.trans A.out) vd ae λc aT az x g1 bd cQ F i4=>aq c aT az x (eT rfl st g1) (A.out.trans bd) cQ
   ⟨λn e q aC=>(cS aC).elim (λk=>k▸aj.mpr n▸ad)<|F.all n e q,λn e=>(F.aR n e).imp λq aC=>⟨bQ _ aC.1,aC.2⟩,λn e=>(F.some n e).imp λq aC=>⟨bQ _ aC.1,aC.2⟩,λn e q aC=>(cS aC).elim (λk=>k▸(mH.mpr λq=>aj.mp q n:b=false)▸ad)<|F.none n e q,λn f=>have g:=F.kI n λq aC=>f q<|bQ _ aC;⟨g.1,g.2.trans<|A.clean (m.symm▸n)<|f p bo⟩⟩ i4
  have dC:bE Z.A bG.C w.Q bG.r bG.r.tr (kK bG.eV):=(A.out.q:bG.Q=w.Q)▸A.out.ok.k.bx;by_cases cU:fW.r.aM=2
  ·cases b with
   |true=>exact stop ⟨λB=>cU,λB=>rfl⟩<|eJ λk=>k _ h0 _ O.ok.k.bx.ph _ rfl _ ae _ _ ask _ h0 _ dC.d5 _<|cY (b:=2)<|er.trans cU
   |false=>exact next ⟨nofun,λn=>absurd cU n⟩ (eJ λk=>k _ h0 _ O.ok.k.bx.ph _ rfl _ ae _ _ ask _ h0 _ dC.d5 _<|kc (b:=2)<|er.trans cU)
  ·cases b with
   |true=>exact next ⟨λB=>cU,λB=>rfl⟩ (eJ λk=>k _ h0 _ O.ok.k.bx.ph _ rfl _ ae _ _ ask _ h0 _ dC.d5 _<|bN (b:=2) λq=>cU<|br er q)
   |false=>exact stop ⟨nofun,λn=>absurd n cU⟩<|eJ λk=>k _ h0 _ O.ok.k.bx.ph _ rfl _ ae _ _ ask _ h0 _ dC.d5 _<|kb (b:=2) λq=>cU<|br er q
end
end
section
noncomputable def abY(i:Nat):dB:=xt.body.getD i .fA
section
variable{n p q e:Nat}{ps:List Nat}{a b x:af}{i:Bool}{T:List af}{r:eK}
def abZ(W:cc Z ex z w)(bl:w.r.aM≠3)(aU:w.T[s]? =some (.dM ps))(aj:w.T[t]? =some b)(aX:∀p∈ps,∀bG,cC Z ex z w bG->∃b bn,a0 a2 d 40 [.L bG.Q.q,J p,J t] bG.C=some (.bool b,bn.C)/\iS Z ex z bG (aE w.T p) (aE w.T t) b bn):
  ∃c az,a0 a2 (d+3) 53 [.L w.Q.q,J s,J t] w.C=some (.bool c,az.C)/\cC Z ex z w az/\HD Z w.r.aM (aE w.T) (aE w.T t) ps c (az.r.ns=w.r.ns):=by
 have ab:a0 a2 (d+1) 15 [.L Z.A.t,J s] w.C=some (.ak<|ps.map J,w.C):=dH (yk W.au.fZ aU)<|ai (λl:List Nat=>(I.ak<|l.map J,w.C)) ((bH<|W.cX.o3 aU).trans (V aU rfl):dS w.T s=ps);have st:∀{r:I×St},a0 a2 (d+2) 55 [.L w.Q.q,J s,J t] w.C=some r->a0 a2 (d+3) 53 [.L w.Q.q,J s,J t] w.C=some r:=λh=>go λk=>k _ W.k.bx.c5 _ W.au.cz _ W.au.cJ _ (W.au.row aU) _ rfl _ (W.au.row aj) _ cN _ rfl _ _ h;refine abX (d:=d) bl aX (H:=cm [.L w.Q.q,J s,J t]) (.refl W) rfl rfl λc aT az x f O h0 F h=> ?_;have gZ:cw (bk<|d+1) (abY 0) (cm [.L w.Q.q,J s,J t]) w.C=some (c,aT,az.C):=lL (jj λk=>k _ W.k.bx.c5 _ W.au.cz _ _ ab) f;refine⟨x,az,st ?_,O,F⟩;refine h.elim (λq=> ?_) λq=> ?_
 ·obtain⟨rfl,rfl⟩:=q;have m:az.r.aM=w.r.aM:=V O.same rfl;by_cases cU:w.r.aM=2
  ·exact gX (q7 [true] λk=>k _ _ _ gZ _ h0 _ O.ok.k.bx.d5 _<|kc (b:=2)<|m.trans cU) (cp λq=>q cU).symm
  ·exact gX (q7 [true] λk=>k _ _ _ gZ _ h0 _ O.ok.k.bx.d5 _<|kb (b:=2) λq=>cU<|br m q) (ck cU).symm
 ·subst q;exact gi [true] λk=>k _ _ _ gZ
def kg.gf(X:kg n (k+1) r):kg n k r:=⟨X.mx,Nat.le_of_succ_le X.dl,X.g9⟩
def PP{P:af->List g8}(G:bO T)(h:T[s]? =some (.dM ps))(f:iR P (aE T s) aI):∀p∈ps,iR P (aE T p) aI:=λp ab x ac=>(pq G h ab).elim λq aC=>f x<|bR (aC.2.2.2.2.1▸ac)▸aC.2.2.2.2.2
def ab0{P:Prop}(G:bO T)(h:T[s]? =some (.dM ps))(F:HD Z m (aE T) gG ps c P):lY m (aE T s) gG c:=by
 have dT:∀{p:Nat},p∈ps->∃x∈aE T s,aE T p=[x]:=λab=>(pq G h ab).elim λq aC=>⟨_,aC.2.2.2.2.2,aC.2.2.2.2.1⟩;cases c with
 |true=>exact⟨λn aO=>aO.elim λx q=>(rG G h q.1).elim λp ab=>(F.all n rfl p ab.1).cW x ab.2 q.2,λB B=>rfl,λB B=>rfl,λn B xa=>(F.some n rfl).elim λp ab=>(dT ab.1).elim λx ac=>ab.2.cW x ac.2<|xa x ac.1,λB=>rfl⟩
 |false=>exact⟨λB B=>rfl,λn aL=>(F.aR n rfl).elim λp ab=>(dT ab.1).elim λx ac=>ab.2.iy x ac.2<|aL x ac.1,λn aO=>aO.elim λx q=>(rG G h q.1).elim λp ab=>(F.none n rfl p ab.1).iy x ab.2 q.2,λB B B=>rfl,λe=>(w4 G h<|G.o3 h).elim λx ac=>fO<|e▸ac⟩
def PQ(c4:mA i d n Z)(ah:decide (w.r.aM=3)=i)(W:cc Z [] (z+e) w)(he:s=0->1<=e)(X:kg n 4 w.r)(aU:w.T[s]? =some (.dM ps))(aj:w.T[t]? =some b)(cs:gJ n (aE w.T s))(eI:gJ n (aE w.T t))(n6:∀c bG,a0 a2 (d+29) 40 [.L w.Q.q,J s,J t] w.C=some (.bool c,bG.C)->iS Z [] z w (aE w.T s) (aE w.T t) c bG->bG.r.tr=w.r.tr->(w.r.aM≠3->lY w.r.aM (aE w.T s) (aE w.T t) c)->R)(aq:∀u v ax cA ee,tj (d+27) Z [] z w (aE w.T s) (aE w.T t) s t u v ax cA ee (λc=>w.r.aM≠3->lY w.r.aM (aE w.T s) (aE w.T t) c)->R):R:=
 Hq (d:=d+24) W he aU aj cs.1 eI.1 n6 λu v ax cA O bD aS gB c3 jv jr zr go=>by
  have G:=O.ok.cX;have bD:cA[u]? =some (.dM ps):=bD;have jc:gJ n (aE cA u):=gB.symm▸cs;have iU:gJ n (aE cA v):=c3.symm▸eI;have len:=CJ G bD;refine aq u v ax cA [] ⟨O,⟨ai Option.isSome bD,ai Option.isSome aS⟩,gB,c3,b5,λB=>fO,λB=>fO,.inr<|.inr ⟨λB B B=>rfl,λx e=>absurd (ai List.length<|gB.trans e) len,λB B=>rfl⟩,go,λcB eL hX an=> ?_⟩;rw[<-gB,<-c3];have bu:w.r.tr++[(u,v)]≠[]:=λq=>List.cons_ne_nil _ _ (u7.mp q).2;by_cases bl:w.r.aM=3
  ·rw[bh bl];by_cases da:(ct b).kind=6
   ·refine o3 da λc8 e=> ?_;exact(abQ (d:=d+5) (w:={w with C:=cB,T:=cA,r:=w.r.push (u,v)}) ((br ah (ck bl):i)▸c4.hl 5) bl (hX.gf<|cT eL 9) (X.push (u,v)).gf bu bD (e▸aS) jc iU).elim λc h=>h.elim λbI h=>⟨c,bI,h.1,h.2,λm=>absurd bl m⟩
   ·exact⟨false,{w with C:=cB,T:=cA,r:=w.r.push (u,v)},PK (d:=d+26) hX bD aS<|.inl ⟨rfl,da⟩,⟨(cC.refl hX).gf<|cT _ _,λB=>nofun,λB B h=>len<|h.d9.len.mpr<|ai List.length (ha.d4 G aS jo da (jr bl).2 iU.1).2.2,λm=>absurd bl m,λB B=>rfl⟩,λm=>absurd bl m⟩
  ·rw[bH bl];have HE:=hX.gf<|cT eL 9;refine(abZ (d:=d+24) HE bl bD aS λp ab bG cv=> ?_).elim λc h=>h.elim λpn h=>⟨c,pn,h.1,⟨h.2.1,λm=>absurd m bl,λm=>absurd m bl,λB=>⟨λx e=>absurd (ai List.length e) len,λx e=>absurd (ai List.length e) len,λm f=>(h.2.2.kI m<|PP G bD f).1⟩,λm f=>(h.2.2.kI m<|PP G bD f).2⟩,λB=>ab0 G bD h.2.2⟩;refine(w9 G bD jc ab).elim λa aU=> ?_;have aD:=gn HE.dz cv.pre<|ai Option.isSome aU.1;have aF:=gn HE.dz cv.pre<|ai Option.isSome aS;have k:=PO (e:=0) c4 (V (ai eK.aM cv.same) ah) cv.ok (λh=>absurd h aU.2.2.2) (cv.Px<|X.push (u,v)) (cv.ext.elim λaB e q=>bu (u7.mp<|br e.1 q).1) (cv.pre.get aU.1) (cv.pre.get aS) aU.2.1 (aD▸aU.2.2.1)<|aF▸iU;rw[aD,aF]at k;exact k
end
end
section
section
variable{n:Nat}{i:Bool}
def ab1(c4:mA i d n Z):tg i (d+29) n Z:=λw z u v ah W X aS jc iU=>(hT aS.1).elim λa aU=>(hT aS.2).elim λb aj=>by
 have f6:kg n 4 w.r:=⟨X.mx,X.dl,X.g9⟩;by_cases dh:a.kind=6
 ·exact o3 dh λps e=>PQ c4 ah W (λB=>gF _) f6 (e▸aU) aj jc.wI iU.wI (λc bG h A B B=>⟨c,bG,h,A⟩) λu v ax cA ee K=>K.ask (d:=d+26) X.bu<|c7 (nw<|pF _) f6.dl
 ·exact PO (c4.hl 5) ah W (λB=>gF _) f6.gf X.bu aU aj dh jc.wI iU.wI
def PR(T:i=false->∀j,qm (d+j) Z):∀n j,mA i (d+29*n+j) n Z:=λn=>by
 have eV:i=false->∀n j k,qm (d+29*n+j+k) Z:=λh n j k=>by
  rw[iZ,iZ];exact T h _
 induction n with
 |zero=>exactλj=>⟨nofun,λh k=>eV h 0 j k⟩
 |succ n ay=>
  refineλj=>⟨λm e k=> ?_,λh k=>eV h (n+1) j k⟩
  obtain rfl:=nl e;have:=ab1<|ay<|j+k;rw[rR,<-iZ]at this;exact this
def PS(c4:mA i d 10 Z)(ah:decide (w.r.aM=3)=i)(W:cc Z [] z w)(gg:Top w.r)(aS:iC w.T (s,t))(cs:ha (aE w.T s))(eI:ha (aE w.T t))(aq:∀b az,a0 a2 (d+29) 40 [.L w.Q.q,J s,J t] w.C=some (.bool b,az.C)->wY Z w (aE w.T s) (aE w.T t) b az->(w.r.bz=[]->w.r.aM≠3->lY w.r.aM (aE w.T s) (aE w.T t) b)->R):R:=
 (hT aS.1).elim λa aU=>(hT aS.2).elim λb aj=>by
  have km:cc Z [] (3999999+1) w:=W.cF gg;have f6:kg 10 4 w.r:=⟨a3 Pw<|by decide,V gg.dl<|by decide,V gg.g9<|by decide⟩;have cs:gJ 10 (aE w.T s):=⟨cs,λh=>absurd h<|by decide⟩;have eI:gJ 10 (aE w.T t):=⟨eI,λh=>absurd h<|by decide⟩;by_cases dh:a.kind=6
  ·exact o3 dh λps e=>PQ c4 ah km (λB=>gF _) f6 (e▸aU) aj cs eI (λc bG h A q T=>aq c bG h (A.top gg q) λB=>T) λu v ax cA ee K=>K.top (d:=d+26) gg aq
  ·exact PN (c4.hl 5) ah km (λB=>gF _) f6.gf aU aj dh cs eI (λc bG h A q T=>aq c bG h (A.top gg q) λB=>T) λu v ax cA ee K ac=>K.top (d:=d+26) gg λb az h A B=>aq b az h A λB bl=>ac.elim λx e=>by
    have k:=A.wZ.2 bl;rw[e]at k⊢;exact k.Ho
def ab2:∀j,qm (319+j) Z:=λj w u v bl W gg aS jc iU=>PS (PR (i:=true) (d:=0) nofun 10 j) (ck bl) W gg aS jc iU λb az h A B=>⟨b,az,by
 have e:0+29*10+j+29=319+j:=rR 290 j 29;exact e▸h,A⟩
def CL(W:cc Z [] z w)(gg:Top w.r)(aS:iC w.T (s,t))(cs:ha (aE w.T s))(eI:ha (aE w.T t))(aq:∀b az,a0 a2 638 40 [.L w.Q.q,J s,J t] w.C=some (.bool b,az.C)->wY Z w (aE w.T s) (aE w.T t) b az->(w.r.bz=[]->w.r.aM≠3->lY w.r.aM (aE w.T s) (aE w.T t) b)->R):R:=PS (PR (d:=319) (λB=>ab2) 10 0) rfl W gg aS cs eI aq
end
end
section
noncomputable def PT(i j:Nat):Bool:=(decide (i<2)&&decide (j=2))||(decide (i=3\/i=4)&&decide (j=5))
noncomputable def PU(m i j:Nat):Bool:=decide (j=12)||(!(decide (i=12)&&decide (m=4))&&(decide (j=11)||decide (i=12)||(decide (i≠11)&&((decide (i=9)&&decide (j=10))||PT i j||(decide (m=2)&&PT j i)))))
noncomputable def qn(m i j:Nat):Bool:=(decide (i=j)&&decide (i<13))||PU m i j||(decide (m=2)&&PU 2 j i)
noncomputable def HF(m i j:Nat):Bool:=(decide (i=13)&&decide (j=13))||(decide (m=2)&&decide (i=13\/j=13))
noncomputable def xb(m i j:Nat):Bool:= !qn m i j&& !HF m i j
noncomputable def vf(z i:Nat):af:=if i<13 then hW i else .ref z
noncomputable def HG(m:Nat)(x y:af):Decidable (jP m x y):=by
 delta jP n3 rC
 infer_instance
def ab3:∀m∈[4,1,2],∀i<14,∀j<14,@decide _ (HG m (vf 0 i)<|vf 1 j)=qn m i j:=by decide+kernel
noncomputable def mB(k:e1):List Nat:=hp k.m++(if k.aV=[]then[]else[13])
noncomputable def ab4(m:Nat)(gc zx:List Nat):Bool:=gc.isEmpty||(bif decide (m=2)then gc.any λi=>zx.any (qn m i)else gc.all λi=>zx.any (qn m i))
noncomputable def ab5(m:Nat)(gc zx:List Nat):Bool:=bif decide (m=2)then !gc.isEmpty&&gc.all λi=>zx.all (xb m i)else gc.any λi=>zx.all<|xb m i
noncomputable def CM(m:Nat)(a b:e1):Bool:=(decide (qc m a b=1)&&ab4 m (mB a) (mB b))||(decide (qc m a b=0)&&ab5 m (mB a) (mB b))||decide (qc m a b= -1)
noncomputable def CN(k:e1):e1:=⟨k.m,if k.aV=[]then[]else[0]⟩
noncomputable def HH:List e1:=jp.map (⟨·,[]⟩)++(jp.filter λm=>decide<|¬(m=2048\/m=4096)).map (⟨·,[0]⟩)
def ab6:∀m∈[4,1,2],(HH.all λa=>HH.all λb=>CM m a b)=true:=by decide+kernel
section
variable{x y e:af}{a b k:e1}{c:List af}{g eO:Nat->af}{v:Bool}
def CO(h:x.shaped):n3 m x y↔y=cu "any"\/y=cu "unknown":=
 have n:∀{s:String},x≠cu s:=λe=>b7<|(ai af.shaped e).symm.trans h
 ⟨λq=>q.imp_right λq=>q.2.elim id λq=>q.elim (λq=>absurd q n) λq=>b7<|br q.2.hl.1 h,λq=>q.imp_right λq=>⟨λp=>n p.1,.inl q⟩⟩
def CP(h:y.shaped):n3 m x y↔¬(x=cu "any"/\m=4)/\x=cu "any":=
 have n:∀{s:String},y≠cu s:=λe=>b7<|(ai af.shaped e).symm.trans h
 ⟨λq=>q.elim (λq=>absurd q n) λq=>⟨q.1,q.2.elim (λq=>absurd q n) λq=>q.elim id λq=>b7<|br q.2.hl.2 h⟩,λq=>.inr ⟨q.1,.inr<|.inl q.2⟩⟩
def PV(h:jP m e y)(he:e.shaped)(ac:x.shaped)(n:e≠y):jP m x y:=.inr<|(h.resolve_left n).imp (λq=>(CO ac).mpr<|(CO he).mp q) λq=>⟨q.1,(CP ac).mpr<|(CP he).mp q.2⟩
def PW(h:jP m x e)(he:e.shaped)(a8:y.shaped)(n:x≠e):jP m x y:=.inr<|(h.resolve_left n).imp (λq=>(CP a8).mpr<|(CP he).mp q) λq=>⟨q.1,(CO a8).mpr<|(CO he).mp q.2⟩
def iD(i:Nat)(x:af):Prop:=(i<13/\x=hW i)\/(i=13/\x.shaped)
def iD.hl(h:iD i x):x.shaped=true↔i=13:=h.elim (λq=>⟨λk=>b7<|(q.2▸Gv i q.1:x.shaped=false).symm.trans k,λk=>absurd (k▸q.1)<|by decide⟩) λq=>⟨λB=>q.1,λB=>q.2⟩
def iD.lt(h:iD i x):i<14:=h.elim (λq=>ow q.1) λq=>q.1.symm▸oW 13
def ab7(hm:m∈[4,1,2])(ah:i<14)(aQ:j<14):jP m (vf 0 i) (vf 1 j)↔qn m i j=true:=ab3 m hm i ah j aQ▸⟨λh=>@decide_eq_true _ (HG ..) h,λh=>@of_decide_eq_true _ (HG ..) h⟩
def CQ(ah:i<13)(h:y.shaped):hW i≠y:=λe=>b7<|(Gv i ah).symm.trans<|(ai af.shaped e).trans h
def iD.jS(hm:m∈[4,1,2])(ac:iD i x)(a8:iD j y)(n:¬(i=13/\j=13)):jP m x y↔qn m i j=true:=by
 refine Iff.trans ?_<|ab7 hm ac.lt a8.lt;obtain⟨p,rfl⟩|⟨rfl,p⟩:=ac
 ·rw[show vf 0 i=hW i from bh p];obtain⟨q,rfl⟩|⟨rfl,q⟩:=a8
  ·rw[show vf 1 j=hW j from bh q]
  ·exact⟨λh=>PW h q rfl<|CQ p q,λh=>PW h rfl q<|CQ p rfl⟩
 ·obtain⟨q,rfl⟩|⟨rfl,q⟩:=a8
  ·rw[show vf 1 j=hW j from bh q];exact⟨λh=>PV h p rfl (CQ q p).symm,λh=>PV h rfl p (CQ q rfl).symm⟩
  ·exact absurd ⟨rfl,rfl⟩ n
def ab8:∀m∈[4,1,2],qn m 13 13=false:=by decide
def iD.iy(hm:m∈[4,1,2])(ac:iD i x)(a8:iD j y)(h:qn m i j):jP m x y:=(ac.jS hm a8 λq=>by
 obtain⟨rfl,rfl⟩:=q;exact b7 ((ab8 m hm).symm.trans h)).mpr h
def iD.cW(hm:m∈[4,1,2])(ac:iD i x)(a8:iD j y)(h:xb m i j):¬jP m x y/\¬G4 m x y:=by have Y:¬qn m i j=true:=λq=>b7 ((ai (!·) q).symm.trans<|bP h);have ae:¬(i=13/\j=13)/\¬(m=2/\(i=13\/j=13)):=⟨λq=>b7 ((ai (!·) (Bool.or_eq_true_iff.mpr (.inl<|dI (ck q.1)<|ck q.2):HF m i j)).symm.trans<|cO h),λq=>b7 ((ai (!·) (Bool.or_eq_true_iff.mpr (.inr<|dI (ck q.1)<|ck q.2):HF m i j)).symm.trans<|cO h)⟩;exact⟨λq=>Y<|(ac.jS hm a8 ae.1).mp q,λq=>q.elim (λq=>ae.1 ⟨ac.hl.mp q.1,a8.hl.mp q.2⟩) λq=>ae.2 ⟨q.1,q.2.imp ac.hl.mp a8.hl.mp⟩⟩
def ja.PX(h:ja c k g)(bA:iQ k.aV g):(∀x∈c,∃i∈mB k,iD i x)/\∀i∈mB k,∃x∈c,iD i x:=by
 delta mB;refine⟨λx ac=>rl ((h.mem x).mp ac) (λi ah e=>⟨i,jg _ ah,.inl ⟨nR ah,e⟩⟩) λj aQ e=>⟨13,i0 _<|V (bH<|List.ne_nil_of_mem aQ) bo,.inr ⟨rfl,e▸bA.d4 j aQ⟩⟩,λi ah=>(gb ah).elim (λah=>⟨_,(h.mem _).mpr<|uM ah,.inl ⟨nR ah,rfl⟩⟩) λah=> ?_⟩;by_cases e:k.aV=[]
 ·rw[bh e]at ah;exact fO ah
 ·rw[bH e]at ah;exact(va _ e).elim λj aQ=>⟨_,(h.mem _).mpr<|wB aQ,.inr ⟨bR ah,bA.d4 j aQ⟩⟩
def PY(h:jK k):CN k∈HH:=by
 delta CN;by_cases e:k.aV=[]
 ·exact jg _<|i1 ⟨k.m,h.m,V (bh e) rfl⟩
 ·exact i0 _<|i1 ⟨k.m,r6.mpr ⟨h.m,ck λq=>e<|h.top q⟩,V (bH e) rfl⟩
def ab9:CM m (CN a) (CN b)=CM m a b:=by
 cases a with
 |mk am mc=>cases b with
  |mk bm PZ=>cases mc with
   |nil=>cases PZ with
    |_=>rfl
   |cons=>cases PZ with
    |_=>rfl
def aca(hm:m∈[4,1,2])(aU:jK a)(aj:jK b)(cb:ja c a g)(dE:ja bK b eO)(ga:iQ a.aV g)(acb:iQ b.aV eO)(h:lY m c bK v):(qc m a b=1/\v)\/(qc m a b=0/\v=false)\/qc m a b= -1:=by
 have k:CM m a b:=ab9▸hg (hg (ab6 m hm) _<|PY aU) _ (PY aj);have g3:=cb.PX ga;have fg:=dE.PX acb;have iy:∀{i:Nat} {x:af},iD i x->(mB b).any (qn m i)=true->n4 m x bK:=λac q=>(pX.mp q).elim λj aQ=>(fg.2 j aQ.1).imp λy a8=>⟨a8.1,ac.iy hm a8.2 aQ.2⟩;have cW:∀{i:Nat} {x:af},iD i x->(mB b).all (xb m i)=true->u2 m x bK:=λac q y a8=>(fg.1 y a8).elim λj aQ=>ac.cW hm aQ.2<|hg q j aQ.1;refine(Bool.or_eq_true_iff.mp k).elim (λk=>(Bool.or_eq_true_iff.mp k).elim (λk=>.inl ⟨dx<|bP k,(Bool.or_eq_true_iff.mp<|cO k).elim (λe=>h.nZ<|List.eq_nil_iff_forall_not_mem.mpr λx ac=>(g3.1 x ac).elim λi ah=>fO<|t9.mp e▸ah.1) λq=> ?_⟩) λk=>.inr<|.inl ⟨dx<|bP k,?_⟩) λk=>.inr<|.inr<|dx k
 ·by_cases cU:m=2
  ·rw[ck cU]at q;exact(pX.mp q).elim λi ah=>(g3.2 i ah.1).elim λx ac=>h.hJ cU ⟨x,ac.1,iy ac.2 ah.2⟩
  ·rw[cp cU]at q;exact h.gu cU λx ac=>(g3.1 x ac).elim λi ah=>iy ah.2<|hg q i ah.1
 ·have q:(bif decide (m=2)then !(mB a).isEmpty&&(mB a).all λi=>(mB b).all (xb m i)else(mB a).any λi=>(mB b).all<|xb m i)=true:=cO k;by_cases cU:m=2
  ·rw[ck cU]at q;exact h.q8 cU (λe=>b7<|((oA _).mp<|bP q).symm.trans<|t9.mpr<|List.eq_nil_iff_forall_not_mem.mpr λi ah=>(g3.2 i ah).elim λx ac=>fO<|e▸ac.1) λx ac=>(g3.1 x ac).elim λi ah=>cW ah.2<|hg (cO q) i ah.1
  ·rw[cp cU]at q;exact(pX.mp q).elim λi ah=>(g3.2 i ah.1).elim λx ac=>h.g5 cU ⟨x,ac.1,cW ac.2 ah.2⟩
end
end
section
section
variable{T:List af}{k:e1}{x:af}
def acd(G:bO T)(h:r∈T):r.gP.length<=3:=(q9.mp h).elim λi ah=>by
 have k:=G.row i r ah;cases r with
 |obj ps f=>exact(show i=11\/sH T ps f from k).elim (λe=>(af.obj.inj<|bp<|(e▸ah).symm.trans<|G.at (i:=11) rfl).1▸jA _) λo=>o.f9
 |_=>exact jA _
def ace{l:List af}(h:∀r∈l,r.gP.length<=3):(l.flatMap af.gP).length<=3*l.length:=by
 induction l with
 |nil=>exact gF 0
 |cons a l ay=>exact V List.flatMap_cons<|V eo<|a3 (lg (h a bo)<|ay λr aH=>h r<|bQ _ aH)<|cM<|m8 _ _
def acf(G:bO T)(h:T.length<=88):T.length+(yz T).length<=400:=G.au.elim λaB e=>by
 have l:aB.length<=69:=Nat.le_of_add_le_add_left (a:=19)<|a3 (cM<|br eo<|ai List.length e) h;have q:(T.flatMap af.gP).length<=207:=e▸V List.flatMap_append (V eo<|a3 (cM<|ot _)<|a3 (ace λr aH=>acd G<|e▸i0 _ aH)<|m3 3 l);exact a3 (lg h (a3 (cM (eo.trans (congr (ai (·+·)<|c2 _)<|c2 _)))<|lg h q)) (by decide)
def nT.pre(X:nT T a1 N)(G:bO a7)(x:ek T a7):nT a7 a1 N:=⟨G,λj aQ=>(X.uN j aQ).imp λu h=>h.imp λps h=>h.imp λf h=>⟨BA x h.1,x.get h.2.1,h.2.2.1,h.2.2.2.imp λp q m=>m.pre X.G x⟩⟩
def nT.acg(X:nT T a1 N)(up:∀a9,sR N a9->∀i j,i<3->j<3->a9 i j->f i j)(eV:∀i j,i<3->j<3->i≠j->f i j->m5 f (N i) (N j)=true):yW (yF T a1) N f:=Zy X.ref (up _<|Zx X.ref) eV
def lT.xE(h:lT T N x j)(X:nT T a1 N):qb (yF T a1) N x j:=h.elim (λh=>h.elim λi h=>⟨h.2.1▸rfl,by
 have k:=(X.ref i h.1).ps;rw[h.2.1,h.2.2];exact k⟩) λh=>h.elim λps h=>h.elim λf h=>⟨h.1▸rfl,h.1▸NX X.G h.2⟩
def ach:∀i<13,hW i≠cu "error"/\hW i≠cu "object":=by decide+kernel
def nY.mL(h:nY T N k u)(ok:∀j,j<3->lh (N j)):ha (aE T u):=h.ex.elim λg q x ac=>rl ((q.1.mem x).mp ac) (λi ah e=>.inl<|e▸⟨NJ i<|nR ah,ach i<|nR ah⟩) λj aQ e=>.inr<|e▸⟨q.2.1.d4 j aQ,(q.2.2 j aQ).bu<|ok j<|uI _ h.kr.aV j aQ⟩
def nY.row(h:nY T N k u):(T[u]?).isSome=true:=h.ex.elim λg q=>q.1.some
end
structure kN(Z:hF)(N:Nat->List cZ)(aw:List (e1×Nat))(f:Nat->Nat->Bool)(dg bL:Nat):Prop where
 X:nT Z.T0 Z.a1 N
 fC:∀e∈aw,nY Z.T0 N e.1 e.2
 F:yW Z.P N f
 ok:∀j,j<3->lh (N j)
 s:Z.A.t+2<bL
 e:Z.A.t+2<dg
structure jT(Z:hF)(aw:List (e1×Nat))(f:Nat->Nat->Bool)(dg bL:Nat)(C:St)(T:List af):Prop where
 au:dX C Z.A T Z.a1
 dz:hC Z.T0 T
 same:C[bL]? =some (.dict<|jM f)
 vg:C[dg]? =some (.list<|aw.map qg)
structure ne(Z:hF)(aw:List (e1×Nat))(f:Nat->Nat->Bool)(dg bL:Nat)(w:gA):Prop where
 ok:cc Z [] 0 w
 same:w.C[bL]? =some (.dict<|jM f)/\bL∉hZ Z w
 vg:w.C[dg]? =some (.list<|aw.map qg)/\dg∉hZ Z w
section
variable{T:List af}{e:e1×Nat}
def ne.gc(a9:ne Z aw f dg bL w):jT Z aw f dg bL w.C w.T:=⟨a9.ok.au,a9.ok.dz,a9.same.1,a9.vg.1⟩
def jR.P0(F:jR Z w az)(h:w.C[a]? =some o/\a∉hZ Z w):az.C[a]? =some o/\a∉hZ Z az:=⟨F.get h.1 h.2,λq=>(F.own a q).elim h.2<|Nat.not_le_of_lt<|fc h.1⟩
def ne.go(a9:ne Z aw f dg bL w)(F:jR Z w az)(ok:cc Z [] 0 az):ne Z aw f dg bL az:=⟨ok,F.P0 a9.same,F.P0 a9.vg⟩
def jT.push(X:jT Z aw f dg bL C T)(h:bw C S []):jT Z aw f dg bL S T:=⟨X.au.keep h λB B B=>b5,X.dz,h.get X.same b5,h.get X.vg b5⟩
def jT.av(X:jT Z aw f dg bL C T)(h:aw[i]? =some e):fq C (.L dg) (J i)=some (qg e):=j9 X.vg<|nN h
def CR:fq C (qg e) (.int 0)=some (dA e.1):=b0 (i:=0) rfl
def n9:fq C (qg e) (.int 1)=some (J e.2):=b0 (i:=1) rfl
def kN.aE(aI:kN Z N aw f dg bL)(bj:hC Z.T0 T)(h:e∈aw):aE T e.2=aE Z.T0 e.2:=gn (.refl Z.G.aG) bj.pre (aI.fC e h).row
def kN.Gw(aI:kN Z N aw f dg bL)(h:e∈aw)(aO:e'∈aw):jL f e.1 e'.1=true↔cK Z.P (Mine.aE Z.T0 e.2) (Mine.aE Z.T0 e'.2):=(aI.fC e h).ex.elim λg q=>(aI.fC e' aO).ex.elim λeO nr=>aI.F.Gw q.1.wC nr.1.wC (aI.fC e h).kr.n (aI.fC e' aO).kr.n q.2.1 nr.2.1 (λj aQ=>(q.2.2 j aQ).xE aI.X) λj aQ=>(nr.2.2 j aQ).xE aI.X
def aci(X:dX C A T a1)(aq:∀S,a0 a2 (d+6) 114 [.L A.co,J m] C=some (.L C.length,S)->bE A S ⟨C.length,C.length+4,C.length+1,C.length+8⟩ (th m true) [] .none->bw C S []->R):R:=X.co.elim λF h=>by
 have dp:=fc h.1;have ab:=lM dp;have f1:=bw.push C (l0 C.length<|lZ C.length (.L A.co)<|J m) [];have f2:=bw.push (C++l0 C.length (lZ C.length (.L A.co)<|J m)) [.cR 5 λB=>none] [];have d9:(C++l0 C.length (lZ C.length (.L A.co)<|J m)).length=C.length+8:=eo;have mk:sp (d+4) 5 [] (C++l0 C.length (lZ C.length (.L A.co)<|J m))=some (.L<|C.length+8,(C++l0 C.length (lZ C.length (.L A.co)<|J m))++[.cR 5 λB=>none]):=d9▸rfl;refine oV (k:=.int 5) (v:=.L<|C.length+8) (f2.get (wG (i:=1) rfl) b5) (qx _) rfl (by decide) λS aJ u=> ?_;have gt:∀{i:Nat},A.co<C.length+i:=λ{i}=>c7 dp<|cT _ i;have bd:=f1.trans f2;have bu:∀{i:Nat},i≠1->C.length+i≠C.length+1:=λh q=>h<|Nat.add_left_cancel q;refine aq S (go λk=>k _ _ (Pj (d:=d+1) ab) _ _<|go λk=>k _ _ mk _ (ky (f2.get d8 b5) rfl rfl) _ aJ) (Pk (F:=lZ C.length (.L A.co)<|J m) (G:=λB=>none) ⟨rfl,rfl,rfl,rfl,rfl,rfl,rfl,rfl,rfl,rfl,rfl,rfl,rfl,rfl,rfl,rfl,rfl,rfl⟩ dp gt gt (show([0,2,3,4,5,6,7,1,8].map (C.length+·)).Nodup from sT (by decide) λB B B B h=>Nat.add_left_cancel h) (λi ah=>(u.bU.same _ (c7 (Nat.add_lt_add_left ((by decide:∀i∈n7,i<8) i ah) _)<|a3 (cM d9.symm) f2.len)<|fv<|bu<|(by decide:∀i∈n7,i≠1) i ah).trans<|(f2.same _ (c7 (Nat.add_lt_add_left ((by decide:∀i∈n7,i<8) i ah) _)<|cM d9.symm) b5).trans<|V (wk<|cT _ _)<|ai (λi=>_)<|Nat.add_sub_cancel_left (n:=C.length) (m:=i)) (u.i6<|f2.get (wG (i:=1) rfl) b5) (u.get (d9▸d8)<|bu<|by decide) rfl) ⟨a3 bd.len u.bU.len,λa h B=>(u.bU.same a (c7 h bd.len)<|fv<|dU<|ow h).trans<|bd.same a h b5⟩
end
end
section
noncomputable def P1:List dB:=jN<|(jN<|il 14).getD 0 .fA
noncomputable def CS(i:Nat):dB:=P1.getD i .fA
section
variable{T:List af}{e:e1×Nat}{t:Int}
def jT.bx(aI:kN Z N aw f dg bL)(X:jT Z aw f dg bL C T)(hm:m=1\/m=2\/m=3\/m=4)(aq:∀S Q,a0 a2 (d+6) 114 [.L Z.A.co,J m] C=some (.L Q.q,S)->ne Z aw f dg bL ⟨S,T,Q,th m true,none⟩->R):R:=
 aci (d:=d) (m:=m) X.au λS c acj bU=>
  have cW:∀{a:Nat} {o:b3},Z.A.t+2<a->C[a]? =some o->a∉hZ Z ⟨S,T,⟨C.length,C.length+4,C.length+1,C.length+8⟩,th m true,none⟩:=λ{a o} h q=>qe (dd<|Nat.lt_of_succ_lt h) (qe (dd h) λk=>(qv (s:=[0,2,3,4,5,7].map (C.length+·)) (t:=[]).mp k).elim (λk=>(e4 k).elim λi k=>lu (cT C.length i)<|k.2.symm▸fc q) fO);have ii:=X.push bU
  aq S ⟨C.length,C.length+4,C.length+1,C.length+8⟩ c ⟨⟨ii.au,ii.dz,⟨acj,hm,.nil,λB=>fO,λB=>fO,.nil,λB=>fO,λB=>fO,λB=>fO,rfl,jA _⟩,λB=>bf⟩,⟨ii.same,cW aI.s X.same⟩,⟨ii.vg,cW aI.e X.vg⟩⟩
def kN.at(aI:kN Z N aw f dg bL)(a9:ne Z aw f dg bL w)(h:e∈aw):nY w.T N e.1 e.2:=(aI.fC e h).pre Z.G a9.ok.dz.pre
def ack(aI:kN Z N aw f dg bL)(a9:ne Z aw f dg bL w)(gg:Top w.r)(bz:w.r.bz=[])(dF:H 5=some (J i))(eU:H 11=some (.L dg))(jG:H 14=some (J j))(sK:H 19=some (.int t))(kD:H 20=some (.L w.Q.q))(he:aw[i]? =some e)(gU:aw[j]? =some e')(aP:0<=t->w.r.aM∈[4,1,2]/\qc w.r.aM e.1 e'.1=t)(aq:∀az,cw (bk 638) (CS 2) H w.C=some (.next,H,az.C)->az.Q.q=w.Q.q->ne Z aw f dg bL az->R):R:=by
 by_cases t0:0<=t
 ·have X:=a9.gc;have aB:=aI.at a9 (dK he);have rW:=aI.at a9 (dK gU);have q:=aP t0;refine CL a9.ok gg ⟨aB.row,rW.row⟩ (aB.mL aI.ok) (rW.mL aI.ok) λb az c kh Ho=>aB.ex.elim λg k=>rW.ex.elim λeO cy=> ?_;have cP:w.r.aM≠3:=λm=>absurd (m▸q.1) (by decide);have r:=aca q.1 aB.kr rW.kr k.1.wC cy.1.wC k.2.1 cy.2.1<|Ho bz cP;rw[q.2]at r;refine aq az (r.elim (λr=> ?_) λr=>r.elim (λr=> ?_) λr=>absurd (r▸t0)<|by decide) (V kh.sD rfl) (a9.go kh.bU kh.ok)
  ·rw[r.1]at sK;rw[r.2]at c;exact gx λk=>k _ sK _ (ka rfl) _ kD _ eU _ dF _ (X.av he) _ n9 _ eU _ jG _ (X.av gU) _ n9 _ _ c _ sK _ (gY rfl) _ rfl
  ·rw[r.1]at sK;rw[r.2]at c;exact gx λk=>k _ sK _ (ka rfl) _ kD _ eU _ dF _ (X.av he) _ n9 _ eU _ jG _ (X.av gU) _ n9 _ _ c _ sK _ (gY rfl) _ rfl
 ·exact aq w (gx λk=>k _ sK _<|ka<|cp t0) rfl a9
def acl(aI:kN Z N aw f dg bL)(a9:ne Z aw f dg bL w)(dF:H 5=some (J i))(eU:H 11=some (.L dg))(jG:H 14=some (J j))(kD:H 20=some (.L w.Q.q))(he:aw[i]? =some e)(gU:aw[j]? =some e')(aq:∀az,cw (bk 638) (CS 3) H w.C=some (.next,H,az.C)->ne Z aw f dg bL az->R):R:=
 (hT (aI.at a9 (dK he)).row).elim λa aU=>Pi (d:=633) a9.ok aU (a9.ok.cX.at (i:=13) rfl) (.inr rfl) λax cA a6 cv=>
  have ti:=a9.go cv.bU cv.ok
  (hT (aI.at ti (dK gU)).row).elim λb aj=>Pi (d:=633) ti.ok (ti.ok.cX.at (i:=13) rfl) aj (.inl rfl) λbq mr bS d7=>aq {w with C:=bq,T:=mr} (gx λk=>k _ kD _ eU _ dF _ (a9.gc.av he) _ n9 _ _ a6 _ kD _ eU _ jG _ (ti.gc.av gU) _ n9 _ _ bS)<|ti.go d7.bU d7.ok
def P2(aI:kN Z N aw f dg bL)(X:jT Z aw f dg bL C T)(dF:H 5=some (J i))(gv:H 9=some (.L Z.A.co))(eU:H 11=some (.L dg))(jG:H 14=some (J j))(xc:H 18=some (J m))(he:aw[i]? =some e)(gU:aw[j]? =some e')(hm:m∈[3,4,1,2])(aq:∀x y S a7,cG (bk 638) P1 H C=some (.next,ar (ar H 19 x) 20 y,S)->jT Z aw f dg bL S a7->R):R:=by
 have xd:=(by decide:∀m∈[3,4,1,2],(m=1\/m=2\/m=3\/m=4)/\(m=3\/m∈[4,1,2])) m hm;have t:∃t:Int,cw (bk 638) (CS 0) H C=some (.next,ar H 19<|.int t,C)/\(0<=t->m∈[4,1,2]/\qc m e.1 e'.1=t):=by
  by_cases bl:m=3
  ·exact⟨-1,gx λk=>k _ xc _<|cY (b:=3) bl,λh=>absurd h<|by decide⟩
  ·exact⟨_,gx λk=>k _ xc _ (bN (b:=3) bl) _ eU _ dF _ (X.av he) _ CR _ eU _ jG _ (X.av gU) _ CR _ xc _ _<|ZD (d:=637) (aI.fC e<|dK he).kr (aI.fC e'<|dK gU).kr,λB=>⟨xd.2.resolve_left bl,rfl⟩⟩
 refine t.elim λt h=>X.bx (d:=632) aI xd.1 λax Q a6 a9=>ack (H:=ar (ar H 19<|.int t) 20<|.L Q.q) aI a9 ⟨rfl,rfl,rfl,rfl⟩ rfl dF eU jG rfl rfl he gU h.2 λbn bS eW oa=>acl (H:=ar (ar H 19<|.int t) 20<|.L Q.q) aI oa dF eU jG (ai (λq=>some<|I.L q) eW.symm) he gU λfx d2 xe=> ?_;have g0:cw (bk 638) (CS 1) (ar H 19<|.int t) C=some (.next,ar (ar H 19<|.int t) 20<|.L Q.q,ax):=gx λk=>k _ gv _ xc _ _ a6;exact aq _ _ fx.C fx.T ((eB h.1).trans<|(eB g0).trans<|(eB bS).trans<|oT d2) xe.gc
end
end
section
noncomputable def HI:List dB:=jN<|il 15
noncomputable def zy(i:Nat):dB:=HI.getD i .fA
noncomputable def P4:List dB:=jN<|(jN<|zy 3).getD 0 .fA
noncomputable def acm(a b:Nat):dB:=.ite (.or (.not (.a5 40 [.E 20,.av (.av (.E 11)<|.E a)<|U 1,.av (.av (.E 11)<|.E b)<|U 1]))<|.not (.b1 (.aZ (.E 20) 37) 13 [])) [.ret<|.bc<|.bool false] []
section
variable{T:List af}{e bM aD aF:e1×Nat}{t:Int}
def P5:eh C .bu (.bool c) (.bool c)=some false:=by cases c<;>rfl
def P6(aI:kN Z N aw f dg bL)(a9:ne Z aw f dg bL w)(gg:Top w.r)(hm:w.r.aM≠2/\w.r.aM≠3)(eU:H 11=some (.L dg))(kD:H 20=some (.L w.Q.q))(aU:H a=some (J i))(aj:H b=some (J j))(he:aw[i]? =some e)(gU:aw[j]? =some e')(al:cK Z.P (aE Z.T0 e.2) (aE Z.T0 e'.2))(aq:∀az,cw (bk 638) (acm a b) H w.C=some (.next,H,az.C)->az.Q.q=w.Q.q->az.r.aM=w.r.aM->Top az.r->ne Z aw f dg bL az->R):R:=by have X:=a9.gc;have aB:=aI.at a9 (dK he);have rW:=aI.at a9 (dK gU);rw[<-aI.aE a9.ok.dz (dK he),<-aI.aE a9.ok.dz (dK gU)]at al;refine CL a9.ok gg ⟨aB.row,rW.row⟩ (aB.mL aI.ok) (rW.mL aI.ok) λb az c kh B=> ?_;obtain rfl:=(kh.wZ.2 hm.2).kI hm.1<|.i8 al;have P7:=kh.top<|.inr ⟨hm.1,.i8 al⟩;have q:az.Q.q=w.Q.q:=V kh.sD rfl;have K:=kh.ok.k.bx;exact aq az (gx λk=>k _ kD _ eU _ aU _ (X.av he) _ n9 _ eU _ aj _ (X.av gU) _ n9 _ _ c _ (q▸kD) _ K.qh _ (K.d9 λB F B B h B c=>hM c.2.2.2.2.2.1 h.2.2 rfl) _ _<|go λk=>k _ K.qi _<|uw (l:=[])<|K.mv.trans<|ai (λl=>some<|b3.list l) P7.ns) q kh.aM P7<|a9.go kh.bU kh.ok
def P8(aI:kN Z N aw f dg bL)(X:jT Z aw f dg bL C T)(dF:H 5=some (J i))(gv:H 9=some (.L Z.A.co))(eU:H 11=some (.L dg))(jG:H 14=some (J j))(xc:H 18=some (J m))(he:aw[i]? =some e)(gU:aw[j]? =some e')(hm:m∈[4,1])(al:cK Z.P (aE Z.T0 e.2) (aE Z.T0 e'.2))(aq:∀y S a7,cG (bk 638) P4 H C=some (.next,ar H 20 y,S)->jT Z aw f dg bL S a7->R):R:=by have xd:=(by decide:∀m∈[4,1],(m=1\/m=2\/m=3\/m=4)/\(m≠2/\m≠3)) m hm;refine X.bx (d:=632) aI xd.1 λax Q a6 a9=>P6 (H:=ar H 20<|.L Q.q) (a:=5) (b:=14) aI a9 ⟨rfl,rfl,rfl,rfl⟩ xd.2 eU rfl dF jG he gU al λbn bS eW cU acn oa=>P6 (H:=ar H 20<|.L Q.q) (a:=14) (b:=5) aI oa acn (cU.symm▸xd.2) eU (ai (λq=>some<|I.L q) eW.symm) jG dF gU he al.symm λfx d2 B B B xe=> ?_;have gZ:cw (bk 638) (P4.getD 0 .fA) H C=some (.next,ar H 20<|.L Q.q,ax):=gx λk=>k _ gv _ xc _ _ a6;exact aq _ fx.C fx.T ((eB gZ).trans<|(eB bS).trans<|oT d2) xe.gc
def HJ(aI:kN Z N aw f dg bL)(X:jT Z aw f dg bL C T)(dF:H 5=some (J i))(iL:H 8=some (.L bL))(gv:H 9=some (.L Z.A.co))(eU:H 11=some (.L dg))(jG:H 14=some (J j))(he:aw[i]? =some e)(gU:aw[j]? =some e')(aq:∀aT S a7,cG (bk 638) HI H C=some (.next,aT,S)->aT 8=H 8->aT 9=H 9->aT 11=H 11->jT Z aw f dg bL S a7->R):R:=by
 have dy:=dK he;have xf:=dK gU;refine No (d:=636) (aI.fC e dy).kr.n.lt (aI.fC e' xf).kr.n.lt X.same λs0 oQ f0=> ?_;have gZ:cw (bk 638) (zy 0) H C=some (.next,ar H 21<|.bool<|jL f e.1 e'.1,s0):=gx λk=>k _ eU _ dF _ (X.av he) _ CR _ eU _ jG _ (X.av gU) _ CR _ iL _ _ oQ;refine(X.push f0).bx (d:=632) (m:=3) aI (.inr<|.inr<|.inl rfl) λbe Q a6 a9=> ?_;have g0:cw (bk 638) (zy 1) (ar H 21<|.bool<|jL f e.1 e'.1) s0=some (.next,ar (ar H 21<|.bool<|jL f e.1 e'.1) 20<|.L Q.q,be):=gx λk=>k _ gv _ _ a6;have A:=aI.at a9 dy;have nV:=aI.at a9 xf;refine CL a9.ok ⟨rfl,rfl,rfl,rfl⟩ ⟨A.row,nV.row⟩ (A.mL aI.ok) (nV.mL aI.ok) λb bn bS kh B=> ?_;have oa:=a9.go kh.bU kh.ok;have D:=aI.at oa dy;have oI:=aI.at oa xf;refine CL oa.ok (kh.top<|.inl rfl) ⟨oI.row,D.row⟩ (oI.mL aI.ok) (D.mL aI.ok) λb' fx d2 HK B=> ?_;have xe:=oa.go HK.bU HK.ok;have ia:=kh.wZ.1 rfl;have gE:=HK.wZ.1 kh.aM;rw[aI.aE a9.ok.dz dy,aI.aE a9.ok.dz xf]at ia;rw[aI.aE oa.ok.dz dy,aI.aE oa.ok.dz xf]at gE;have HL:=aI.Gw dy xf;obtain rfl:b=jL f e.1 e'.1:=Bool.eq_iff_iff.mpr<|ia.trans HL.symm;obtain rfl:b'=jL f e.1 e'.1:=Bool.eq_iff_iff.mpr<|(gE.trans ⟨.symm,.symm⟩).trans HL.symm;have eW:bn.Q.q=Q.q:=V kh.sD rfl;have jb:cw (bk 638) (zy 2) (ar (ar H 21<|.bool<|jL f e.1 e'.1) 20<|.L Q.q) be=some (.next,ar (ar H 21<|.bool<|jL f e.1 e'.1) 20<|.L Q.q,fx.C):=gx λk=>k _ rfl _ eU _ dF _ (a9.gc.av he) _ n9 _ eU _ jG _ (a9.gc.av gU) _ n9 _ _ bS _ rfl _ P5 _ rfl _ eU _ jG _ (oa.gc.av gU) _ n9 _ eU _ dF _ (oa.gc.av he) _ n9 _ _ (eW▸d2) _ rfl _ P5;have fin:∀{aT:bT} {S:St},cw (bk 638) (zy 3) (ar (ar H 21<|.bool<|jL f e.1 e'.1) 20<|.L Q.q) fx.C=some (.next,aT,S)->cG (bk 638) HI H C=some (.next,aT,S):=λh=>(eB gZ).trans<|(eB g0).trans<|(eB jb).trans<|oT h;cases h:jL f e.1 e'.1 with
 |false=>rw[h]at fin;exact aq _ fx.C fx.T (fin<|gx λk=>k _ rfl) rfl rfl rfl xe.gc
 |true=>have al:=HL.mp h;rw[h]at fin;refine P8 (H:=ar (ar (ar H 21<|.bool true) 20<|.L Q.q) 18<|J 4) aI xe.gc dF gv eU jG rfl he gU (bo) al λy fD zb eQ f6=>P8 (H:=ar (ar (ar (ar (ar H 21<|.bool true) 20<|.L Q.q) 18<|J 4) 20 y) 18<|J 1) aI f6 dF gv eU jG rfl he gU (bQ _ bo) al λzw iN GO gV jI=> ?_;exact aq _ iN GO (fin<|Mi (Fj λk=>k _ rfl)<|oT<|lL (l:=[J 4,J 1]) rfl<|eT rfl eQ<|eT rfl gV rfl) rfl rfl rfl jI
end
end
section
section
variable{T:List af}{bM aD aF:e1×Nat}
def CT(aI:kN Z N [bM,aD,aF] f dg bL)(X:jT Z [bM,aD,aF] f dg bL C T)(gv:H 9=some (.L Z.A.co))(eU:H 11=some (.L dg))(hm:m∈[3,4,1,2])(aq:∀aT S a7,cG (bk 638) (jN<|il 14) (ar H 18<|J m) C=some (.next,aT,S)->aT 8=H 8->aT 9=H 9->aT 11=H 11->jT Z [bM,aD,aF] f dg bL S a7->R):R:=P2 (H:=ar (ar (ar H 18<|J m) 5<|J 0) 14<|J 1) aI X rfl gv eU rfl rfl rfl rfl hm λx y ax cA a6 dC=>P2 (H:=ar (ar (ar (ar (ar (ar H 18<|J m) 5<|J 0) 14<|J 1) 19 x) 20 y|>(ar · 5 (J 2))) 14<|J 0) aI dC rfl gv eU rfl rfl rfl rfl hm λqB zw bq mr bS fm=>aq _ bq mr (oT<|wg (l:=[.ak [J 0,J 1],.ak [J 2,J 0]]) (iv:=none) rfl rfl<|eT rfl a6<|eT rfl bS rfl) rfl rfl rfl fm
def aco(aI:kN Z N [bM,aD,aF] f dg bL)(X:jT Z [bM,aD,aF] f dg bL C T)(gv:H 9=some (.L Z.A.co))(eU:H 11=some (.L dg))(aq:∀aT S a7,cw (bk 638) (il 14) H C=some (.next,aT,S)->aT 8=H 8->aT 9=H 9->aT 11=H 11->jT Z [bM,aD,aF] f dg bL S a7->R):R:=CT aI X gv eU (m:=3) (by decide) λci ax cA a6 pY fF iO dC=>CT aI dC (fF.trans gv) (iO.trans eU) (m:=4) (by decide) λdr bq mr bS nG hu ev fm=>CT aI fm (hu.trans<|fF.trans gv) (ev.trans<|iO.trans eU) (m:=1) (by decide) λke cB wK d2 uk mW fI nc=>CT aI nc (mW.trans<|hu.trans<|fF.trans gv) (fI.trans<|ev.trans<|iO.trans eU) (m:=2) (by decide) λBO fD zb eQ nH Fy acp f6=>aq BO fD zb (lL (l:=[J 3,J 4,J 1,J 2]) rfl<|eT rfl a6<|eT rfl bS<|eT rfl d2<|eT rfl eQ rfl) (nH.trans<|uk.trans<|nG.trans pY) (Fy.trans<|mW.trans<|hu.trans fF) (acp.trans<|fI.trans<|ev.trans iO) f6
def acq(aI:kN Z N [bM,aD,aF] f dg bL)(X:jT Z [bM,aD,aF] f dg bL C T)(iL:H 8=some (.L bL))(gv:H 9=some (.L Z.A.co))(eU:H 11=some (.L dg))(aq:∀aT S,cw (bk 638) (il 15) H C=some (.next,aT,S)->R):R:=HJ (H:=ar (ar H 5<|J 0) 14<|J 1) (i:=0) (j:=1) aI X rfl iL gv eU rfl rfl rfl λci ax cA a6 pY fF iO dC=>HJ (H:=ar (ar ci 5<|J 1) 14<|J 2) (i:=1) (j:=2) aI dC rfl (pY.trans iL) (fF.trans gv) (iO.trans eU) rfl rfl rfl λdr bq mr bS nG hu ev fm=>HJ (H:=ar (ar dr 5<|J 0) 14<|J 2) (i:=0) (j:=2) aI fm rfl (nG.trans<|pY.trans iL) (hu.trans<|fF.trans gv) (ev.trans<|iO.trans eU) rfl rfl rfl λke cB wK d2 B B B B=>aq ke cB<|wg (l:=[.ak [J 0,J 1],.ak [J 1,J 2],.ak [J 0,J 2]]) (iv:=none) rfl rfl<|eT rfl a6<|eT rfl bS<|eT rfl d2 rfl
end
def ada(zs:List Int):∃S,a0 a2 639 115 [.L 0] [.list<|zs.map .int]=some (.bool true,S):=by have L:∀{a b:Nat},a=b->some (I.L b)=some (I.L a):=λh=>h▸rfl;refine ZQ (d:=633) (C:=[.list<|zs.map .int]) (zs:=zs) rfl λci be dr bF s3 s4 D aG na N oQ a6 bS d2 bi nu fE on y0 o9=> ?_;refine ZT (d:=635) (H:=ar (ar dr 2<|.L D.a) 3<|.L aG) bi rfl nu fE on y0 o9 λs5 pJ Al A a4 eQ gV gM fC P=> ?_;subst fC;refine ZV (d:=631) (H:=ar (ar (ar (ar (ar dr 2<|.L D.a) 3<|.L a4.aG) 4<|.L A.t) 6<|.L a4.gk) 7<|.L a4.hq) P rfl rfl rfl rfl λBH T e8 fy e2 fN P3 uT kF fF hu=> ?_;refine Z0 (d:=637) (H:=ar (ar (ar (ar (ar (ar (ar (ar dr 2<|.L D.a) 3<|.L a4.aG) 4<|.L A.t) 6<|.L a4.gk) 7<|.L a4.hq) 5<|J 0) 5<|J 1) 5<|J 2) P3 (by decide) bi rfl rfl rfl rfl kF fF hu λadb y5 a1 lP jk du n2 jr uX f6 pE=> ?_;refine Z2 (d:=632) (H:=ar (ar (ar (ar (ar (ar (ar (ar dr 2<|.L D.a) 3<|.L a4.aG) 4<|.L A.t) 6<|.L a4.gk) 7<|.L a4.hq) 5<|J 0) 5<|J 1) 5<|J 2) uX (L du) rfl λadc ade nV bL f jF pP tl wQ up eV=> ?_;refine Z9 (d:=631) (H:=ar (ar (ar (ar (ar (ar (ar (ar (ar (ar dr 2<|.L D.a) 3<|.L a4.aG) 4<|.L A.t) 6<|.L a4.gk) 7<|.L a4.hq) 5<|J 0) 5<|J 1) 5<|J 2) 8<|.L bL) 9<|.L nV.co) wQ bi rfl (L du) (L tl) (L n2) (L jr) rfl rfl pE (by decide) (a3 uT<|by decide) λke BO Os qf adf adg On m0 dg bM aD aF qU qT vW zz mu dp v2 Cg r2 CB=> ?_;have HM:=f6.pre mu.cX v2;have aI:kN ⟨On,a1,nV,mu.cX,HM.D,acf mu.cX<|a3 Cg<|fl uT 39⟩ lP [bM,aD,aF] f dg bL:=⟨HM,CB,HM.acg up eV,mu.ok,mu.s,ea (c1 (hA (by decide) _) mu.au.Cd) dp⟩;refine aco aI ⟨mu.au,.refl mu.cX.aG,mu.same.c,r2⟩ zz.y6 zz.Cc λadh adi Oo AM acr acs act acu=>acq aI acu (acr.trans zz.v7) (acs.trans zz.y6) (act.trans zz.Cc) λadj acv EB=>⟨acv,?_⟩;exact q7 [true,true,true,true,true,true,true,true,true,true,true,true,true,true,true,true] λr=>r _ _ _ oQ _ _ _ a6 _ _ _ bS _ _ _ d2 _ _ _ eQ _ _ _ gV _ _ _ gM _ _ _ fN _ _ _ jk _ _ _ jF _ _ _ pP _ _ _ qU _ _ _ qT _ _ _ vW _ _ _ AM _ _ _ EB
end
end
theorem lawM:E8:=fun zs _=>(ada zs).elim fun s h=>⟨639,s,by decide,h⟩
end Mine
theorem PySem.Challenge.cw_pq0592_01_holds : PySem.Challenge.rw_pq0592_01.Holds :=
  Mine.ac8 Mine.lawM
